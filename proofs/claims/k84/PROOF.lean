import PyProof.Rows.All
import Wide.All
import OpenK.AllK
import Wide.FinOn
import HandS.ForMost
import HandS.Exc
import HandS.WordsExc
import HandS.ExcSuper
import HandS.ExcIs
import HandS.ExcField
import KE.KSuper
import KE.KExcSuper
import HandS.TupAny
import HandS.TupMul
import HandS.Wide
import HandS.WideBits
import HandS.Gcd
import HandS.IsInst
import HandS.Walk
import KE.DataEq
import KE.DataCmp
import KE.DataMinMax
import KE.SortData
import KE.GoesEnum
import HandS.ExcInit
import HandS.TryOnly
import KE.KExcIs
import HandS.Ends
import HandS.Small
import HandS.Deep
import HandS.TryMany
import HandS.Text
import HandS.CallLocal
import PyProof.StrOps2
import HandS.More
import HandS.Iter
import KE.IntTextLaws
import PySem.Challenge.RW_sequencesandadvice_k84_texts_of_gains_an
set_option Elab.async false
set_option linter.all false
set_option maxRecDepth 100000
set_option maxHeartbeats 4000000
/-! PL, part x: an own error class over ValueError whose __init__ says super().__init__('..'); self.f = f -/
namespace PLX
open PySem PySem.W PySem.Calls PySem.Spec PyProof.Rows PySem.HandSPX
section
variable {prog : Program} {w : World} {A : Around} {E : Value → Shared → Prop} {h : Heap} {g : Array GenState} {d : Drawn} {t : Nat} {os : OsState}
variable {nm q : Str} {C N : Addr} {bs bm : List Value} {hdct : Bool} {sn : List Str} {sub : List Value} {ab : Bool} {col : Option Bool} {dd : Option Addr} {k0 k1 k2 k3 k5 : Option Value}
/-- the bound ValueError.__init__ called -/
theorem call_mw {u e t0 : Addr} {rest : List Value} {Q : Value → Shared → Prop} (hm : refsVE bm = true)
    (hC : h.get? C = some (excClassObj nm q C N bs bm hdct sn sub ab col dd k0 k1 k2 k3 k5 "ValueError.__new__")) (he : h.get? e = some (excO C t0)) (hu : h.get? u = some (kxs_mw "ValueError.__init__" e)) (hrest : rest.length ≤ sizeLine)
    (hq : ∀ h' t1, (∀ b o, b ≠ e → h.get? b = some o → h'.get? b = some o) → h'.get? e = some (excO C t1) → Q .none ⟨h', g, d, t, os⟩) :
    wpAny (model prog w) A (call (.ref u) rest) Q E ⟨h, g, d, t, os⟩ := by
  refine wpAny_call (codeAny_of_tree ?_)
  show wpAny _ A.in1 (callAny (.ref u) ⟨rest, []⟩) _ _ _
  simp only [callAny]
  refine wpAny_bind (wpAny_load hu ?_)
  simp only [kxs_mw, show (Value.type "method-wrapper" == Value.type "method" || Value.type "method-wrapper" == Value.type "builtin_function_or_method" || Value.type "method-wrapper" == Value.type "method-wrapper") = true by decide, if_true]
  refine KFB.if_so (by decide) ?_
  refine wpAny_bind (PySem.ESX.check_bound F.excBase_ValueError hC he rfl ?_)
  refine wpAny_bind (wpAny_pure (wpAny_pure ?_))
  refine ⟨Code.quiet_builtin _ (by decide +kernel), codeAny_builtin F.excBase_ValueError.initEntry ?_⟩
  rw [Around.under_plainId F.excBase_ValueError.init.plain _]
  wp_walk
  refine hq _ h.objs.size (fun b o hb ho => ?_) ?_
  · rw [Heap.get?_update_other _ _ (Ne.symm hb)]
    exact Heap.get?_push_of_some _ ho
  · rw [Heap.get?_update_self _ (Heap.get?_push_of_some _ he) rfl]
    rfl
end
end PLX
/-! PL, part a: plain values, the store, how they lie in the abstract heap. -/
namespace PL
open PySem PySem.Spec PyProof.Rows L2
/-- a plain value: tuples and finished lists are trees; frz: a list that is only read; loc: a place of the store; con: any other value -/
inductive PV where
  | non | bl (b : Bool) | int (i : Int) | str (x : Str)
  | tup (xs : List PV) | lst (xs : List PV) | frz (xs : List PV) | loc (l : Nat) | con (v : V)
  | exc (a d : Nat) (ns : List Str) (xs : List PV)
/-- what stands at a place of the store -/
inductive PO where
  | lst (xs : List PV)
  /-- a dict whose keys are ints and texts; the same while a loop walks it -/
  | dic (kvs : List (Key × PV)) | fdic (kvs : List (Key × PV))
abbrev Store := List PO
inductive Res (α : Type) where
  | ok (a : α) (st : Store)
  | err (n : Str) (fs : Option (List (Str × PV))) (st : Store)
  | stuck
def Res.bind {α β : Type} : Res α → (α → Store → Res β) → Res β
  | .ok a st, k => k a st
  | .err n fs st, _ => .err n fs st
  | .stuck, _ => .stuck
/-- the frozen part of the heap, and where the places of the store lie -/
structure Wo where
  F : Hp
  ρ : List Addr
section
variable (K : PySem.W.Frag) (ω : Wo)
mutual
inductive Rep : PV → V → Prop
  | non : Rep .non .non
  | bl (b : Bool) : Rep (.bl b) (.bl b)
  | int (i : Int) : Rep (.int i) (.int i)
  | str (x : Str) : Rep (.str x) (.str x)
  | tup {a : Addr} {vs : List V} {xs : List PV} : ω.F a = some (.tup vs) → Reps xs vs → Rep (.tup xs) (.ref a)
  | lst {a : Addr} {vs : List V} {xs : List PV} : ω.F a = some (.lst vs) → Reps xs vs → Rep (.lst xs) (.ref a)
  | frz {a : Addr} {vs : List V} {xs : List PV} : SqL K ω.F a vs → Reps xs vs → Rep (.frz xs) (.ref a)
  | loc {a : Addr} {l : Nat} : ω.ρ[l]? = some a → Rep (.loc l) (.ref a)
  | con (v : V) : Rep (.con v) v
  | exc {a d : Addr} {ns : List Str} {xs : List PV} {fs : List (Str × V)} : ω.F d = some (.xd fs) → fs.map (·.1) = ns → Reps xs (fs.map (·.2)) → Rep (.exc a d ns xs) (.ref a)
inductive Reps : List PV → List V → Prop
  | nil : Reps [] []
  | cons {x : PV} {xs : List PV} {v : V} {vs : List V} : Rep x v → Reps xs vs → Reps (x :: xs) (v :: vs)
end
end
/-- the frozen part grows, the places stay -/
structure Wo.Le (ω ω' : Wo) : Prop where
  fz : Same ω.F ω'.F
  pre : ∃ r, ω'.ρ = ω.ρ ++ r
theorem Wo.Le.refl (ω : Wo) : ω.Le ω := ⟨Same.refl _, [], by simp⟩
theorem Wo.Le.trans {a b c : Wo} (h : a.Le b) (h' : b.Le c) : a.Le c := by
  obtain ⟨r, e⟩ := h.pre
  obtain ⟨r', e'⟩ := h'.pre
  exact ⟨h.fz.trans h'.fz, r ++ r', by rw [e', e, List.append_assoc]⟩
theorem Wo.Le.at {a b : Wo} (h : a.Le b) {l : Nat} {p : Addr} (e : a.ρ[l]? = some p) : b.ρ[l]? = some p := by
  obtain ⟨r, q⟩ := h.pre
  rw [q]
  have hl : l < a.ρ.length := by
    rcases Nat.lt_or_ge l a.ρ.length with z | z
    · exact z
    · rw [List.getElem?_eq_none z] at e; cases e
  rw [List.getElem?_append_left hl]
  exact e
section
variable {K : PySem.W.Frag} {ω ω' : Wo}
mutual
theorem Rep.mono (h : ω.Le ω') : ∀ {x : PV} {v : V}, Rep K ω x v → Rep K ω' x v
  | _, _, .non => .non
  | _, _, .bl b => .bl b
  | _, _, .int i => .int i
  | _, _, .str x => .str x
  | _, _, .tup e r => .tup (h.fz _ _ e) (Reps.mono h r)
  | _, _, .lst e r => .lst (h.fz _ _ e) (Reps.mono h r)
  | _, _, .frz e r => .frz (h.fz.seq e) (Reps.mono h r)
  | _, _, .loc e => .loc (h.at e)
  | _, _, .con v => .con v
  | _, _, .exc e n r => .exc (h.fz _ _ e) n (Reps.mono h r)
theorem Reps.mono (h : ω.Le ω') : ∀ {xs : List PV} {vs : List V}, Reps K ω xs vs → Reps K ω' xs vs
  | _, _, .nil => .nil
  | _, _, .cons r t => .cons (Rep.mono h r) (Reps.mono h t)
end
theorem Reps.length : ∀ {xs : List PV} {vs : List V}, Reps K ω xs vs → xs.length = vs.length
  | _, _, .nil => rfl
  | _, _, .cons _ t => by simp [Reps.length t]
theorem Reps.get : ∀ {xs : List PV} {vs : List V} {i : Nat} {x : PV}, Reps K ω xs vs → xs[i]? = some x → ∃ v, vs[i]? = some v ∧ Rep K ω x v
  | _, _, _, _, .nil, e => by simp at e
  | _, _, 0, _, .cons r _, e => by simp at e; subst e; exact ⟨_, rfl, r⟩
  | _, _, i + 1, x, .cons _ t, e => by
    obtain ⟨u, h1, h2⟩ := Reps.get (i := i) (x := x) t (by simpa using e)
    exact ⟨u, by simpa using h1, h2⟩
theorem Reps.get' : ∀ {xs : List PV} {vs : List V} {i : Nat} {v : V}, Reps K ω xs vs → vs[i]? = some v → ∃ x, xs[i]? = some x ∧ Rep K ω x v
  | _, _, _, _, .nil, e => by simp at e
  | _, _, 0, _, .cons r _, e => by simp at e; subst e; exact ⟨_, rfl, r⟩
  | _, _, i + 1, x, .cons _ t, e => by
    obtain ⟨u, h1, h2⟩ := Reps.get' (i := i) (v := x) t (by simpa using e)
    exact ⟨u, by simpa using h1, h2⟩
theorem Reps.append : ∀ {xs ys : List PV} {vs ws : List V}, Reps K ω xs vs → Reps K ω ys ws → Reps K ω (xs ++ ys) (vs ++ ws)
  | _, _, _, _, .nil, s => s
  | _, _, _, _, .cons r t, s => .cons r (Reps.append t s)
theorem Reps.take : ∀ {xs : List PV} {vs : List V} (n : Nat), Reps K ω xs vs → Reps K ω (xs.take n) (vs.take n)
  | _, _, 0, _ => by simp; exact .nil
  | _, _, _ + 1, .nil => .nil
  | _, _, n + 1, .cons r t => .cons r (Reps.take n t)
theorem Reps.drop : ∀ {xs : List PV} {vs : List V} (n : Nat), Reps K ω xs vs → Reps K ω (xs.drop n) (vs.drop n)
  | _, _, 0, r => r
  | _, _, _ + 1, .nil => .nil
  | _, _, n + 1, .cons _ t => Reps.drop n t
theorem Reps.set : ∀ {xs : List PV} {vs : List V} {x : PV} {v : V} (i : Nat), Rep K ω x v → Reps K ω xs vs → Reps K ω (xs.set i x) (vs.set i v)
  | _, _, _, _, _, _, .nil => .nil
  | _, _, _, _, 0, q, .cons _ t => .cons q t
  | _, _, _, _, i + 1, q, .cons r t => .cons r (Reps.set i q t)
theorem Reps.replicate : ∀ {xs : List PV} {vs : List V} (n : Nat), Reps K ω xs vs → Reps K ω (List.replicate n xs).flatten (List.replicate n vs).flatten
  | _, _, 0, _ => .nil
  | xs, vs, n + 1, r => by
    rw [List.replicate_succ, List.replicate_succ, List.flatten_cons, List.flatten_cons]
    exact r.append (Reps.replicate n r)
theorem Reps.one {x : PV} {v : V} (r : Rep K ω x v) : Reps K ω [x] [v] := .cons r .nil
end
/-- what a place of the store holds -/
inductive RepD (K : PySem.W.Frag) (ω : Wo) : List (Key × PV) → List (Key × V) → Prop
  | nil : RepD K ω [] []
  | cons {k : Key} {x : PV} {v : V} {xs : List (Key × PV)} {vs : List (Key × V)} : Rep K ω x v → RepD K ω xs vs → RepD K ω ((k, x) :: xs) ((k, v) :: vs)
theorem RepD.mono {K : PySem.W.Frag} {ω ω' : Wo} (h : ω.Le ω') {xs : List (Key × PV)} {vs : List (Key × V)} (r : RepD K ω xs vs) : RepD K ω' xs vs := by
  induction r with
  | nil => exact .nil
  | cons r _ ih => exact .cons (r.mono h) ih
def ObjR (K : PySem.W.Frag) (ω : Wo) (H : Hp) (a : Addr) : PO → Prop
  | .lst xs => ∃ vs, H a = some (.lst vs) ∧ Reps K ω xs vs
  | .dic kvs => ∃ vs, H a = some (.dK vs) ∧ RepD K ω kvs vs
  | .fdic kvs => ∃ vs od, ω.F a = some (.frz od (.dK vs)) ∧ H a = some (.frz od (.dK vs)) ∧ RepD K ω kvs vs
theorem ObjR.some {K : PySem.W.Frag} {ω : Wo} {H : Hp} {a : Addr} : ∀ {o : PO}, ObjR K ω H a o → ∃ u, H a = some u
  | .lst _, ⟨_, e, _⟩ => ⟨_, e⟩
  | .dic _, ⟨_, e, _⟩ => ⟨_, e⟩
  | .fdic _, ⟨_, _, _, e, _⟩ => ⟨_, e⟩
theorem ObjR.tr {K : PySem.W.Frag} {ω ω' : Wo} {H H' : Hp} {a : Addr} (le : ω.Le ω') (e : H' a = H a) : ∀ {o : PO}, ObjR K ω H a o → ObjR K ω' H' a o
  | .lst _, ⟨vs, h, r⟩ => ⟨vs, e.trans h, r.mono le⟩
  | .dic _, ⟨vs, h, r⟩ => ⟨vs, e.trans h, r.mono le⟩
  | .fdic _, ⟨vs, od, hF, h, r⟩ => ⟨vs, od, le.fz _ _ hF, e.trans h, r.mono le⟩
structure Wd (K : PySem.W.Frag) (ω : Wo) (st : Store) (H : Hp) : Prop where
  sub : Same ω.F H
  len : ω.ρ.length = st.length
  nd : ω.ρ.Nodup
  sep : ∀ a ∈ ω.ρ, ω.F a = none ∨ ∃ od u, ω.F a = some (.frz od u)
  obj : ∀ (l : Nat) (a : Addr) (o : PO), ω.ρ[l]? = some a → st[l]? = some o → ObjR K ω H a o
structure Ext (ω : Wo) (H : Hp) (ω' : Wo) (H' : Hp) : Prop where
  le : ω.Le ω'
  oth : ∀ b o, H b = some o → b ∉ ω.ρ → H' b = some o
  live : ∀ b, H b ≠ none → H' b ≠ none
  nF : ∀ b, ω'.F b ≠ none → ω.F b ≠ none ∨ H b = none
  nρ : ∀ b, b ∈ ω'.ρ → b ∈ ω.ρ ∨ H b = none
  fr : ∀ b od u, H b = some (.frz od u) → H' b = some (.frz od u)
theorem Ext.refl (ω : Wo) (H : Hp) : Ext ω H ω H := ⟨.refl ω, fun _ _ h _ => h, fun _ h => h, fun _ h => .inl h, fun _ h => .inl h, fun _ _ _ h => h⟩
theorem Ext.trans {ω1 ω2 ω3 : Wo} {H1 H2 H3 : Hp} (a : Ext ω1 H1 ω2 H2) (b : Ext ω2 H2 ω3 H3) : Ext ω1 H1 ω3 H3 where
  le := a.le.trans b.le
  oth := fun p o h n => b.oth p o (a.oth p o h n) fun m => by
    rcases a.nρ p m with z | z
    · exact n z
    · rw [h] at z; cases z
  live := fun p h => b.live p (a.live p h)
  nF := fun p h => by
    rcases b.nF p h with z | z
    · exact a.nF p z
    · refine .inr ?_
      cases q : H1 p with
      | none => rfl
      | some o => exact absurd z (a.live p (by rw [q]; simp))
  nρ := fun p h => by
    rcases b.nρ p h with z | z
    · exact a.nρ p z
    · refine .inr ?_
      cases q : H1 p with
      | none => rfl
      | some o => exact absurd z (a.live p (by rw [q]; simp))
  fr := fun p od u h => b.fr p od u (a.fr p od u h)
section
variable {K : PySem.W.Frag} {ω ω' : Wo} {st st' : Store} {H H' : Hp}
theorem Wd.lt (h : Wd K ω st H) {l : Nat} {a : Addr} (e : ω.ρ[l]? = some a) : l < st.length := by
  rw [← h.len]
  rcases Nat.lt_or_ge l ω.ρ.length with z | z
  · exact z
  · rw [List.getElem?_eq_none z] at e; cases e
theorem Wd.there (h : Wd K ω st H) {a : Addr} (m : a ∈ ω.ρ) : ∃ u, H a = some u := by
  obtain ⟨l, hl, e⟩ := List.getElem_of_mem m
  have e' : ω.ρ[l]? = some a := by rw [List.getElem?_eq_getElem hl, e]
  have hs := h.lt e'
  exact (h.obj l a st[l] e' (List.getElem?_eq_getElem hs)).some
theorem Wd.ne (h : Wd K ω st H) {a p : Addr} (m : a ∈ ω.ρ) (n : H p = none) : a ≠ p := by
  obtain ⟨u, e⟩ := h.there m
  exact ne_of_none e n
theorem Wd.fresh (h : Wd K ω st H) {p : Addr} (n : H p = none) : ω.F p = none := h.sub.free n
/-- a new object is frozen at once -/
abbrev Wo.fz (ω : Wo) (p : Addr) (o : HO) : Wo := ⟨upd ω.F p o, ω.ρ⟩
theorem Wo.fz_le {p : Addr} {o : HO} (n : ω.F p = none) : ω.Le (ω.fz p o) :=
  ⟨fun b u e => by rw [show (ω.fz p o).F = upd ω.F p o from rfl, upd_ne (ne_of_none e n)]; exact e, [], by simp⟩
theorem Wd.fz (h : Wd K ω st H) {p : Addr} (n : H p = none) (o : HO) : Wd K (ω.fz p o) st (upd H p o) ∧ Ext ω H (ω.fz p o) (upd H p o) := by
  have nF := h.fresh n
  have le := Wo.fz_le (o := o) nF
  refine ⟨⟨fun b u e => ?_, h.len, h.nd, fun a m => ?_, fun l a q e1 e2 => ?_⟩, le, fun b u e m => ?_, fun b z => ?_, fun b z => ?_, fun b m => .inl m, fun b od u e => by rw [upd_ne (ne_of_none e n)]; exact e⟩
  · by_cases hb : b = p
    · subst hb
      have e : upd ω.F b o b = some u := e
      rw [upd_same] at e ⊢
      exact e
    · have e : upd ω.F p o b = some u := e
      rw [upd_ne hb] at e ⊢
      exact h.sub b u e
  · show upd ω.F p o a = none ∨ ∃ od u, upd ω.F p o a = some (.frz od u)
    rw [upd_ne (h.ne m n)]
    exact h.sep a m
  · have hq := h.obj l a q e1 e2
    have na : a ≠ p := h.ne (List.mem_of_getElem? e1) n
    exact hq.tr le (upd_ne na)
  · rw [upd_ne (ne_of_none e n)]
    exact e
  · by_cases hb : b = p
    · subst hb; rw [upd_same]; simp
    · rw [upd_ne hb]; exact z
  · by_cases hb : b = p
    · subst hb; exact .inr n
    · have z : upd ω.F p o b ≠ none := z
      rw [upd_ne hb] at z
      exact .inl z
/-- a new place of the store -/
abbrev Wo.nw (ω : Wo) (p : Addr) : Wo := ⟨ω.F, ω.ρ ++ [p]⟩
theorem Wo.nw_le {p : Addr} : ω.Le (ω.nw p) := ⟨Same.refl _, [p], rfl⟩
theorem Wd.nwO (h : Wd K ω st H) {p : Addr} (n : H p = none) (o : PO) (u : HO) (r : ∀ ω', ω.Le ω' → ObjR K ω' (upd H p u) p o) :
    Wd K (ω.nw p) (st ++ [o]) (upd H p u) ∧ Ext ω H (ω.nw p) (upd H p u) := by
  have nF := h.fresh n
  have le : ω.Le (ω.nw p) := Wo.nw_le
  refine ⟨⟨fun b u e => ?_, ?_, ?_, fun a m => ?_, fun l a q e1 e2 => ?_⟩, le, fun b u e m => ?_, fun b z => ?_, fun b z => .inl z, fun b m => ?_, fun b od u e => by rw [upd_ne (ne_of_none e n)]; exact e⟩
  · rw [upd_ne (ne_of_none (h.sub b u e) n)]
    exact h.sub b u e
  · simp [h.len]
  · refine List.nodup_append.mpr ⟨h.nd, by simp, fun a ha b hb => ?_⟩
    have e : b = p := by simpa using hb
    subst e
    exact h.ne ha n
  · rcases List.mem_append.mp m with m | m
    · exact h.sep a m
    · have e : a = p := by simpa using m
      subst e; exact .inl nF
  · rcases Nat.lt_or_ge l st.length with hl | hl
    · have e1' : ω.ρ[l]? = some a := by
        have e1 : (ω.ρ ++ [p])[l]? = some a := e1
        rw [List.getElem?_append_left (by rw [h.len]; exact hl)] at e1
        exact e1
      rw [List.getElem?_append_left hl] at e2
      have hq := h.obj l a q e1' e2
      have na : a ≠ p := h.ne (List.mem_of_getElem? e1') n
      exact hq.tr le (upd_ne na)
    · have e1 : (ω.ρ ++ [p])[l]? = some a := e1
      rw [List.getElem?_append_right (by rw [h.len]; exact hl)] at e1
      rw [List.getElem?_append_right hl] at e2
      have z : l - st.length = 0 := by
        rcases Nat.eq_zero_or_pos (l - st.length) with z | z
        · exact z
        · rw [List.getElem?_eq_none (by simp only [List.length_singleton]; omega)] at e2; cases e2
      rw [z] at e2
      rw [h.len, z] at e1
      simp only [List.getElem?_cons_zero, Option.some.injEq] at e1 e2
      subst e1
      subst e2
      exact r _ le
  · rw [upd_ne (ne_of_none e n)]
    exact e
  · by_cases hb : b = p
    · subst hb; rw [upd_same]; simp
    · rw [upd_ne hb]; exact z
  · rcases List.mem_append.mp m with m | m
    · exact .inl m
    · have e : b = p := by simpa using m
      subst e; exact .inr n
theorem Wd.nw (h : Wd K ω st H) {p : Addr} (n : H p = none) {xs : List PV} {vs : List V} (r : Reps K ω xs vs) :
    Wd K (ω.nw p) (st ++ [.lst xs]) (upd H p (.lst vs)) ∧ Ext ω H (ω.nw p) (upd H p (.lst vs)) := h.nwO n (.lst xs) (.lst vs) fun _ le => ⟨vs, upd_same, r.mono le⟩
/-- a place of the store is written -/
theorem Wd.wrO (h : Wd K ω st H) {l : Nat} {a : Addr} (e : ω.ρ[l]? = some a) {o0 : HO} (he : H a = some o0) (hn : ∀ od u, o0 ≠ .frz od u) (o : PO) (u : HO) (r : ObjR K ω (upd H a u) a o) :
    Wd K ω (st.set l o) (upd H a u) ∧ Ext ω H ω (upd H a u) := by
  have ma := List.mem_of_getElem? e
  have sepF : ∀ b u, ω.F b = some u → b ≠ a := fun b u q z => by
    subst z
    rcases h.sep b ma with n | ⟨od, u', n⟩
    · rw [n] at q; cases q
    · have := h.sub b _ n
      rw [he] at this
      cases this
      exact hn _ _ rfl
  have hl := h.lt e
  refine ⟨⟨fun b u q => ?_, ?_, h.nd, h.sep, fun l' b q e1 e2 => ?_⟩, .refl ω, fun b u q m => ?_, fun b z => ?_, fun b z => .inl z, fun b m => .inl m, fun b od u' q => ?_⟩
  · rw [upd_ne (sepF b u q)]
    exact h.sub b u q
  · rw [List.length_set]; exact h.len
  · by_cases hll : l' = l
    · subst hll
      rw [e] at e1; cases e1
      rw [List.getElem?_set_self hl] at e2; cases e2
      exact r
    · rw [List.getElem?_set_ne (Ne.symm hll)] at e2
      have hq := h.obj l' b q e1 e2
      have nb : b ≠ a := fun z => by
        subst z
        have h1 : l' < ω.ρ.length := by rw [h.len]; exact h.lt e1
        exact hll ((List.getElem?_inj h1 h.nd).mp (e1.trans e.symm))
      exact hq.tr (.refl ω) (upd_ne nb)
  · have nb : b ≠ a := fun z => m (z ▸ ma)
    rw [upd_ne nb]
    exact q
  · by_cases hb : b = a
    · subst hb; rw [upd_same]; simp
    · rw [upd_ne hb]; exact z
  · have nb : b ≠ a := fun z => by
      subst z
      rw [he] at q
      cases q
      exact hn _ _ rfl
    rw [upd_ne nb]; exact q
theorem Wd.wr (h : Wd K ω st H) {l : Nat} {a : Addr} (e : ω.ρ[l]? = some a) {ys : List V} (he : H a = some (.lst ys)) {xs : List PV} {vs : List V} (r : Reps K ω xs vs) :
    Wd K ω (st.set l (.lst xs)) (upd H a (.lst vs)) ∧ Ext ω H ω (upd H a (.lst vs)) := h.wrO e he (fun _ _ z => nomatch z) (.lst xs) (.lst vs) ⟨vs, upd_same, r⟩
end
/-! ### environments -/
abbrev PEnv := List (Option PV)
structure REnv (K : PySem.W.Frag) (ω : Wo) (env : PEnv) (σ : L2.St) : Prop where
  len : env.length = σ.length
  at' : ∀ (i : Nat) (v : PV), env[i]? = some (some v) → ∃ x, σ[i]? = some (some x) ∧ Rep K ω v x
section
variable {K : PySem.W.Frag} {ω ω' : Wo} {env : PEnv} {σ : L2.St}
theorem REnv.mono (h : REnv K ω env σ) (le : ω.Le ω') : REnv K ω' env σ := ⟨h.len, fun i v e => let ⟨x, e1, r⟩ := h.at' i v e; ⟨x, e1, r.mono le⟩⟩
theorem REnv.set (h : REnv K ω env σ) {v : PV} {x : V} (r : Rep K ω v x) (i : Nat) : REnv K ω (env.set i (some v)) (σ.set i (some x)) := by
  refine ⟨by simp [h.len], fun j u e => ?_⟩
  by_cases hj : i = j
  · subst hj
    by_cases hi : i < env.length
    · rw [List.getElem?_set_self hi] at e
      cases e
      exact ⟨x, List.getElem?_set_self (by rw [← h.len]; exact hi), r⟩
    · rw [List.getElem?_eq_none (by simpa using hi)] at e; cases e
  · rw [List.getElem?_set_ne hj] at e ⊢
    exact h.at' j u e
theorem REnv.unset (h : REnv K ω env σ) (i : Nat) : REnv K ω (env.set i none) (σ.set i none) := by
  refine ⟨by simp [h.len], fun j u e => ?_⟩
  by_cases hj : i = j
  · subst hj
    by_cases hi : i < env.length
    · rw [List.getElem?_set_self hi] at e; cases e
    · rw [List.getElem?_eq_none (by simpa using hi)] at e; cases e
  · rw [List.getElem?_set_ne hj] at e ⊢
    exact h.at' j u e
/-- some slots forgotten -/
def wipeP (env : PEnv) : List Nat → PEnv
  | [] => env
  | v :: vs => (wipeP env vs).set v none
theorem REnv.wipe (h : REnv K ω env σ) : ∀ vs, REnv K ω (wipeP env vs) (L2.wipe σ vs)
  | [] => h
  | v :: vs => (REnv.wipe h vs).unset v
end
/-! ### what is wanted behind -/
/-- the written part and the module's names -/
structure Gd where
  K : PySem.W.Frag
  mg : Str → Option Value
abbrev gd (X : Cx) : Gd := ⟨X.K, X.mg⟩
/-- an exception's own fields, in its dict at d -/
def XRep (K : PySem.W.Frag) (ω : Wo) (H₀ H : Hp) : Option (List (Str × PV)) → Option Addr → Prop
  | none, d => d = none
  | some fs, d => ∃ p vs, d = some p ∧ H₀ p = none ∧ H p = some (.xd vs) ∧ ω.F p = none ∧ p ∉ ω.ρ ∧ fs.map (·.1) = vs.map (·.1) ∧ Reps K ω (fs.map (·.2)) (vs.map (·.2))
theorem XRep.shift {K : PySem.W.Frag} {ω : Wo} {H₀ H₁ H : Hp} {ω₀ ω₁ : Wo} (x : Ext ω₀ H₀ ω₁ H₁) : ∀ {fs : Option (List (Str × PV))} {d : Option Addr}, XRep K ω H₁ H fs d → XRep K ω H₀ H fs d
  | none, _, h => h
  | some _, _, ⟨p, vs, e, n, r⟩ => ⟨p, vs, e, by
      cases q : H₀ p with
      | none => rfl
      | some o => exact absurd n (x.live p (by rw [q]; simp)), r⟩
def After {α β : Type} (G : Gd) (E : XK) (ω : Wo) (H : Hp) (r : Res α) (Rel : Wo → α → β → Prop) (Q : β → Hp → Prop) : Prop :=
  match r with
  | .ok a st' => ∀ ω' H' x, Ext ω H ω' H' → Wd G.K ω' st' H' → Rel ω' a x → Q x H'
  | .err n fs st' => ∀ ω' H' d cls, Ext ω H ω' H' → Wd G.K ω' st' H' → G.mg n = some cls → XRep G.K ω' H H' fs d → E cls d H'
  | .stuck => False
section
variable {α β γ δ : Type} {G : Gd} {E : XK} {ω ω1 : Wo} {H H1 : Hp}
theorem After.shift {r : Res α} {Rel : Wo → α → β → Prop} {Q : β → Hp → Prop} (h : After G E ω H r Rel Q) (x : Ext ω H ω1 H1) : After G E ω1 H1 r Rel Q := by
  cases r with
  | ok a st' => exact fun ω' H' y e w r => h ω' H' y (x.trans e) w r
  | err n fs st' => exact fun ω' H' d cls e w r y => h ω' H' d cls (x.trans e) w r (y.shift x)
  | stuck => exact h
theorem After.bind {r : Res α} {k : α → Store → Res γ} {Rel : Wo → α → β → Prop} {Rel' : Wo → γ → δ → Prop} {Q : δ → Hp → Prop} (h : After G E ω H (r.bind k) Rel' Q) :
    After G E ω H r Rel fun x H1 => ∃ ω1 st1 a, Ext ω H ω1 H1 ∧ Wd G.K ω1 st1 H1 ∧ Rel ω1 a x ∧ After G E ω1 H1 (k a st1) Rel' Q := by
  cases r with
  | ok a st' => exact fun ω' H' y e w q => ⟨ω', st', a, e, w, q, After.shift h e⟩
  | err n fs st' => exact h
  | stuck => exact h
theorem After.mono {r : Res α} {Rel : Wo → α → β → Prop} {Q Q' : β → Hp → Prop} (h : After G E ω H r Rel Q) (hq : ∀ x H', Q x H' → Q' x H') : After G E ω H r Rel Q' := by
  cases r with
  | ok a st' => exact fun ω' H' y e w q => hq _ _ (h ω' H' y e w q)
  | err n fs st' => exact h
  | stuck => exact h
theorem After.ok_here {a : α} {st : Store} {b : β} {Rel : Wo → α → β → Prop} {Q : β → Hp → Prop} (h : After G E ω H (.ok a st) Rel Q) (w : Wd G.K ω st H) (r : Rel ω a b) : Q b H := h ω H b (.refl ω H) w r
end
end PL
/-! PL, part b: expressions. -/
namespace PL
open PySem PySem.Spec PyProof.Rows L2
abbrev EM := PEnv → Store → Res PV
abbrev AM := PEnv → Store → Res (List PV)
abbrev TM := PEnv → Store → Res Bool
abbrev OM := PEnv → Store → Res (Option Int)
abbrev RV (K : PySem.W.Frag) : Wo → PV → V → Prop := fun ω v x => Rep K ω v x
abbrev RL (K : PySem.W.Frag) : Wo → List PV → List V → Prop := fun ω v x => Reps K ω v x
abbrev RQ {α : Type} : Wo → α → α → Prop := fun _ a b => a = b
abbrev wx (W : WX) (σ : L2.St) : XK := fun c d H => W c d σ H
/-- the reading by a plain function -/
def tG {α β : Type} (X : Cx) (W : WX) (Rel : Wo → α → β → Prop) (f : PEnv → Store → Res α) : L2.St → Hp → (β → Hp → Prop) → Prop :=
  fun σ H Q => ∃ ω st env, Wd X.K ω st H ∧ REnv X.K ω env σ ∧ After (gd X) (wx W σ) ω H (f env st) Rel Q
abbrev ME (X : Cx) (W : WX) (e : Expr) (f : EM) : Prop := PE X e (tG X W (RV X.K) f)
abbrev MT (X : Cx) (W : WX) (e : Expr) (f : TM) : Prop := PT X e (tG X W RQ f)
abbrev MW (X : Cx) (W : WX) (e : Expr) (f : TM) : Prop := PW X e (tG X W RQ f)
abbrev MA (X : Cx) (W : WX) (es : List Expr) (f : AM) : Prop := PA X es (tG X W (RL X.K) f)
abbrev MO (X : Cx) (W : WX) (e : Option Expr) (f : OM) : Prop := L2.PO X e (tG X W RQ f)
section
variable {X : Cx}
theorem peI {e : Expr} {t t' : TE} (h : PE X e t) (i : ∀ σ H Q, t' σ H Q → t σ H Q) : PE X e t' := ⟨fun pins s σ H Q I q => h.run pins s σ H Q I (i σ H Q q)⟩
theorem ptI {e : Expr} {t t' : TT} (h : PT X e t) (i : ∀ σ H Q, t' σ H Q → t σ H Q) : PT X e t' := ⟨fun pins s σ H Q I q => h.run pins s σ H Q I (i σ H Q q)⟩
theorem pwI {e : Expr} {t t' : TT} (h : PW X e t) (i : ∀ σ H Q, t' σ H Q → t σ H Q) : PW X e t' := ⟨fun wh pins s σ H Q I q => h.run wh pins s σ H Q I (i σ H Q q)⟩
theorem paI {e : List Expr} {t t' : TA} (h : PA X e t) (i : ∀ σ H Q, t' σ H Q → t σ H Q) : PA X e t' := ⟨fun pos pins s σ H Q I q => h.run pos pins s σ H Q I (i σ H Q q)⟩
theorem poI {e : Option Expr} {t t' : TO} (h : L2.PO X e t) (i : ∀ σ H Q, t' σ H Q → t σ H Q) : L2.PO X e t' := ⟨fun pins s σ H Q I q => h.run pins s σ H Q I (i σ H Q q)⟩
theorem psI {e : Stmt} {t t' : TS} (h : PS X e t) (i : ∀ D σ H, t' D σ H → t D σ H) : PS X e t' := ⟨fun pins s σ H D I q => h.run pins s σ H D I (i D σ H q)⟩
theorem pssI {e : List Stmt} {t t' : TS} (h : PSs X e t) (i : ∀ D σ H, t' D σ H → t D σ H) : PSs X e t' := ⟨fun pins s σ H D I q => h.run pins s σ H D I (i D σ H q)⟩
end
/-! ### names, constants -/
def eVar (i : Nat) : EM := fun env st => match env[i]? with
  | some (some v) => .ok v st
  | _ => .stuck
def eC (v : PV) : EM := fun _ st => .ok v st
section
variable {X : Cx} {W : WX} {pos : Pos}
theorem me_var (i : Nat) {x : Str} (hN : X.N[i]? = some x := by rfl) (hv : Vis X.env.scope x := by first | exact Or.inl rfl | exact Or.inr (Or.inl rfl) | exact Or.inr (Or.inr rfl)) (hd : (x == ("__debug__" : Str)) = false := by decide)
    (hcd : (x == ("__classdict__" : Str)) = false := by decide) : ME X W (.Name x pos) (eVar i) := by
  refine peI (pe_var hN hv hd hcd) ?_
  rintro σ H Q ⟨ω, st, env, wd, re, h⟩
  unfold eVar at h
  split at h
  · rename_i v e
    obtain ⟨y, e', r⟩ := re.at' i v e
    exact ⟨y, e', h.ok_here wd r⟩
  · exact False.elim h
theorem me_c {e : Expr} {v : V} {p : PV} (h : PE X e (tC v)) (r : ∀ ω, Rep X.K ω p v) : ME X W e (eC p) :=
  peI h fun σ H Q ⟨ω, st, env, wd, re, h⟩ => h.ok_here wd (r ω)
theorem me_int {i : Int} {j} : ME X W (.Constant (.int i) j pos) (eC (.int i)) := me_c pe_int fun _ => .int i
theorem me_bl {b : Bool} {j} : ME X W (.Constant (.bool b) j pos) (eC (.bl b)) := me_c pe_bl fun _ => .bl b
theorem me_non {j} : ME X W (.Constant .none j pos) (eC .non) := me_c pe_non fun _ => .non
theorem me_str {x : Str} {j} : ME X W (.Constant (.str x) j pos) (eC (.str x)) := me_c pe_str fun _ => .str x
/-- a module's constant -/
theorem me_gstr {x z : Str} {t : Tok} (hg : Gl X x) (hm : X.mg x = some (.str z t)) (hd : (x == ("__debug__" : Str)) = false := by decide) : ME X W (.Name x pos) (eC (.str z)) := me_c (pe_glob (v := .str z) hg hm ⟨t, rfl⟩ hd) fun _ => .str z
theorem me_gint {x : Str} {z : Int} {t : Tok} (hg : Gl X x) (hm : X.mg x = some (.int z t)) (hd : (x == ("__debug__" : Str)) = false := by decide) : ME X W (.Name x pos) (eC (.int z)) := me_c (pe_glob (v := .int z) hg hm ⟨t, rfl⟩ hd) fun _ => .int z
/-- a module's class or def, a built-in type, as a value -/
theorem me_gval {x : Str} {v : V} {u : Value} (hg : Gl X x) (hm : X.mg x = some u) (r : RelV v u) (hd : (x == ("__debug__" : Str)) = false := by decide) : ME X W (.Name x pos) (eC (.con v)) := me_c (pe_glob hg hm r hd) fun _ => .con v
theorem me_bval {x : Str} {v : V} {u : Value} (hg : Gl X x) (hm : X.mg x = none) (hv : bootBuiltins x = some u) (r : RelV v u) (hn : x ≠ "__name__" := by decide) (hd : (x == ("__debug__" : Str)) = false := by decide) : ME X W (.Name x pos) (eC (.con v)) :=
  me_c (pe_bltn hg hm hv r hn hd) fun _ => .con v
end
/-! ### operations of two and of one -/
def OpS (X : Cx) (f : Value → Value → Sem Value) (p : PV → PV → Store → Res PV) : Prop :=
  ∃ r, OpR X f r ∧ ∀ (E : XK) (ω : Wo) (st : Store) (H : Hp) (v w : PV) (x y : V) (Q : VK), Wd X.K ω st H → Rep X.K ω v x → Rep X.K ω w y → After (gd X) E ω H (p v w st) (RV X.K) Q → r x y H Q
def UnS (X : Cx) (f : Value → Sem Value) (p : PV → Store → Res PV) : Prop :=
  ∃ r, UnR X f r ∧ ∀ (E : XK) (ω : Wo) (st : Store) (H : Hp) (v : PV) (x : V) (Q : VK), Wd X.K ω st H → Rep X.K ω v x → After (gd X) E ω H (p v st) (RV X.K) Q → r x H Q
def eBin (p : PV → PV → Store → Res PV) (fa fb : EM) : EM := fun env st => (fa env st).bind fun v st1 => (fb env st1).bind fun w st2 => p v w st2
def eUn (p : PV → Store → Res PV) (fa : EM) : EM := fun env st => (fa env st).bind fun v st1 => p v st1
/-- a value that is to be a bool -/
def pTruth (v : PV) (st : Store) : Res Bool := match v with
  | .bl b => .ok b st
  | _ => .stuck
def eTest (f : EM) : TM := fun env st => (f env st).bind pTruth
def eChain (p p' : PV → PV → Store → Res PV) (fa fb fc : EM) : EM := fun env st => (fa env st).bind fun v st1 => (fb env st1).bind fun w st2 => (p v w st2).bind fun z st3 =>
  match z with
  | .bl true => (fc env st3).bind fun u st4 => p' w u st4
  | .bl false => .ok (.bl false) st3
  | _ => .stuck
section
variable {X : Cx} {W : WX} {pos : Pos} {a b c : Expr} {fa fb fc : EM}
theorem bin_step {r : R2} {p : PV → PV → Store → Res PV} (hi : ∀ (E : XK) (ω : Wo) (st : Store) (H : Hp) (v w : PV) (x y : V) (Q : VK), Wd X.K ω st H → Rep X.K ω v x → Rep X.K ω w y → After (gd X) E ω H (p v w st) (RV X.K) Q → r x y H Q)
    {σ : L2.St} {H : Hp} {Q : VK} (h : tG X W (RV X.K) (eBin p fa fb) σ H Q) : tOp r (tG X W (RV X.K) fa) (tG X W (RV X.K) fb) σ H Q := by
  obtain ⟨ω, st, env, wd, re, h⟩ := h
  refine ⟨ω, st, env, wd, re, (After.bind (Rel := RV X.K) h).mono ?_⟩
  rintro x H1 ⟨ω1, st1, v, e1, wd1, r1, h1⟩
  refine ⟨ω1, st1, env, wd1, re.mono e1.le, (After.bind (Rel := RV X.K) h1).mono ?_⟩
  rintro y H2 ⟨ω2, st2, w, e2, wd2, r2, h2⟩
  exact hi _ ω2 st2 H2 v w x y Q wd2 (r1.mono e2.le) r2 h2
theorem test_step {f : EM} {σ : L2.St} {H : Hp} {Q : Bool → Hp → Prop} (h : tG X W RQ (eTest f) σ H Q) : tG X W (RV X.K) f σ H (fun x H1 => ∃ k, x = .bl k ∧ Q k H1) := by
  obtain ⟨ω, st, env, wd, re, h⟩ := h
  refine ⟨ω, st, env, wd, re, (After.bind (Rel := RV X.K) h).mono ?_⟩
  rintro x H1 ⟨ω1, st1, v, e1, wd1, r1, h1⟩
  unfold pTruth at h1
  split at h1
  · cases r1
    exact ⟨_, rfl, h1.ok_here wd1 rfl⟩
  · exact False.elim h1
theorem me_bin {op : Operator} {p} (ho : OpS X (binaryOp op) p) (ha : ME X W a fa) (hb : ME X W b fb) : ME X W (.BinOp a op b pos) (eBin p fa fb) := by
  obtain ⟨r, hr, hi⟩ := ho
  exact peI (pe_op hr ha hb) fun σ H Q h => bin_step hi h
theorem me_un {op : UnaryOp} {p} (ho : UnS X (unaryOp op) p) (ha : ME X W a fa) : ME X W (.UnaryOp op a pos) (eUn p fa) := by
  obtain ⟨r, hr, hi⟩ := ho
  refine peI (pe_un hr ha) ?_
  rintro σ H Q ⟨ω, st, env, wd, re, h⟩
  refine ⟨ω, st, env, wd, re, (After.bind (Rel := RV X.K) h).mono ?_⟩
  rintro x H1 ⟨ω1, st1, v, e1, wd1, r1, h1⟩
  exact hi _ ω1 st1 H1 v x Q wd1 r1 h1
theorem me_cmp {op : CmpOp} {p} (ho : OpS X (compareOp op) p) (ha : ME X W a fa) (hb : ME X W b fb) (hm : behindInMarks op b = false := by first | exact nomark _ | rfl) : ME X W (.Compare a [op] [b] pos) (eBin p fa fb) := by
  obtain ⟨r, hr, hi⟩ := ho
  exact peI (pe_cmpR hr ha hb hm) fun σ H Q h => bin_step hi h
theorem mt_cmp {op : CmpOp} {p} (ho : OpS X (compareOp op) p) (ha : ME X W a fa) (hb : ME X W b fb) (hm : behindInMarks op b = false := by first | exact nomark _ | rfl) : MT X W (.Compare a [op] [b] pos) (eTest (eBin p fa fb)) := by
  obtain ⟨r, hr, hi⟩ := ho
  exact ptI (pt_cmpR hr ha hb hm) fun σ H Q h => bin_step hi (test_step h)
theorem chain_step {r r' : R2} {p p' : PV → PV → Store → Res PV} (hi : ∀ (E : XK) (ω : Wo) (st : Store) (H : Hp) (v w : PV) (x y : V) (Q : VK), Wd X.K ω st H → Rep X.K ω v x → Rep X.K ω w y → After (gd X) E ω H (p v w st) (RV X.K) Q → r x y H Q)
    (hi' : ∀ (E : XK) (ω : Wo) (st : Store) (H : Hp) (v w : PV) (x y : V) (Q : VK), Wd X.K ω st H → Rep X.K ω v x → Rep X.K ω w y → After (gd X) E ω H (p' v w st) (RV X.K) Q → r' x y H Q)
    {σ : L2.St} {H : Hp} {Q : VK} (h : tG X W (RV X.K) (eChain p p' fa fb fc) σ H Q) : tChain r r' (tG X W (RV X.K) fa) (tG X W (RV X.K) fb) (tG X W (RV X.K) fc) σ H Q := by
  obtain ⟨ω, st, env, wd, re, h⟩ := h
  refine ⟨ω, st, env, wd, re, (After.bind (Rel := RV X.K) h).mono ?_⟩
  rintro x H1 ⟨ω1, st1, v, e1, wd1, r1, h1⟩
  refine ⟨ω1, st1, env, wd1, re.mono e1.le, (After.bind (Rel := RV X.K) h1).mono ?_⟩
  rintro y H2 ⟨ω2, st2, w, e2, wd2, r2, h2⟩
  refine hi _ ω2 st2 H2 v w x y _ wd2 (r1.mono e2.le) r2 ((After.bind (Rel := RV X.K) h2).mono ?_)
  rintro z H3 ⟨ω3, st3, u, e3, wd3, r3, h3⟩
  split at h3
  · cases r3
    refine ⟨true, rfl, iteT ?_⟩
    refine ⟨ω3, st3, env, wd3, re.mono (e1.le.trans (e2.le.trans e3.le)), (After.bind (Rel := RV X.K) h3).mono ?_⟩
    rintro q H4 ⟨ω4, st4, u4, e4, wd4, r4, h4⟩
    exact hi' _ ω4 st4 H4 _ _ _ _ Q wd4 (r2.mono (e3.le.trans e4.le)) r4 h4
  · cases r3
    exact ⟨false, rfl, iteF (h3.ok_here wd3 (.bl false))⟩
  · exact False.elim h3
theorem me_chain {op op' : CmpOp} {p p'} (ho : OpS X (compareOp op) p) (ho' : OpS X (compareOp op') p') (ha : ME X W a fa) (hb : ME X W b fb) (hc : ME X W c fc)
    (hm : lastMarks [op, op'] [b, c] = false := by with_unfolding_all rfl) : ME X W (.Compare a [op, op'] [b, c] pos) (eChain p p' fa fb fc) := by
  obtain ⟨r, hr, hi⟩ := ho
  obtain ⟨r', hr', hi'⟩ := ho'
  exact peI (pe_chain hr hr' ha hb hc hm) fun σ H Q h => chain_step hi hi' h
theorem mt_chain {op op' : CmpOp} {p p'} (ho : OpS X (compareOp op) p) (ho' : OpS X (compareOp op') p') (ha : ME X W a fa) (hb : ME X W b fb) (hc : ME X W c fc)
    (hm : lastMarks [op, op'] [b, c] = false := by with_unfolding_all rfl) : MT X W (.Compare a [op, op'] [b, c] pos) (eTest (eChain p p' fa fb fc)) := by
  obtain ⟨r, hr, hi⟩ := ho
  obtain ⟨r', hr', hi'⟩ := ho'
  exact ptI (pt_chain hr hr' ha hb hc hm) fun σ H Q h => chain_step hi hi' (test_step h)
/-- an expression as a test -/
theorem mt_val {e : Expr} {f : EM} (h : ME X W e f) (he : ∀ whole, isTrue e X.env whole = (do let v ← whole; standAt e.pos; holding [v] (truthy v)) := by intro _; rfl) : MT X W e (eTest f) :=
  ptI (pt_val h he) fun σ H Q h => test_step h
/-! ### and, or, not, if -/
def tAndM (f g : TM) : TM := fun env st => (f env st).bind fun b st1 => if b = true then g env st1 else .ok false st1
def tOrM (f g : TM) : TM := fun env st => (f env st).bind fun b st1 => if b = true then .ok true st1 else g env st1
def tNotM (f : TM) : TM := fun env st => (f env st).bind fun b st1 => .ok (!b) st1
variable {ta tb : TM} {rest : List Expr}
theorem mw_and1 (ha : MT X W a ta) : MW X W (.BoolOp .And [a] pos) ta := pw_and1 ha
theorem mw_or1 (ha : MT X W a ta) : MW X W (.BoolOp .Or [a] pos) ta := pw_or1 ha
theorem mw_and (ha : MT X W a ta) (hb : MW X W (.BoolOp .And (b :: rest) pos) tb) : MW X W (.BoolOp .And (a :: b :: rest) pos) (tAndM ta tb) := by
  refine pwI (pw_and ha hb) ?_
  rintro σ H Q ⟨ω, st, env, wd, re, h⟩
  refine ⟨ω, st, env, wd, re, (After.bind (Rel := RQ) h).mono ?_⟩
  rintro x H1 ⟨ω1, st1, v, e1, wd1, r1, h1⟩
  have r1 : v = x := r1
  subst r1
  cases v with
  | true => exact iteT ⟨ω1, st1, env, wd1, re.mono e1.le, by simpa using h1⟩
  | false => exact iteF ((show After (gd X) (wx W σ) ω1 H1 (.ok false st1) RQ Q by simpa using h1).ok_here wd1 rfl)
theorem mw_or (ha : MT X W a ta) (hb : MW X W (.BoolOp .Or (b :: rest) pos) tb) : MW X W (.BoolOp .Or (a :: b :: rest) pos) (tOrM ta tb) := by
  refine pwI (pw_or ha hb) ?_
  rintro σ H Q ⟨ω, st, env, wd, re, h⟩
  refine ⟨ω, st, env, wd, re, (After.bind (Rel := RQ) h).mono ?_⟩
  rintro x H1 ⟨ω1, st1, v, e1, wd1, r1, h1⟩
  have r1 : v = x := r1
  subst r1
  cases v with
  | true => exact iteT ((show After (gd X) (wx W σ) ω1 H1 (.ok true st1) RQ Q by simpa using h1).ok_here wd1 rfl)
  | false => exact iteF ⟨ω1, st1, env, wd1, re.mono e1.le, by simpa using h1⟩
theorem mt_not (ha : MT X W a ta) : MT X W (.UnaryOp .Not a pos) (tNotM ta) := by
  refine ptI (pt_not ha) ?_
  rintro σ H Q ⟨ω, st, env, wd, re, h⟩
  refine ⟨ω, st, env, wd, re, (After.bind (Rel := RQ) h).mono ?_⟩
  rintro x H1 ⟨ω1, st1, v, e1, wd1, r1, h1⟩
  have r1 : v = x := r1
  subst r1
  exact h1.ok_here wd1 rfl
def eAndV (f g : EM) : EM := fun env st => (f env st).bind fun v st1 => match v with
  | .bl true => g env st1
  | .bl false => .ok (.bl false) st1
  | _ => .stuck
def eOrV (f g : EM) : EM := fun env st => (f env st).bind fun v st1 => match v with
  | .bl true => .ok (.bl true) st1
  | .bl false => g env st1
  | _ => .stuck
def eNotV (f : EM) : EM := fun env st => (f env st).bind fun v st1 => match v with
  | .bl b => .ok (.bl (!b)) st1
  | _ => .stuck
theorem me_one {op} (h : ME X W a fa) : ME X W (.BoolOp op [a] pos) fa := pe_one h
theorem me_and (ha : ME X W a fa) (hb : ME X W (.BoolOp .And (b :: rest) pos) fb) : ME X W (.BoolOp .And (a :: b :: rest) pos) (eAndV fa fb) := by
  refine peI (pe_and ha hb) ?_
  rintro σ H Q ⟨ω, st, env, wd, re, h⟩
  refine ⟨ω, st, env, wd, re, (After.bind (Rel := RV X.K) h).mono ?_⟩
  rintro x H1 ⟨ω1, st1, v, e1, wd1, r1, h1⟩
  split at h1
  · cases r1
    exact ⟨true, rfl, iteT ⟨ω1, st1, env, wd1, re.mono e1.le, h1⟩⟩
  · cases r1
    exact ⟨false, rfl, iteF (h1.ok_here wd1 (.bl false))⟩
  · exact False.elim h1
theorem me_or (ha : ME X W a fa) (hb : ME X W (.BoolOp .Or (b :: rest) pos) fb) : ME X W (.BoolOp .Or (a :: b :: rest) pos) (eOrV fa fb) := by
  refine peI (pe_or ha hb) ?_
  rintro σ H Q ⟨ω, st, env, wd, re, h⟩
  refine ⟨ω, st, env, wd, re, (After.bind (Rel := RV X.K) h).mono ?_⟩
  rintro x H1 ⟨ω1, st1, v, e1, wd1, r1, h1⟩
  split at h1
  · cases r1
    exact ⟨true, rfl, iteT (h1.ok_here wd1 (.bl true))⟩
  · cases r1
    exact ⟨false, rfl, iteF ⟨ω1, st1, env, wd1, re.mono e1.le, h1⟩⟩
  · exact False.elim h1
theorem me_not (ha : ME X W a fa) : ME X W (.UnaryOp .Not a pos) (eNotV fa) := by
  refine peI (pe_not ha) ?_
  rintro σ H Q ⟨ω, st, env, wd, re, h⟩
  refine ⟨ω, st, env, wd, re, (After.bind (Rel := RV X.K) h).mono ?_⟩
  rintro x H1 ⟨ω1, st1, v, e1, wd1, r1, h1⟩
  split at h1
  · cases r1
    exact ⟨_, rfl, h1.ok_here wd1 (.bl _)⟩
  · exact False.elim h1
def eIf (c : TM) (f g : EM) : EM := fun env st => (c env st).bind fun b st1 => if b = true then f env st1 else g env st1
theorem me_if (hc : MT X W c ta) (ha : ME X W a fa) (hb : ME X W b fb) : ME X W (.IfExp c a b pos) (eIf ta fa fb) := by
  refine peI (pe_ifExp hc ha hb) ?_
  rintro σ H Q ⟨ω, st, env, wd, re, h⟩
  refine ⟨ω, st, env, wd, re, (After.bind (Rel := RQ) h).mono ?_⟩
  rintro x H1 ⟨ω1, st1, v, e1, wd1, r1, h1⟩
  have r1 : v = x := r1
  subst r1
  cases v with
  | true => exact iteT ⟨ω1, st1, env, wd1, re.mono e1.le, by simpa using h1⟩
  | false => exact iteF ⟨ω1, st1, env, wd1, re.mono e1.le, by simpa using h1⟩
end
/-! ### arguments, displays, calls -/
def aNil : AM := fun _ st => .ok [] st
def aCons (f : EM) (g : AM) : AM := fun env st => (f env st).bind fun v st1 => (g env st1).bind fun vs st2 => .ok (v :: vs) st2
section
variable {X : Cx} {W : WX} {pos : Pos} {e : Expr} {es : List Expr} {f : EM} {fs : AM}
theorem ma_nil : MA X W [] aNil := paI pa_nil fun σ H Q ⟨ω, st, env, wd, re, h⟩ => h.ok_here wd .nil
theorem ma_cons (ha : ME X W e f) (hr : MA X W es fs) (hs : starEach (e :: es) X.env = (false, eval e X.env) :: starEach es X.env := by rfl) : MA X W (e :: es) (aCons f fs) := by
  refine paI (pa_cons ha hr hs) ?_
  rintro σ H Q ⟨ω, st, env, wd, re, h⟩
  refine ⟨ω, st, env, wd, re, (After.bind (Rel := RV X.K) h).mono ?_⟩
  rintro x H1 ⟨ω1, st1, v, e1, wd1, r1, h1⟩
  refine ⟨ω1, st1, env, wd1, re.mono e1.le, (After.bind (Rel := RL X.K) h1).mono ?_⟩
  rintro xs H2 ⟨ω2, st2, vs, e2, wd2, r2, h2⟩
  exact h2.ok_here wd2 (.cons (r1.mono e2.le) r2)
/-- a new tuple, a new list that is not changed, a new place of the store -/
theorem new_tup {E : XK} {ω : Wo} {st : Store} {H : Hp} {xs : List V} {vs : List PV} {Q : VK} (wd : Wd X.K ω st H) (r : Reps X.K ω vs xs) (h : After (gd X) E ω H (.ok (.tup vs) st) (RV X.K) Q) (p : Addr) (n : H p = none) : Q (.ref p) (upd H p (.tup xs)) := by
  obtain ⟨w, e⟩ := wd.fz n (.tup xs)
  exact h _ _ _ e w (.tup upd_same (r.mono e.le))
theorem new_lst {E : XK} {ω : Wo} {st : Store} {H : Hp} {xs : List V} {vs : List PV} {Q : VK} (wd : Wd X.K ω st H) (r : Reps X.K ω vs xs) (h : After (gd X) E ω H (.ok (.lst vs) st) (RV X.K) Q) (p : Addr) (n : H p = none) : Q (.ref p) (upd H p (.lst xs)) := by
  obtain ⟨w, e⟩ := wd.fz n (.lst xs)
  exact h _ _ _ e w (.lst upd_same (r.mono e.le))
theorem new_loc {E : XK} {ω : Wo} {st : Store} {H : Hp} {xs : List V} {vs : List PV} {Q : VK} (wd : Wd X.K ω st H) (r : Reps X.K ω vs xs) (h : After (gd X) E ω H (.ok (.loc st.length) (st ++ [.lst vs])) (RV X.K) Q) (p : Addr) (n : H p = none) : Q (.ref p) (upd H p (.lst xs)) := by
  obtain ⟨w, e⟩ := wd.nw n r
  refine h _ _ _ e w (.loc ?_)
  rw [← wd.len]
  simp
def mkTup (vs : List PV) (st : Store) : Res PV := if vs.length ≤ sizeLine then .ok (.tup vs) st else .stuck
def mkLst (vs : List PV) (st : Store) : Res PV := if vs.length ≤ sizeLine then .ok (.lst vs) st else .stuck
def mkLoc (vs : List PV) (st : Store) : Res PV := if vs.length ≤ sizeLine then .ok (.loc st.length) (st ++ [.lst vs]) else .stuck
def eArgs (p : List PV → Store → Res PV) (fs : AM) : EM := fun env st => (fs env st).bind p
theorem args_step {p : List PV → Store → Res PV} {R : List V → Hp → VK → Prop} (hi : ∀ (E : XK) (ω : Wo) (st : Store) (H : Hp) (vs : List PV) (xs : List V) (Q : VK), Wd X.K ω st H → Reps X.K ω vs xs → After (gd X) E ω H (p vs st) (RV X.K) Q → R xs H Q)
    {σ : L2.St} {H : Hp} {Q : VK} (h : tG X W (RV X.K) (eArgs p fs) σ H Q) : tG X W (RL X.K) fs σ H (fun xs H1 => R xs H1 Q) := by
  obtain ⟨ω, st, env, wd, re, h⟩ := h
  refine ⟨ω, st, env, wd, re, (After.bind (Rel := RL X.K) h).mono ?_⟩
  rintro x H1 ⟨ω1, st1, v, e1, wd1, r1, h1⟩
  exact hi _ ω1 st1 H1 v x Q wd1 r1 h1
theorem me_tup {x1} (h : MA X W es fs) : ME X W (.Tuple es x1 pos) (eArgs mkTup fs) := by
  refine peI (pe_tup h) fun σ H Q q => args_step (R := fun xs H1 Q => xs.length ≤ sizeLine ∧ ∀ p, H1 p = none → Q (.ref p) (upd H1 p (.tup xs))) ?_ q
  intro E ω st H vs xs Q wd r h
  unfold mkTup at h
  split at h
  · exact ⟨by rw [← r.length]; assumption, new_tup wd r h⟩
  · exact False.elim h
theorem me_lst (h : MA X W es fs) : ME X W (.List es pos) (eArgs mkLst fs) := by
  refine peI (pe_lst h) fun σ H Q q => args_step (R := fun xs H1 Q => xs.length ≤ sizeLine ∧ ∀ p, H1 p = none → Q (.ref p) (upd H1 p (.lst xs))) ?_ q
  intro E ω st H vs xs Q wd r h
  unfold mkLst at h
  split at h
  · exact ⟨by rw [← r.length]; assumption, new_lst wd r h⟩
  · exact False.elim h
theorem me_loc (h : MA X W es fs) : ME X W (.List es pos) (eArgs mkLoc fs) := by
  refine peI (pe_lst h) fun σ H Q q => args_step (R := fun xs H1 Q => xs.length ≤ sizeLine ∧ ∀ p, H1 p = none → Q (.ref p) (upd H1 p (.lst xs))) ?_ q
  intro E ω st H vs xs Q wd r h
  unfold mkLoc at h
  split at h
  · exact ⟨by rw [← r.length]; assumption, new_loc wd r h⟩
  · exact False.elim h
/-! ### built-ins, called -/
def CallS (X : Cx) (f : Value) (p : List PV → Store → Res PV) : Prop :=
  ∃ r, CallR X f r ∧ ∀ (E : XK) (ω : Wo) (st : Store) (H : Hp) (vs : List PV) (xs : List V) (Q : VK), Wd X.K ω st H → Reps X.K ω vs xs → After (gd X) E ω H (p vs st) (RV X.K) Q → r xs H Q
variable {x : Str} {p : Pos} {id : String}
theorem me_callB {m} (hc : CallS X (.builtin id) m) (hg : Gl X x) (hm : X.mg x = none) (hv : bootBuiltins x = some (.builtin id)) (ha : MA X W (e :: es) fs) (hn : x ≠ "__name__" := by decide) (hdb : (x == ("__debug__" : Str)) = false := by decide)
    (he : starEach (e :: es) X.env = (false, eval e X.env) :: starEach es X.env := by rfl) (hpl : (backTo pos (starEach es X.env)).any (·.1) = false := by rfl) : ME X W (.Call (.Name x p) (e :: es) [] pos) (eArgs m fs) := by
  obtain ⟨r, hr, hi⟩ := hc
  exact peI (pe_callB hr hg hm hv ha hn hdb he hpl) fun σ H Q q => args_step hi q
theorem me_callTy {m} (hc : CallS X (.type id) m) (hg : Gl X x) (hm : X.mg x = none) (hv : bootBuiltins x = some (.type id)) (ha : MA X W (e :: es) fs) (hn : x ≠ "__name__" := by decide) (hdb : (x == ("__debug__" : Str)) = false := by decide)
    (he : starEach (e :: es) X.env = (false, eval e X.env) :: starEach es X.env := by rfl) (hpl : (backTo pos (starEach es X.env)).any (·.1) = false := by rfl) : ME X W (.Call (.Name x p) (e :: es) [] pos) (eArgs m fs) := by
  obtain ⟨r, hr, hi⟩ := hc
  exact peI (pe_callTy hr hg hm hv ha hn hdb he hpl) fun σ H Q q => args_step hi q
theorem me_callG {m} (hc : CallS X (.builtin id) m) (hg : Gl X x) (hm : X.mg x = some (.builtin id)) (ha : MA X W (e :: es) fs) (hdb : (x == ("__debug__" : Str)) = false := by decide)
    (he : starEach (e :: es) X.env = (false, eval e X.env) :: starEach es X.env := by rfl) (hpl : (backTo pos (starEach es X.env)).any (·.1) = false := by rfl) : ME X W (.Call (.Name x p) (e :: es) [] pos) (eArgs m fs) := by
  obtain ⟨r, hr, hi⟩ := hc
  exact peI (pe_callBfun hr hg hm ha hdb he hpl) fun σ H Q q => args_step hi q
/-! ### a def of one's own, called -/
def guardN (n : Nat) (m : List PV → Store → Res PV) : List PV → Store → Res PV := fun vs st => if vs.length = n then m vs st else .stuck
/-- a def's promise by its plain function -/
def spP (G : Gd) (n : Nat) (m : List PV → Store → Res PV) : Sp := fun vs H Q E => ∃ ω st args, Wd G.K ω st H ∧ Reps G.K ω args vs ∧ After G E ω H (guardN n m args st) (RV G.K) Q
theorem spP_len {G : Gd} {n : Nat} {m} {vs : List V} {H : Hp} {Q : VK} {E : XK} (h : spP G n m vs H Q E) : vs.length = n := by
  obtain ⟨ω, st, args, wd, r, h⟩ := h
  unfold guardN at h
  split at h
  · rw [← r.length]; assumption
  · exact False.elim h
/-- what lets no exception out -/
def noErr {α : Type} : Res α → Res α
  | .err _ _ _ => .stuck
  | r => r
theorem After.noErr {α β : Type} {G : Gd} {E E' : XK} {ω : Wo} {H : Hp} {r : Res α} {Rel : Wo → α → β → Prop} {Q : β → Hp → Prop} (h : After G E ω H (noErr r) Rel Q) : After G E' ω H r Rel Q := by
  cases r with
  | ok a st => exact h
  | err n f st => exact False.elim h
  | stuck => exact False.elim h
abbrev nE (m : List PV → Store → Res PV) : List PV → Store → Res PV := fun vs st => noErr (m vs st)
def eCall (n : Nat) (m : List PV → Store → Res PV) (fs : AM) : EM := eArgs (guardN n (nE m)) fs
theorem guard_noErr {E E' : XK} {G : Gd} {ω : Wo} {H : Hp} {n : Nat} {m : List PV → Store → Res PV} {vs : List PV} {st : Store} {Q : VK} (h : After G E ω H (guardN n (nE m) vs st) (RV G.K) Q) : After G E' ω H (guardN n (nE m) vs st) (RV G.K) Q := by
  unfold guardN at h ⊢
  split
  · rename_i e
    rw [if_pos e] at h
    show After G E' ω H (noErr (m vs st)) (RV G.K) Q
    have h : After G E ω H (noErr (m vs st)) (RV G.K) Q := h
    cases q : m vs st with
    | ok a st' => rw [q] at h; exact h
    | err n f st' => rw [q] at h; exact False.elim h
    | stuck => rw [q] at h; exact False.elim h
  · rename_i e
    rw [if_neg e] at h
    exact False.elim h
variable {k n : Nat} {fa : Addr} {fd : FuncData} {ps : List Str}
theorem me_call {m} (F : FnOk X.prog X.w X.K X.mg X.base CX0 k fa fd ps (spP (gd X) n (nE m))) (hr : Room k X.A) (hg : Gl X x) (hm : X.mg x = some (.ref fa)) (hk : PySem.W.keepIn X.K (.ref fa) = true) (hb : Binds X.K fd ps [])
    (ha : MA X W (e :: es) fs) (hdb : (x == ("__debug__" : Str)) = false := by decide) (he : starEach (e :: es) X.env = (false, eval e X.env) :: starEach es X.env := by rfl) (hpl : (backTo pos (starEach es X.env)).any (·.1) = false := by rfl) :
    ME X W (.Call (.Name x p) (e :: es) [] pos) (eCall n m fs) := by
  refine peI (pe_call F hr hg hm hk hb .nil pass0 ha hdb he hpl) fun σ H Q q => args_step (R := fun xs H1 Q => spP (gd X) n (nE m) (xs ++ []) H1 Q E0) ?_ q
  intro E ω st H vs xs Q wd r h
  rw [List.append_nil]
  exact ⟨ω, st, vs, wd, r, guard_noErr h⟩
/-! ### a built-in's method -/
def MtS (X : Cx) (T id : String) (ty : PV → Store → Bool) (p : PV → List PV → Store → Res PV) : Prop :=
  ∃ r, MtR X id r ∧ (∀ (ω : Wo) (st : Store) (H : Hp) (v : PV) (x : V), Wd X.K ω st H → Rep X.K ω v x → ty v st = true → tyV X.K T x H) ∧
    ∀ (E : XK) (ω : Wo) (st : Store) (H : Hp) (v : PV) (x : V) (vs : List PV) (xs : List V) (Q : VK), Wd X.K ω st H → Rep X.K ω v x → Reps X.K ω vs xs → After (gd X) E ω H (p v vs st) (RV X.K) Q → r x xs H Q
def eMeth (ty : PV → Store → Bool) (p : PV → List PV → Store → Res PV) (fo : EM) (fs : AM) : EM := fun env st => (fo env st).bind fun v st1 => if ty v st1 = true then (fs env st1).bind fun vs st2 => p v vs st2 else .stuck
variable {o : Expr} {fo : EM} {name : Str} {apos cpos : Pos} {T : String}
theorem me_bm {ty m} (hM : MtS X T id ty m) (pa : PlainAttrs T) (slot : Slot T name id) (hty : typeOf (.builtin id) = pure (.type "method_descriptor")) (ho : ME X W o fo) (ha : MA X W (e :: es) fs)
    (hbase : attributeBase o name X.env (eval o X.env) = eval o X.env := by rfl)
    (hfew : ((backTo cpos (starEach (e :: es) X.env)).all (fun x => !x.1) && (backToKw cpos (keywordEach [] X.env)).all (fun x => x.1.isSome)
      && decide ((e :: es).length + ([] : List Keyword).length + (if ([] : List Keyword).isEmpty then 0 else 1) < 30)) = true := by rfl)
    (hline : (apos.endLine == cpos.line) = true := by rfl) (hs : starEach (e :: es) X.env = (false, eval e X.env) :: starEach es X.env := by rfl) (hplain : (backTo cpos (starEach es X.env)).any (·.1) = false := by rfl) :
    ME X W (.Call (.Attribute o name apos) (e :: es) [] cpos) (eMeth ty m fo fs) := by
  obtain ⟨r, hr, hT, hi⟩ := hM
  refine peI (pe_bm pa slot hty hr ho ha hbase hfew hline hs hplain) ?_
  rintro σ H Q ⟨ω, st, env, wd, re, h⟩
  refine ⟨ω, st, env, wd, re, (After.bind (Rel := RV X.K) h).mono ?_⟩
  rintro x H1 ⟨ω1, st1, v, e1, wd1, r1, h1⟩
  split at h1
  · rename_i hty
    refine ⟨hT _ _ _ _ _ wd1 r1 hty, ω1, st1, env, wd1, re.mono e1.le, (After.bind (Rel := RL X.K) h1).mono ?_⟩
    rintro xs H2 ⟨ω2, st2, vs, e2, wd2, r2, h2⟩
    exact hi _ ω2 st2 H2 v x vs xs Q wd2 (r1.mono e2.le) r2 h2
  · exact False.elim h1
theorem me_bm0 {ty m} (hM : MtS X T id ty m) (pa : PlainAttrs T) (slot : Slot T name id) (hty : typeOf (.builtin id) = pure (.type "method_descriptor")) (ho : ME X W o fo)
    (hbase : attributeBase o name X.env (eval o X.env) = eval o X.env := by rfl) (hline : (apos.endLine == cpos.line) = true := by rfl) :
    ME X W (.Call (.Attribute o name apos) [] [] cpos) (eMeth ty m fo aNil) := by
  obtain ⟨r, hr, hT, hi⟩ := hM
  refine peI (pe_bm0 pa slot hty hr ho hbase hline) ?_
  rintro σ H Q ⟨ω, st, env, wd, re, h⟩
  refine ⟨ω, st, env, wd, re, (After.bind (Rel := RV X.K) h).mono ?_⟩
  rintro x H1 ⟨ω1, st1, v, e1, wd1, r1, h1⟩
  split at h1
  · rename_i hty
    exact ⟨hT _ _ _ _ _ wd1 r1 hty, hi _ ω1 st1 H1 v x [] [] Q wd1 r1 .nil h1⟩
  · exact False.elim h1
/-! ### an item, a slice -/
def IxS (X : Cx) (p : PV → PV → Store → Res PV) : Prop :=
  ∃ r, IxR X r ∧ ∀ (E : XK) (ω : Wo) (st : Store) (H : Hp) (v w : PV) (x y : V) (Q : VK), Wd X.K ω st H → Rep X.K ω v x → Rep X.K ω w y → After (gd X) E ω H (p v w st) (RV X.K) Q → r x y H Q
variable {a b : Expr} {f1 f2 : EM}
theorem me_ix {p} (hI : IxS X p) (ha : ME X W a f1) (hb : ME X W b f2) (hs : PlainIx b := by exact fun _ _ => rfl) : ME X W (.Subscript a b pos) (eBin p f1 f2) := by
  obtain ⟨r, hr, hi⟩ := hI
  exact peI (pe_ix hr ha hb hs) fun σ H Q h => bin_step hi h
def oNone : OM := fun _ st => .ok none st
def oSome (f : EM) : OM := fun env st => (f env st).bind fun v st1 => match v with
  | .int i => .ok (some i) st1
  | _ => .stuck
theorem mo_none : MO X W none oNone := poI po_none fun σ H Q ⟨ω, st, env, wd, re, h⟩ => h.ok_here wd rfl
theorem mo_some (h : ME X W e f) : MO X W (some e) (oSome f) := by
  refine poI (po_some h) ?_
  rintro σ H Q ⟨ω, st, env, wd, re, h⟩
  refine ⟨ω, st, env, wd, re, (After.bind (Rel := RV X.K) h).mono ?_⟩
  rintro x H1 ⟨ω1, st1, v, e1, wd1, r1, h1⟩
  split at h1
  · cases r1
    exact ⟨_, rfl, h1.ok_here wd1 rfl⟩
  · exact False.elim h1
def SlS (X : Cx) (p : PV → Option Int → Option Int → Store → Res PV) : Prop :=
  ∃ r, SlR X r ∧ ∀ (E : XK) (ω : Wo) (st : Store) (H : Hp) (v : PV) (x : V) (lo hi : Option Int) (Q : VK), Wd X.K ω st H → Rep X.K ω v x → After (gd X) E ω H (p v lo hi st) (RV X.K) Q → r x lo hi H Q
def eSl (p : PV → Option Int → Option Int → Store → Res PV) (f : EM) (l u : OM) : EM := fun env st => (f env st).bind fun v st1 => (l env st1).bind fun lo st2 => (u env st2).bind fun hi st3 => p v lo hi st3
theorem me_sl {p} {lo hi : Option Expr} {l u : OM} {p2 : Pos} (hS : SlS X p) (ha : ME X W a f1) (hl : MO X W lo l) (hu : MO X W hi u) : ME X W (.Subscript a (.Slice lo hi none p2) pos) (eSl p f1 l u) := by
  obtain ⟨r, hr, hi'⟩ := hS
  refine peI (pe_slice hr ha hl hu) ?_
  rintro σ H Q ⟨ω, st, env, wd, re, h⟩
  refine ⟨ω, st, env, wd, re, (After.bind (Rel := RV X.K) h).mono ?_⟩
  rintro x H1 ⟨ω1, st1, v, e1, wd1, r1, h1⟩
  refine ⟨ω1, st1, env, wd1, re.mono e1.le, (After.bind (Rel := RQ) h1).mono ?_⟩
  rintro y H2 ⟨ω2, st2, w, e2, wd2, r2, h2⟩
  have r2 : w = y := r2
  subst r2
  refine ⟨ω2, st2, env, wd2, re.mono (e1.le.trans e2.le), (After.bind (Rel := RQ) h2).mono ?_⟩
  rintro z H3 ⟨ω3, st3, u, e3, wd3, r3, h3⟩
  have r3 : u = z := r3
  subst r3
  exact hi' _ ω3 st3 H3 v x w u Q wd3 (r1.mono (e2.le.trans e3.le)) h3
end
end PL
/-! PL, part c: statements, loops, comprehensions, defs. -/
namespace PL
open PySem PySem.Spec PyProof.Rows L2
inductive SR where
  | nx (env : PEnv) (st : Store)
  | rt (v : PV) (st : Store)
  | bk (env : PEnv) (st : Store)
  | ct (env : PEnv) (st : Store)
  | err (env : PEnv) (n : Str) (fs : Option (List (Str × PV))) (st : Store)
  | stuck
abbrev SM := PEnv → Store → SR
def AfterS (X : Cx) (W : WX) (ω : Wo) (H : Hp) (r : SR) (D : Ends) : Prop :=
  match r with
  | .nx env st => ∀ ω' H' σ', Ext ω H ω' H' → Wd X.K ω' st H' → REnv X.K ω' env σ' → D.nx σ' H'
  | .rt v st => ∀ ω' H' x, Ext ω H ω' H' → Wd X.K ω' st H' → Rep X.K ω' v x → D.rt x H'
  | .bk env st => ∀ ω' H' σ', Ext ω H ω' H' → Wd X.K ω' st H' → REnv X.K ω' env σ' → D.bk σ' H'
  | .ct env st => ∀ ω' H' σ', Ext ω H ω' H' → Wd X.K ω' st H' → REnv X.K ω' env σ' → D.ct σ' H'
  | .err env n fs st => ∀ ω' H' σ' d cls, Ext ω H ω' H' → Wd X.K ω' st H' → REnv X.K ω' env σ' → X.mg n = some cls → XRep X.K ω' H H' fs d → W cls d σ' H'
  | .stuck => False
def tS (X : Cx) (W : WX) (f : SM) : TS := fun D σ H => ∃ ω st env, Wd X.K ω st H ∧ REnv X.K ω env σ ∧ AfterS X W ω H (f env st) D
abbrev MS (X : Cx) (W : WX) (s : Stmt) (f : SM) : Prop := PS X s (tS X W f)
abbrev MB (X : Cx) (W : WX) (s : List Stmt) (f : SM) : Prop := PSs X s (tS X W f)
def sOf {α : Type} (r : Res α) (env : PEnv) (k : α → Store → SR) : SR :=
  match r with
  | .ok a st => k a st
  | .err n fs st => .err env n fs st
  | .stuck => .stuck
section
variable {X : Cx} {W : WX} {ω ω1 : Wo} {H H1 : Hp} {D : Ends}
theorem AfterS.shift {r : SR} (h : AfterS X W ω H r D) (x : Ext ω H ω1 H1) : AfterS X W ω1 H1 r D := by
  cases r with
  | nx env st => exact fun ω' H' σ' e w r => h ω' H' σ' (x.trans e) w r
  | rt v st => exact fun ω' H' y e w r => h ω' H' y (x.trans e) w r
  | bk env st => exact fun ω' H' σ' e w r => h ω' H' σ' (x.trans e) w r
  | ct env st => exact fun ω' H' σ' e w r => h ω' H' σ' (x.trans e) w r
  | err env n fs st => exact fun ω' H' σ' d cls e w r m y => h ω' H' σ' d cls (x.trans e) w r m (y.shift x)
  | stuck => exact h
theorem AfterS.nx_here {env : PEnv} {st : Store} {σ : L2.St} (h : AfterS X W ω H (.nx env st) D) (w : Wd X.K ω st H) (r : REnv X.K ω env σ) : D.nx σ H := h ω H σ (.refl ω H) w r
theorem AfterS.bind {α β : Type} {r : Res α} {env : PEnv} {σ : L2.St} {k : α → Store → SR} {Rel : Wo → α → β → Prop} (h : AfterS X W ω H (sOf r env k) D) (re : REnv X.K ω env σ) :
    After (gd X) (wx W σ) ω H r Rel fun x H1 => ∃ ω1 st1 a, Ext ω H ω1 H1 ∧ Wd X.K ω1 st1 H1 ∧ Rel ω1 a x ∧ AfterS X W ω1 H1 (k a st1) D := by
  cases r with
  | ok a st' => exact fun ω' H' y e w q => ⟨ω', st', a, e, w, q, AfterS.shift h e⟩
  | err n fs st' => exact fun ω' H' d cls e w m y => h ω' H' σ d cls e w (re.mono e.le) m y
  | stuck => exact h
end
/-! ### blocks, small statements -/
def sNil : SM := fun env st => .nx env st
def sSeq (f g : SM) : SM := fun env st => match f env st with
  | .nx env' st' => g env' st'
  | r => r
def sSet (i : Nat) (f : EM) : SM := fun env st => sOf (f env st) env fun v st1 => .nx (env.set i (some v)) st1
def sExpr (f : EM) : SM := fun env st => sOf (f env st) env fun _ st1 => .nx env st1
def sRet (f : EM) : SM := fun env st => sOf (f env st) env fun v st1 => .rt v st1
def sRetN : SM := fun _ st => .rt .non st
def sIf (c : TM) (f g : SM) : SM := fun env st => sOf (c env st) env fun b st1 => if b = true then f env st1 else g env st1
def sBk : SM := fun env st => .bk env st
def sCt : SM := fun env st => .ct env st
section
variable {X : Cx} {W : WX} {s : Stmt} {ss : List Stmt} {f g : SM} {e : Expr} {fe : EM} {pos : Pos}
theorem mb_nil : MB X W [] sNil := pssI pss_nil fun D σ H ⟨ω, st, env, wd, re, h⟩ => h.nx_here wd re
theorem mb_cons (h1 : MS X W s f) (h2 : MB X W ss g) : MB X W (s :: ss) (sSeq f g) := by
  refine pssI (pss_cons h1 h2) ?_
  rintro D σ H ⟨ω, st, env, wd, re, h⟩
  refine ⟨ω, st, env, wd, re, ?_⟩
  unfold sSeq at h
  split at h
  · rename_i env' st' q
    rw [q]
    exact fun ω' H' σ' x w r => ⟨ω', st', env', w, r, h.shift x⟩
  · rename_i q
    cases r : f env st with
    | nx env' st' => exact (q env' st' r).elim
    | rt v st => rw [r] at h; exact h
    | bk env st => rw [r] at h; exact h
    | ct env st => rw [r] at h; exact h
    | err env n fs st => rw [r] at h; exact h
    | stuck => rw [r] at h; exact h
theorem mb_one (h1 : MS X W s f) : MB X W [s] f := pss_one h1
theorem ms_set {i : Nat} {x : Str} {pos' : Pos} (hN : X.N.Nodup) (he : ME X W e fe) (hi : X.N[i]? = some x := by rfl) (hx : Loc X.env.scope x := by first | exact Or.inl rfl | exact Or.inr rfl) (hs : swapsWith e (some (.Name x pos')) pos.line X.env = pure false := by rfl)
    (hf : X.fn x = true ∨ X.env.scope.names.lookup x = some .local := by first | exact .inl rfl | exact .inr rfl | assumption) : MS X W (.Assign [.Name x pos'] e pos) (sSet i fe) := by
  refine psI (ps_set hN hi hx he hs hf) ?_
  rintro D σ H ⟨ω, st, env, wd, re, h⟩
  refine ⟨ω, st, env, wd, re, (h.bind (Rel := RV X.K) re).mono ?_⟩
  rintro y H1 ⟨ω1, st1, v, e1, wd1, r1, h1⟩
  exact h1.nx_here wd1 ((re.mono e1.le).set r1 i)
theorem ms_expr (he : ME X W e fe) (hs : swapsWith e none pos.line X.env = pure false := by rfl) : MS X W (.Expr e pos) (sExpr fe) := by
  refine psI (ps_expr he hs) ?_
  rintro D σ H ⟨ω, st, env, wd, re, h⟩
  refine ⟨ω, st, env, wd, re, (h.bind (Rel := RV X.K) re).mono ?_⟩
  rintro y H1 ⟨ω1, st1, v, e1, wd1, r1, h1⟩
  exact h1.nx_here wd1 (re.mono e1.le)
theorem ms_ret (he : ME X W e fe) : MS X W (.Return (some e) pos) (sRet fe) := by
  refine psI (ps_ret he) ?_
  rintro D σ H ⟨ω, st, env, wd, re, h⟩
  refine ⟨ω, st, env, wd, re, (h.bind (Rel := RV X.K) re).mono ?_⟩
  rintro y H1 ⟨ω1, st1, v, e1, wd1, r1, h1⟩
  exact h1 ω1 H1 y (.refl _ _) wd1 r1
theorem ms_retN : MS X W (.Return none pos) sRetN := psI ps_retN fun D σ H ⟨ω, st, env, wd, re, h⟩ => h ω H .non (.refl _ _) wd .non
theorem ms_if {c : Expr} {a b : List Stmt} {fc : TM} (hc : MT X W c fc) (ha : MB X W a f) (hb : MB X W b g) : MS X W (.If c a b pos) (sIf fc f g) := by
  refine psI (ps_if hc ha hb) ?_
  rintro D σ H ⟨ω, st, env, wd, re, h⟩
  refine ⟨ω, st, env, wd, re, (h.bind (Rel := RQ) re).mono ?_⟩
  rintro y H1 ⟨ω1, st1, v, e1, wd1, r1, h1⟩
  have r1 : v = y := r1
  subst r1
  cases v with
  | true => exact iteT ⟨ω1, st1, env, wd1, re.mono e1.le, by simpa using h1⟩
  | false => exact iteF ⟨ω1, st1, env, wd1, re.mono e1.le, by simpa using h1⟩
theorem ms_break : MS X W (.Break pos) sBk := psI ps_break fun D σ H ⟨ω, st, env, wd, re, h⟩ => h ω H σ (.refl _ _) wd re
theorem ms_continue : MS X W (.Continue pos) sCt := psI ps_continue fun D σ H ⟨ω, st, env, wd, re, h⟩ => h ω H σ (.refl _ _) wd re
theorem ms_pass : MS X W (.Pass pos) sNil := psI ps_pass fun D σ H ⟨ω, st, env, wd, re, h⟩ => h.nx_here wd re
end
/-! ### targets -/
inductive Tg where
  | one (i : Nat)
  | tup (is : List Nat)
def Tg.slots : Tg → List Nat
  | .one i => [i]
  | .tup is => is
def setTgs : List Nat → List PV → PEnv → Option PEnv
  | [], [], env => some env
  | i :: is, v :: vs, env => setTgs is vs (env.set i (some v))
  | _, _, _ => none
def setTg : Tg → PV → PEnv → Option PEnv
  | .one i, v, env => some (env.set i (some v))
  | .tup is, .tup vs, env => setTgs is vs env
  | _, _, _ => none
def gTs : List Nat → TGs
  | [] => gNil
  | i :: is => gCons (gName i) (gTs is)
def gT (K : PySem.W.Frag) : Tg → TG
  | .one i => gName i
  | .tup is => gTup K is.length (gTs is)
/-- σ' is σ but for some slots -/
def But (vs : List Nat) (σ σ' : L2.St) : Prop := σ'.length = σ.length ∧ ∀ j, j ∉ vs → σ'[j]? = σ[j]?
theorem But.refl (vs : List Nat) (σ : L2.St) : But vs σ σ := ⟨rfl, fun _ _ => rfl⟩
theorem But.set {vs : List Nat} {σ σ' : L2.St} {i : Nat} (h : But vs (σ.set i x) σ') (m : i ∈ vs) : But vs σ σ' :=
  ⟨h.1.trans (by simp), fun j n => (h.2 j n).trans (List.getElem?_set_ne (fun e => n (by rw [← e]; exact m)))⟩
theorem wipe_in {σ : L2.St} {j : Nat} : ∀ {vs : List Nat}, j ∈ vs → (L2.wipe σ vs)[j]? = if j < σ.length then some none else none
  | [], m => by cases m
  | v :: vs, m => by
    unfold L2.wipe
    by_cases h : v = j
    · subst h
      by_cases hl : v < σ.length
      · rw [if_pos hl, List.getElem?_set_self (by rw [wipe_length]; exact hl)]
      · rw [if_neg hl, List.getElem?_eq_none (by rw [List.length_set, wipe_length]; omega)]
    · rw [List.getElem?_set_ne h]
      rcases List.mem_cons.mp m with e | m
      · exact absurd e.symm h
      · exact wipe_in m
theorem wipe_but {vs : List Nat} {σ σ' : L2.St} (h : But vs σ σ') : L2.wipe σ' vs = L2.wipe σ vs := by
  refine List.ext_getElem? fun j => ?_
  by_cases m : j ∈ vs
  · rw [wipe_in m, wipe_in m, h.1]
  · rw [wipe_out m, wipe_out m, h.2 j m]
section
variable {K : PySem.W.Frag} {ω : Wo} {st : Store} {H : Hp} {env env1 : PEnv} {σ : L2.St}
theorem gTs_step : ∀ {is : List Nat} {vs : List PV} {xs : List V} {env : PEnv} {σ : L2.St} {Q : L2.St → Hp → Prop}, REnv K ω env σ → Reps K ω vs xs → setTgs is vs env = some env1 → (∀ σ1, REnv K ω env1 σ1 → But is σ σ1 → Q σ1 H) → gTs is xs σ H Q
  | [], [], _, env, σ, Q, re, .nil, e, k => by
    cases e
    exact ⟨rfl, k σ re (.refl _ _)⟩
  | i :: is, v :: vs, _, env, σ, Q, re, .cons r t, e, k => by
    refine ⟨_, _, rfl, ?_⟩
    show gTs is _ _ _ _
    refine gTs_step (re.set r i) t e fun σ1 r1 b => k σ1 r1 ?_
    exact ⟨b.1.trans (by simp), fun j n => (b.2 j (fun m => n (List.mem_cons_of_mem _ m))).trans (List.getElem?_set_ne (fun e => n (by rw [e]; exact List.mem_cons_self)))⟩
theorem gT_step {tg : Tg} {v : PV} {x : V} {Q : L2.St → Hp → Prop} (wd : Wd K ω st H) (re : REnv K ω env σ) (r : Rep K ω v x) (e : setTg tg v env = some env1) (k : ∀ σ1, REnv K ω env1 σ1 → But tg.slots σ σ1 → Q σ1 H) : gT K tg x σ H Q := by
  cases tg with
  | one i =>
    cases e
    exact k _ (re.set r i) ⟨by simp, fun j n => List.getElem?_set_ne (fun e => n (by rw [e]; exact List.mem_cons_self))⟩
  | tup is =>
    cases v with
    | tup vs =>
      have e : setTgs is vs env = some env1 := e
      cases r with
      | @tup a ws _ ea rs =>
        have hlen : ∀ {is : List Nat} {vs : List PV} {env : PEnv}, setTgs is vs env = some env1 → vs.length = is.length := by
          intro is
          induction is with
          | nil => intro vs env e; cases vs with
            | nil => rfl
            | cons _ _ => cases e
          | cons i is ih => intro vs env e; cases vs with
            | nil => cases e
            | cons v vs => simp [ih (show setTgs is vs _ = some env1 from e)]
        exact ⟨a, ws, rfl, .of (wd.sub _ _ ea), by rw [← rs.length]; exact hlen e, gTs_step re rs e k⟩
    | _ => cases e
end
abbrev MG (X : Cx) (t : Expr) (tg : Tg) : Prop := PG X t (gT X.K tg)
abbrev MGs (X : Cx) (ts : List Expr) (is : List Nat) : Prop := PGs X ts (gTs is)
section
variable {X : Cx} {pos : Pos}
theorem mg_one {i : Nat} {x : Str} (hN : X.N.Nodup) (hi : X.N[i]? = some x := by rfl) (hx : Loc X.env.scope x := by first | exact Or.inl rfl | exact Or.inr rfl)
    (hf : X.fn x = true ∨ X.env.scope.names.lookup x = some .local := by first | exact .inl rfl | exact .inr rfl | assumption) : MG X (.Name x pos) (.one i) := pg_name hN hi hx hf
theorem mgs_nil : MGs X [] [] := pgs_nil
theorem mgs_cons {i : Nat} {x : Str} {es : List Expr} {is : List Nat} (hN : X.N.Nodup) (h2 : MGs X es is) (hi : X.N[i]? = some x := by rfl) (hx : Loc X.env.scope x := by first | exact Or.inl rfl | exact Or.inr rfl)
    (hf : X.fn x = true ∨ X.env.scope.names.lookup x = some .local := by first | exact .inl rfl | exact .inr rfl | assumption) (hs : (assignEach (.Name x pos :: es) X.env).map (·.2) = assign (.Name x pos) X.env :: (assignEach es X.env).map (·.2) := by rfl) :
    MGs X (.Name x pos :: es) (i :: is) := pgs_cons (pg_name hN hi hx hf) h2 hs
theorem mg_tup {es : List Expr} {k : Nat} {is : List Nat} (hc : X.calm = true) (h : MGs X es is)
    (hn : (assignEach es X.env).length = is.length := by rfl) (hst : (assignEach es X.env).findIdx? (·.1) = none := by rfl) : MG X (.Tuple es k pos) (.tup is) := pg_tup hc h hn hst
end
/-- target = value, the target a name or a tuple of names -/
def sTg (tg : Tg) (f : EM) : SM := fun env st => sOf (f env st) env fun v st1 => match setTg tg v env with
  | some env1 => .nx env1 st1
  | none => .stuck
/-- a, b = e1, e2 -/
def sPar (i j : Nat) (fs : AM) : SM := fun env st => sOf (fs env st) env fun vs st1 => match vs with
  | [v, w] => .nx ((env.set i (some v)).set j (some w)) st1
  | _ => .stuck
/-- o[i] = e, by values -/
def StS (X : Cx) (p : PV → PV → PV → Store → Res Unit) : Prop :=
  ∃ t, PSet X t ∧ ∀ (E : XK) (ω : Wo) (st : Store) (H : Hp) (o i v : PV) (xo xi x : V) (Q : Hp → Prop), Wd X.K ω st H → Rep X.K ω o xo → Rep X.K ω i xi → Rep X.K ω v x → After (gd X) E ω H (p o i v st) (fun _ _ (_ : Unit) => True) (fun _ H' => Q H') → t xo xi x H Q
def sSub (p : PV → PV → PV → Store → Res Unit) (fo fi fv : EM) : SM := fun env st => sOf (fv env st) env fun v st1 => sOf (fo env st1) env fun o st2 => sOf (fi env st2) env fun i st3 => sOf (p o i v st3) env fun _ st4 => .nx env st4
section
variable {X : Cx} {W : WX} {e : Expr} {fe fo fi : EM} {pos : Pos}
theorem ms_tg {t : Expr} {tg : Tg} (hg : MG X t tg) (he : ME X W e fe) (hs : swapsWithSole [t] e pos.line X.env = pure false := by rfl) (hw : swappedStores [t] e X.env = pure none := by rfl)
    (h1 : (assignEach [t] X.env).map (·.2) = [assign t X.env] := by rfl) : MS X W (.Assign [t] e pos) (sTg tg fe) := by
  refine psI (ps_asg he hg hs hw h1) ?_
  rintro D σ H ⟨ω, st, env, wd, re, h⟩
  refine ⟨ω, st, env, wd, re, (h.bind (Rel := RV X.K) re).mono ?_⟩
  rintro y H1 ⟨ω1, st1, v, e1, wd1, r1, h1⟩
  split at h1
  · rename_i env1 q
    exact gT_step wd1 (re.mono e1.le) r1 q fun σ1 r _ => h1.nx_here wd1 r
  · exact False.elim h1
theorem ms_par {i j : Nat} {x y : Str} {a b : Expr} {fs : AM} {px py pt : Pos} {kt k2 pt2} (hc : X.calm = true) (hN : X.N.Nodup) (hij : i ≠ j) (ha : MA X W [a, b] fs)
    (hi : X.N[i]? = some x := by rfl) (hj : X.N[j]? = some y := by rfl)
    (hx : X.env.scope.names.lookup x = some .local := by rfl) (hy : X.env.scope.names.lookup y = some .local := by rfl)
    (hw : swappedStores [.Tuple [.Name x px, .Name y py] kt pt] (.Tuple [a, b] k2 pt2) X.env = pure (some [x, y]) := by rfl)
    (hs : swapsWithSole [.Tuple [.Name x px, .Name y py] kt pt] (.Tuple [a, b] k2 pt2) pos.line X.env = pure false := by rfl) :
    MS X W (.Assign [.Tuple [.Name x px, .Name y py] kt pt] (.Tuple [a, b] k2 pt2) pos) (sPar i j fs) := by
  refine psI (ps_par hc hN hi hj hij hx hy ha hw hs) ?_
  rintro D σ H ⟨ω, st, env, wd, re, h⟩
  refine ⟨ω, st, env, wd, re, (h.bind (Rel := RL X.K) re).mono ?_⟩
  rintro ys H1 ⟨ω1, st1, vs, e1, wd1, r1, h1⟩
  split at h1
  · rename_i v w
    cases r1 with
    | cons rv r =>
      cases r with
      | cons rw' r =>
        cases r
        exact ⟨_, _, rfl, h1.nx_here wd1 (((re.mono e1.le).set rv i).set rw' j)⟩
  · exact False.elim h1
theorem ms_sub {o i : Expr} {tpos : Pos} {p} (hS : StS X p) (ho : ME X W o fo) (hi : ME X W i fi) (he : ME X W e fe)
    (ha : ∀ v, assign (.Subscript o i tpos) X.env v = (do
      let ov ← holding [v] (eval o X.env)
      let iv ← holding [v, ov] (eval i X.env)
      standAt tpos
      holding [v, ov, iv] (setItem ov iv v)
      release [v, ov, iv] []) := by intro _; rfl)
    (hs : swapsWithSole [.Subscript o i tpos] e pos.line X.env = pure false := by rfl) (hw : swappedStores [.Subscript o i tpos] e X.env = pure none := by rfl)
    (h1 : (assignEach [.Subscript o i tpos] X.env).map (·.2) = [assign (.Subscript o i tpos) X.env] := by rfl) : MS X W (.Assign [.Subscript o i tpos] e pos) (sSub p fo fi fe) := by
  obtain ⟨t, ht, hi'⟩ := hS
  refine psI (ps_asg he (pg_sub ho hi ht ha) hs hw h1) ?_
  rintro D σ H ⟨ω, st, env, wd, re, h⟩
  refine ⟨ω, st, env, wd, re, (h.bind (Rel := RV X.K) re).mono ?_⟩
  rintro y H1 ⟨ω1, st1, v, e1, wd1, r1, h1⟩
  have re1 := re.mono e1.le
  refine ⟨ω1, st1, env, wd1, re1, (h1.bind (Rel := RV X.K) re1).mono ?_⟩
  rintro yo H2 ⟨ω2, st2, vo, e2, wd2, r2, h2⟩
  have re2 := re1.mono e2.le
  refine ⟨ω2, st2, env, wd2, re2, (h2.bind (Rel := RV X.K) re2).mono ?_⟩
  rintro yi H3 ⟨ω3, st3, vi, e3, wd3, r3, h3⟩
  have re3 := re2.mono e3.le
  refine hi' (wx W σ) ω3 st3 H3 vo vi v yo yi y _ wd3 (r2.mono e3.le) r3 (r1.mono (e2.le.trans e3.le)) ((h3.bind (Rel := fun _ _ _ => True) re3).mono ?_)
  rintro _ H4 ⟨ω4, st4, _, e4, wd4, _, h4⟩
  exact h4.nx_here wd4 (re3.mono e4.le)
end
/-! ### walks -/
/-- the items of a walk; pl: the place of the store where they stand, and must stand while it is walked -/
structure Itms where
  xs : List PV
  pl : Option (Nat × PO)
def Itms.ok (p : Itms) (st : Store) : Prop := match p.pl with
  | none => True
  | some (l, ys) => st[l]? = some ys
/-- the iterator J gives the items of p -/
structure ItR (K : PySem.W.Frag) (ω : Wo) (p : Itms) (J : It) : Prop where
  goes : ∀ i ω1 st H, i < p.xs.length → ω.Le ω1 → Wd K ω1 st H → p.ok st → J.go i H
  stops : ∀ ω1 st H, ω.Le ω1 → Wd K ω1 st H → p.ok st → J.stop p.xs.length H
  yields : ∀ i ω1 st H x H', i < p.xs.length → ω.Le ω1 → Wd K ω1 st H → p.ok st → J.yld i H x H' → ∃ ω2 v, Ext ω1 H ω2 H' ∧ Wd K ω2 st H' ∧ p.xs[i]? = some v ∧ Rep K ω2 v x
abbrev RI (K : PySem.W.Frag) : Wo → Itms → It → Prop := fun ω p J => ItR K ω p J
abbrev IM := PEnv → Store → Res Itms
abbrev MI (X : Cx) (W : WX) (t e : Expr) (f : IM) : Prop := PI X t e (tG X W (RI X.K) f)
theorem piI {X : Cx} {t e : Expr} {w w' : TI} (h : PI X t e w) (i : ∀ σ H Q, w' σ H Q → w σ H Q) : PI X t e w' := ⟨fun pins s σ H R I q => h.run pins s σ H R I (i σ H R q)⟩
open Classical in
noncomputable def sForL (tg : Tg) (body : SM) (ok : Store → Prop) : List PV → PEnv → Store → SR
  | [], env, st => if ok st then .nx env st else .stuck
  | v :: r, env, st => if ok st then match setTg tg v env with
    | none => .stuck
    | some env1 => match body env1 st with
      | .nx e s => sForL tg body ok r e s
      | .ct e s => sForL tg body ok r e s
      | .bk e s => .nx e s
      | .rt v s => .rt v s
      | .err e n fs s => .err e n fs s
      | .stuck => .stuck
    else .stuck
noncomputable def sFor (it : IM) (tg : Tg) (body : SM) : SM := fun env st => sOf (it env st) env fun p st1 => sForL tg body p.ok p.xs env st1
section
variable {X : Cx} {W : WX} {pos : Pos}
theorem ms_for {t iter : Expr} {body : List Stmt} {it : IM} {tg : Tg} {fb : SM} (hp : PassesOwn (model X.prog X.w) X.A X.env X.xe) (hc : X.calm = true) (hi : MI X W t iter it) (hg : MG X t tg) (hb : MB X W body fb)
    (hs : ∀ x, foldedSetIterable iter X.env x = pure x := by intro _; rfl) : MS X W (.For t iter body [] pos) (sFor it tg fb) := by
  refine psI (ps_for hp hc hi hg hb hs) ?_
  rintro D σ H ⟨ω, st, env, wd, re, h⟩
  refine ⟨ω, st, env, wd, re, (h.bind (Rel := RI X.K) re).mono ?_⟩
  rintro J H1 ⟨ω1, st1, ⟨xs, pl⟩, e1, wd1, r1, h1⟩
  refine ⟨fun i m σ' H' => m = xs.length - i ∧ i ≤ xs.length ∧ ∃ ω' st' env', ω1.Le ω' ∧ Wd X.K ω' st' H' ∧ REnv X.K ω' env' σ' ∧ AfterS X W ω' H' (sForL tg fb (Itms.ok ⟨xs, pl⟩) (xs.drop i) env' st') D,
    ⟨xs.length, by simp, Nat.zero_le _, ω1, st1, env, .refl _, wd1, re.mono e1.le, by simpa using h1⟩, ?_⟩
  rintro i m σ2 H2 ⟨rfl, hi, ω2, st2, env2, le2, wd2, re2, h2⟩
  have hok : Itms.ok ⟨xs, pl⟩ st2 := by
    by_cases hk : Itms.ok ⟨xs, pl⟩ st2
    · exact hk
    · cases q : xs.drop i with
      | nil => rw [q] at h2; unfold sForL at h2; rw [if_neg hk] at h2; exact False.elim h2
      | cons v r => rw [q] at h2; unfold sForL at h2; rw [if_neg hk] at h2; exact False.elim h2
  by_cases hlt : i < xs.length
  · refine .inr ⟨r1.goes i ω2 st2 H2 hlt le2 wd2 hok, fun σ' H' => ∃ ω' st' env', ω1.Le ω' ∧ Wd X.K ω' st' H' ∧ REnv X.K ω' env' σ' ∧ AfterS X W ω' H' (sForL tg fb (Itms.ok ⟨xs, pl⟩) (xs.drop (i + 1)) env' st') D,
      fun σ' H' q => ⟨xs.length - (i + 1), by omega, rfl, hlt, q⟩, fun x H3 y => ?_⟩
    obtain ⟨ω3, v, e3, wd3, hv, r3⟩ := r1.yields i ω2 st2 H2 x H3 hlt le2 wd2 hok y
    have hd : xs.drop i = v :: xs.drop (i + 1) := by
      have hv : xs[i]? = some v := hv
      rw [List.getElem?_eq_getElem hlt] at hv
      cases hv
      exact List.drop_eq_getElem_cons hlt
    rw [hd] at h2
    have h2 := h2.shift e3
    unfold sForL at h2
    rw [if_pos hok] at h2
    split at h2
    · exact False.elim h2
    · rename_i env3 q3
      refine gT_step wd3 (re2.mono e3.le) r3 q3 fun σ4 re4 _ => ?_
      refine ⟨ω3, st2, env3, wd3, re4, ?_⟩
      have le3 := le2.trans e3.le
      split at h2
      · rename_i q; rw [q]
        exact fun ω' H' σ' x w r => ⟨ω', _, _, le3.trans x.le, w, r, h2.shift x⟩
      · rename_i q; rw [q]
        exact fun ω' H' σ' x w r => ⟨ω', _, _, le3.trans x.le, w, r, h2.shift x⟩
      · rename_i q; rw [q]
        exact h2
      · rename_i q; rw [q]
        exact h2
      · rename_i q; rw [q]
        exact h2
      · exact False.elim h2
  · have e : i = xs.length := by omega
    subst e
    rw [List.drop_length] at h2
    unfold sForL at h2
    rw [if_pos hok] at h2
    exact .inl ⟨r1.stops ω2 st2 H2 le2 wd2 hok, AfterS.nx_here h2 wd2 re2⟩
end
/-! ### comprehensions -/
open Classical in
noncomputable def compL (tg : Tg) (test : TM) (elt : EM) (ok : Store → Prop) : List PV → PEnv → Store → List PV → Res (List PV)
  | [], _, st, acc => if ok st then .ok acc st else .stuck
  | v :: r, env, st, acc => if ok st then match setTg tg v env with
    | none => .stuck
    | some env1 => (noErr (test env1 st)).bind fun b st1 =>
      if b = true then (noErr (elt env1 st1)).bind fun y st2 => if acc.length < sizeLine then compL tg test elt ok r env st2 (acc ++ [y]) else .stuck
      else compL tg test elt ok r env st1 acc
    else .stuck
def fin (loc : Bool) (ys : List PV) (st : Store) : Res PV := match loc with
  | false => .ok (.lst ys) st
  | true => .ok (.loc st.length) (st ++ [.lst ys])
noncomputable def eCompG (loc : Bool) (own : List Nat) (it : IM) (tg : Tg) (test : TM) (elt : EM) : EM := fun env st => (it env st).bind fun p st1 => (compL tg test elt p.ok p.xs (wipeP env own) st1 []).bind fun ys st2 => fin loc ys st2
noncomputable abbrev eComp (own : List Nat) (it : IM) (tg : Tg) (test : TM) (elt : EM) : EM := eCompG false own it tg test elt
noncomputable abbrev eCompLoc (own : List Nat) (it : IM) (tg : Tg) (test : TM) (elt : EM) : EM := eCompG true own it tg test elt
def tYesM : TM := fun _ st => .ok true st
abbrev MTs (X : Cx) (W : WX) (es : List Expr) (f : TM) : Prop := PTs X es (tG X W RQ f)
theorem ptsI {X : Cx} {e : List Expr} {t t' : TT} (h : PTs X e t) (i : ∀ σ H Q, t' σ H Q → t σ H Q) : PTs X e t' := ⟨fun pins s σ H Q I q => h.run pins s σ H Q I (i σ H Q q)⟩
theorem mts_nil {X : Cx} {W : WX} : MTs X W [] tYesM := ptsI pts_nil fun σ H Q ⟨ω, st, env, wd, re, h⟩ => h.ok_here wd rfl
theorem mts_one {X : Cx} {W : WX} {c : Expr} {f : TM} (h : MT X W c f) : MTs X W [c] f := pts_one h
abbrev W0 : WX := fun _ _ _ _ => False
section
variable {K : PySem.W.Frag} {ω : Wo} {st : Store} {H : Hp}
theorem Wd.other (h : Wd K ω st H) {p : Addr} {o : HO} (nF : ω.F p = none) (nρ : p ∉ ω.ρ) : Wd K ω st (upd H p o) := by
  refine ⟨fun b u e => ?_, h.len, h.nd, h.sep, fun l a q e1 e2 => ?_⟩
  · rw [upd_ne (ne_of_none e nF)]
    exact h.sub b u e
  · have na : a ≠ p := fun z => nρ (by rw [← z]; exact List.mem_of_getElem? e1)
    have hq := h.obj l a q e1 e2
    exact hq.tr (.refl ω) (upd_ne na)
/-- an object that stands is frozen -/
theorem Wd.freeze (h : Wd K ω st H) {p : Addr} {o : HO} (e : H p = some o) (nF : ω.F p = none) (nρ : p ∉ ω.ρ) : Wd K (ω.fz p o) st H := by
  have le := Wo.fz_le (o := o) nF
  refine ⟨fun b u q => ?_, h.len, h.nd, fun a m => ?_, fun l a q e1 e2 => ?_⟩
  · by_cases hb : b = p
    · subst hb
      have q : upd ω.F b o b = some u := q
      rw [upd_same] at q
      cases q
      exact e
    · have q : upd ω.F p o b = some u := q
      rw [upd_ne hb] at q
      exact h.sub b u q
  · show upd ω.F p o a = none ∨ ∃ od u, upd ω.F p o a = some (.frz od u)
    rw [upd_ne (fun z => nρ (by rw [← z]; exact m))]
    exact h.sep a m
  · have hq := h.obj l a q e1 e2
    exact hq.tr le rfl
/-- a list that stands becomes a place of the store -/
theorem Wd.adopt (h : Wd K ω st H) {p : Addr} {vs : List V} {xs : List PV} (e : H p = some (.lst vs)) (nF : ω.F p = none) (nρ : p ∉ ω.ρ) (r : Reps K ω xs vs) : Wd K (ω.nw p) (st ++ [.lst xs]) H := by
  have le : ω.Le (ω.nw p) := Wo.nw_le
  refine ⟨h.sub, by simp [h.len], ?_, fun a m => ?_, fun l a q e1 e2 => ?_⟩
  · refine List.nodup_append.mpr ⟨h.nd, by simp, fun a ha b hb => ?_⟩
    have e : b = p := by simpa using hb
    subst e
    intro z
    exact nρ (by rw [← z]; exact ha)
  · rcases List.mem_append.mp m with m | m
    · exact h.sep a m
    · have e : a = p := by simpa using m
      subst e; exact .inl nF
  · rcases Nat.lt_or_ge l st.length with hl | hl
    · have e1' : ω.ρ[l]? = some a := by
        have e1 : (ω.ρ ++ [p])[l]? = some a := e1
        rw [List.getElem?_append_left (by rw [h.len]; exact hl)] at e1
        exact e1
      rw [List.getElem?_append_left hl] at e2
      have hq := h.obj l a q e1' e2
      exact hq.tr le rfl
    · have e1 : (ω.ρ ++ [p])[l]? = some a := e1
      rw [List.getElem?_append_right (by rw [h.len]; exact hl)] at e1
      rw [List.getElem?_append_right hl] at e2
      have z : l - st.length = 0 := by
        rcases Nat.eq_zero_or_pos (l - st.length) with z | z
        · exact z
        · rw [List.getElem?_eq_none (by simp only [List.length_singleton]; omega)] at e2; cases e2
      rw [z] at e2
      rw [h.len, z] at e1
      simp only [List.getElem?_cons_zero, Option.some.injEq] at e1 e2
      subst e1
      subst e2
      exact ⟨vs, e, r.mono le⟩
end
/-- an object that stands and is told of nowhere, between two heaps -/
theorem Ext.apart {ω ω' : Wo} {H H' : Hp} (x : Ext ω H ω' H') {D : Addr} {o : HO} (e : H D = some o) (nF : ω.F D = none) (nρ : D ∉ ω.ρ) : H' D = some o ∧ ω'.F D = none ∧ D ∉ ω'.ρ := by
  refine ⟨x.oth D o e nρ, ?_, fun m => ?_⟩
  · cases q : ω'.F D with
    | none => rfl
    | some u =>
      rcases x.nF D (by rw [q]; simp) with z | z
      · exact absurd nF z
      · rw [e] at z; cases z
  · rcases x.nρ D m with z | z
    · exact nρ z
    · rw [e] at z; cases z
section
variable {X : Cx} {W : WX} {pos : Pos}
/-- behind i items: acc made so far lies at D -/
structure CompAt (X : Cx) (loc : Bool) (G : Gd) (E : XK) (ω1 : Wo) (H1 : Hp) (D : Addr) (tg : Tg) (test : TM) (elt : EM) (env : PEnv) (p : Itms) (Q : VK) (i : Nat) (H : Hp) : Prop where
  ex : ∃ ω' st' acc vs, Ext ω1 H1 ω' H ∧ Wd X.K ω' st' H ∧ H D = some (.lst vs) ∧ ω'.F D = none ∧ D ∉ ω'.ρ ∧ Reps X.K ω' acc vs ∧
    After G E ω1 H1 ((compL tg test elt p.ok (p.xs.drop i) env st' acc).bind fun ys st2 => fin loc ys st2) (RV X.K) Q
theorem comp_step {loc : Bool} {g : TG} {tt : TT} {te : TE} {own : List Nat} {it : IM} {tg : Tg} {test : TM} {elt : EM} {wi : TI} {σ : L2.St} {H : Hp} {Q : VK}
    (hwi : wi = tG X W (RI X.K) it) (hg : g = gT X.K tg) (htt : tt = tG X W0 RQ test) (hte : te = tG X W0 (RV X.K) elt) (hsl : ∀ i ∈ tg.slots, i ∈ own)
    (h : tG X W (RV X.K) (eCompG loc own it tg test elt) σ H Q) : tLc wi g tt te own σ H Q := by
  subst hwi hg htt hte
  obtain ⟨ω, st, env, wd, re, h⟩ := h
  refine ⟨ω, st, env, wd, re, (After.bind (Rel := RI X.K) h).mono ?_⟩
  rintro J H1 ⟨ω1, st1, ⟨xs, pl⟩, e1, wd1, r1, h1⟩
  intro D hD
  have re1 : REnv X.K ω1 (wipeP env own) (L2.wipe σ own) := (re.mono e1.le).wipe own
  have nFD : ω1.F D = none := wd1.fresh hD
  have nρD : D ∉ ω1.ρ := fun m => by
    obtain ⟨u, e⟩ := wd1.there m
    rw [hD] at e; cases e
  have x0 : Ext ω1 H1 ω1 (upd H1 D (.lst [])) := by
    refine ⟨.refl _, fun b o e _ => ?_, fun b z => ?_, fun b z => .inl z, fun b m => .inl m, fun b od u e => by rw [upd_ne (ne_of_none e hD)]; exact e⟩
    · rw [upd_ne (ne_of_none e hD)]; exact e
    · by_cases hb : b = D
      · subst hb; rw [upd_same]; simp
      · rw [upd_ne hb]; exact z
  refine ⟨fun i m H' => m = xs.length - i ∧ i ≤ xs.length ∧ CompAt X loc (gd X) (wx W σ) ω1 H1 D tg test elt (wipeP env own) ⟨xs, pl⟩ Q i H',
    ⟨xs.length, by simp, Nat.zero_le _, ω1, st1, [], [], x0, wd1.other nFD nρD, upd_same, nFD, nρD, .nil, by simpa using h1⟩, ?_⟩
  rintro i m H2 ⟨rfl, hi, ⟨ω2, st2, acc, vs, x2, wd2, hD2, nF2, nρ2, ra, h2⟩⟩
  have le2 := x2.le
  have h2 : After (gd X) (wx W σ) ω1 H1 ((compL tg test elt (Itms.ok ⟨xs, pl⟩) (xs.drop i) (wipeP env own) st2 acc).bind fun ys st2 => fin loc ys st2) (RV X.K) Q := h2
  have hok : Itms.ok ⟨xs, pl⟩ st2 := by
    by_cases hk : Itms.ok ⟨xs, pl⟩ st2
    · exact hk
    · cases q : xs.drop i with
      | nil => rw [q] at h2; unfold compL at h2; rw [if_neg hk] at h2; exact False.elim h2
      | cons v r => rw [q] at h2; unfold compL at h2; rw [if_neg hk] at h2; exact False.elim h2
  by_cases hlt : i < xs.length
  · refine .inr ⟨r1.goes i ω2 st2 H2 hlt le2 wd2 hok, fun H' => CompAt X loc (gd X) (wx W σ) ω1 H1 D tg test elt (wipeP env own) ⟨xs, pl⟩ Q (i + 1) H', fun H' q => ⟨xs.length - (i + 1), by omega, rfl, hlt, q⟩, fun x H3 y => ?_⟩
    obtain ⟨ω3, v, e3, wd3, hv, r3⟩ := r1.yields i ω2 st2 H2 x H3 hlt le2 wd2 hok y
    have hd : xs.drop i = v :: xs.drop (i + 1) := by
      have hv : xs[i]? = some v := hv
      rw [List.getElem?_eq_getElem hlt] at hv
      cases hv
      exact List.drop_eq_getElem_cons hlt
    rw [hd] at h2
    obtain ⟨hD3, nF3, nρ3⟩ := e3.apart hD2 nF2 nρ2
    unfold compL at h2
    rw [if_pos hok] at h2
    split at h2
    · exact False.elim h2
    · rename_i env3 q3
      have re3 := re1.mono (le2.trans e3.le)
      refine gT_step wd3 re3 r3 q3 fun σ4 re4 b4 => ⟨?_, ?_⟩
      · have b : But own (L2.wipe σ own) σ4 := ⟨b4.1, fun j n => b4.2 j fun m => n (hsl j m)⟩
        rw [wipe_but b]
        exact wipe_but ⟨wipe_length σ own, fun j n => wipe_out n⟩
      · -- the test
        have ht : After (gd X) (wx W0 σ4) ω3 H3 (test env3 st2) RQ fun b H4 => ∃ ω4 st4, Ext ω3 H3 ω4 H4 ∧ Wd X.K ω4 st4 H4 ∧
            After (gd X) (wx W σ) ω1 H1 ((if b = true then (noErr (elt env3 st4)).bind fun y st5 => if acc.length < sizeLine then compL tg test elt (Itms.ok ⟨xs, pl⟩) (xs.drop (i + 1)) (wipeP env own) st5 (acc ++ [y]) else .stuck
              else compL tg test elt (Itms.ok ⟨xs, pl⟩) (xs.drop (i + 1)) (wipeP env own) st4 acc).bind fun ys st2 => fin loc ys st2) (RV X.K) Q := by
          cases qt : test env3 st2 with
          | ok b st' =>
            rw [qt] at h2
            intro ω' H' b' ex w rb
            have rb : b = b' := rb
            subst rb
            exact ⟨ω', st', ex, w, h2⟩
          | err n f st' => rw [qt] at h2; exact False.elim h2
          | stuck => rw [qt] at h2; exact False.elim h2
        refine ⟨ω3, st2, env3, wd3, re4, ht.mono ?_⟩
        rintro b H4 ⟨ω4, st4, e4, wd4, h4⟩
        obtain ⟨hD4, nF4, nρ4⟩ := e4.apart hD3 nF3 nρ3
        have ra4 := ra.mono (e3.le.trans e4.le)
        have x4 := x2.trans (e3.trans e4)
        cases b with
        | false =>
          refine iteF ⟨ω4, st4, acc, vs, x4, wd4, hD4, nF4, nρ4, ra4, ?_⟩
          simpa using h4
        | true =>
          refine iteT ?_
          rw [if_pos rfl] at h4
          have he : After (gd X) (wx W0 σ4) ω4 H4 (elt env3 st4) (RV X.K) fun y H5 => ∃ ω5 st5 yv, Ext ω4 H4 ω5 H5 ∧ Wd X.K ω5 st5 H5 ∧ Rep X.K ω5 yv y ∧ acc.length < sizeLine ∧
              After (gd X) (wx W σ) ω1 H1 ((compL tg test elt (Itms.ok ⟨xs, pl⟩) (xs.drop (i + 1)) (wipeP env own) st5 (acc ++ [yv])).bind fun ys st2 => fin loc ys st2) (RV X.K) Q := by
            cases qe : elt env3 st4 with
            | ok y st' =>
              rw [qe] at h4
              have h4 : After (gd X) (wx W σ) ω1 H1 ((if acc.length < sizeLine then compL tg test elt (Itms.ok ⟨xs, pl⟩) (xs.drop (i + 1)) (wipeP env own) st' (acc ++ [y]) else Res.stuck).bind fun ys st2 => fin loc ys st2) (RV X.K) Q := h4
              intro ω' H' y' ex w ry
              by_cases hz : acc.length < sizeLine
              · rw [if_pos hz] at h4
                exact ⟨ω', st', y, ex, w, ry, hz, h4⟩
              · rw [if_neg hz] at h4
                exact False.elim h4
            | err n f st' => rw [qe] at h4; exact False.elim h4
            | stuck => rw [qe] at h4; exact False.elim h4
          refine ⟨ω4, st4, env3, wd4, re4.mono e4.le, he.mono ?_⟩
          rintro yv H5 ⟨ω5, st5, y, e5, wd5, r5, hz, h5⟩
          obtain ⟨hD5, nF5, nρ5⟩ := e5.apart hD4 nF4 nρ4
          have ra5 := ra4.mono e5.le
          refine ⟨vs, hD5, by rw [← ra.length]; exact hz, ?_⟩
          have xD : Ext ω1 H1 ω5 (upd H5 D (.lst (vs ++ [yv]))) := by
            have z := x4.trans e5
            refine ⟨z.le, fun b o e n => ?_, fun b q => ?_, z.nF, z.nρ, fun b od u e => by rw [upd_ne (ne_of_none e hD)]; exact z.fr b od u e⟩
            · rw [upd_ne (ne_of_none e hD)]; exact z.oth b o e n
            · by_cases hb : b = D
              · subst hb; rw [upd_same]; simp
              · rw [upd_ne hb]; exact z.live b q
          exact ⟨ω5, st5, acc ++ [y], vs ++ [yv], xD, wd5.other nF5 nρ5, upd_same, nF5, nρ5, ra5.append (Reps.one r5), h5⟩
  · have e : i = xs.length := by omega
    subst e
    rw [List.drop_length] at h2
    unfold compL at h2
    rw [if_pos hok] at h2
    refine .inl ⟨r1.stops ω2 st2 H2 le2 wd2 hok, ?_⟩
    cases loc with
    | false =>
      have h2 : After (gd X) (wx W σ) ω1 H1 (.ok (.lst acc) st2) (RV X.K) Q := h2
      have w := wd2.freeze hD2 nF2 nρ2
      have le := Wo.fz_le (o := .lst vs) nF2
      refine h2 _ H2 (.ref D) ⟨le2.trans le, x2.oth, x2.live, fun b z => ?_, x2.nρ, x2.fr⟩ w (.lst upd_same (ra.mono le))
      by_cases hb : b = D
      · subst hb; exact .inr hD
      · have z : upd ω2.F D (.lst vs) b ≠ none := z
        rw [upd_ne hb] at z
        exact x2.nF b z
    | true =>
      have h2 : After (gd X) (wx W σ) ω1 H1 (.ok (.loc st2.length) (st2 ++ [.lst acc])) (RV X.K) Q := h2
      have w := wd2.adopt hD2 nF2 nρ2 ra
      refine h2 _ H2 (.ref D) ⟨le2.trans Wo.nw_le, x2.oth, x2.live, x2.nF, fun b m => ?_, x2.fr⟩ w (.loc ?_)
      · rcases List.mem_append.mp m with m | m
        · exact x2.nρ b m
        · have e : b = D := by simpa using m
          subst e; exact .inr hD
      · rw [← wd2.len]
        simp
theorem me_compG (loc : Bool) {elt tg iter : Expr} {ifs : List Expr} {scope : Scope} {own : List (Str × Nat)} {it : IM} {t : Tg} {ft : TM} {fe : EM} (hc : X.calm = true) (hN : X.N.Nodup) (hi : MI X W tg iter it) (ok : BlkOk X.N X.env.scope scope own)
    (hg : ∀ (s : Shared) (H : Hp) (C : Addr) (cl : List (Str × Addr)) (fp : List Addr), MG (X.blk s H scope (compEnvC scope cl C X.env) fp) tg t)
    (ht : ∀ (s : Shared) (H : Hp) (C : Addr) (cl : List (Str × Addr)) (fp : List Addr), MTs (X.blk s H scope (compEnvC scope cl C X.env) fp) W0 ifs ft)
    (he : ∀ (s : Shared) (H : Hp) (C : Addr) (cl : List (Str × Addr)) (fp : List Addr), ME (X.blk s H scope (compEnvC scope cl C X.env) fp) W0 elt fe)
    (hsl : ∀ i ∈ t.slots, i ∈ own.map (·.2) := by decide) (hs : ∀ x, foldedSetIterable iter X.env x = pure x := by intro _; rfl) :
    ME X W (.ListComp elt [⟨tg, iter, ifs, 0⟩] scope pos) (eCompG loc (own.map (·.2)) it t ft fe) :=
  peI (pe_lc (X := X) (g := gT X.K t) (tt := tG X W0 RQ ft) (te := tG X W0 (RV X.K) fe) hc hN hi ok hg ht he hs) fun σ H Q h => comp_step rfl rfl rfl rfl hsl h
theorem ms_setCompG (loc : Bool) {i : Nat} {y : Str} {py spos : Pos} {elt tg iter : Expr} {ifs : List Expr} {scope : Scope} {own : List (Str × Nat)} {it : IM} {t : Tg} {ft : TM} {fe : EM} (hc : X.calm = true) (hN : X.N.Nodup) (hi : MI X W tg iter it) (ok : BlkOk X.N X.env.scope scope own)
    (hg : ∀ (s : Shared) (H : Hp) (C : Addr) (cl : List (Str × Addr)) (fp : List Addr), MG (X.blk s H scope (compEnvC scope cl C X.env) fp) tg t)
    (ht : ∀ (s : Shared) (H : Hp) (C : Addr) (cl : List (Str × Addr)) (fp : List Addr), MTs (X.blk s H scope (compEnvC scope cl C X.env) fp) W0 ifs ft)
    (he : ∀ (s : Shared) (H : Hp) (C : Addr) (cl : List (Str × Addr)) (fp : List Addr), ME (X.blk s H scope (compEnvC scope cl C X.env) fp) W0 elt fe)
    (hy : X.N[i]? = some y := by rfl) (hyl : X.env.scope.names.lookup y = some .local := by rfl)
    (hsw : swapsWith (.ListComp elt [⟨tg, iter, ifs, 0⟩] scope pos) (some (.Name y py)) spos.line X.env = pure true := by exact sw_true rfl rfl rfl (by decide +kernel))
    (hsl : ∀ i ∈ t.slots, i ∈ own.map (·.2) := by decide) (hs : ∀ x, foldedSetIterable iter X.env x = pure x := by intro _; rfl) :
    MS X W (.Assign [.Name y py] (.ListComp elt [⟨tg, iter, ifs, 0⟩] scope pos) spos) (sSet i (eCompG loc (own.map (·.2)) it t ft fe)) := by
  refine psI (ps_setLc (g := gT X.K t) (tt := tG X W0 RQ ft) (te := tG X W0 (RV X.K) fe) hc hN hy hyl hsw hi ok hg ht he hs) ?_
  rintro D σ H ⟨ω, st, env, wd, re, h⟩
  refine comp_step rfl rfl rfl rfl hsl ⟨ω, st, env, wd, re, (h.bind (Rel := RV X.K) re).mono ?_⟩
  rintro y H1 ⟨ω1, st1, v, e1, wd1, r1, h1⟩
  exact h1.nx_here wd1 ((re.mono e1.le).set r1 i)
end
/-! ### a def of the text -/
def runBody (N : Nat) (f : SM) : List PV → Store → Res PV := fun args st => match f (args.map some ++ List.replicate (N - args.length) none) st with
  | .nx _ st' => .ok .non st'
  | .rt v st' => .ok v st'
  | .err _ n fs st' => .err n fs st'
  | _ => .stuck
theorem Reps.rep_append {K : PySem.W.Frag} {ω : Wo} : ∀ {vs : List PV} {xs : List V} (m : Nat), Reps K ω vs xs → REnv K ω (vs.map some ++ List.replicate m none) (xs.map some ++ List.replicate m none)
  | _, _, m, .nil => ⟨by simp, fun i v e => by
      simp only [List.map_nil, List.nil_append] at e
      rw [List.getElem?_replicate] at e
      split at e <;> cases e⟩
  | _, _, m, .cons r t => by
    have ih := Reps.rep_append m t
    refine ⟨by simpa using ih.len, fun i v e => ?_⟩
    cases i with
    | zero => simp at e; subst e; exact ⟨_, by simp, r⟩
    | succ i => exact ih.at' i v (by simpa using e)
section
variable {P : Program} {w : World} {K : PySem.W.Frag} {mg : Str → Option Value} {base : Heap}
/-- THE RULE for a def that lets no exception out -/
theorem okP {x qual : Str} {st : Stmt} {f : Addr} {fd : FuncData} {N ps : List Str} {k : Nat} {fm : SM} (F : Fun K x qual st f fd) (S : FnScope N ps (defScope st))
    (hbody : ∀ (cdv : Value) (A : Around) (outer : List Env) (s : Shared) (H : Hp) (E : XK), Room k (A.deeper (envOfC qual (defScope st) s.heap.objs.size f cdv)) →
      MB (cxOf CX0 P w K mg base N qual (defScope st) f cdv A outer s H E).nox W0 (defBody st) fm) :
    FnOk P w K mg base CX0 (k + 1) f fd ps (spP ⟨K, mg⟩ ps.length (nE (runBody N.length fm))) := by
  refine F.ok S (fun vs H Q E h => spP_len h) fun cdv A outer s H vs Q E hr h => ⟨_, hbody cdv A outer s H E hr, ?_⟩
  have hl := spP_len h
  obtain ⟨ω, s0, args, wd, r, h⟩ := h
  unfold guardN at h
  rw [if_pos (by rw [r.length]; exact hl)] at h
  refine ⟨ω, s0, args.map some ++ List.replicate (N.length - args.length) none, wd, ?_, ?_⟩
  · unfold L2.start
    rw [r.length]
    exact r.rep_append _
  · have h : After ⟨K, mg⟩ E ω H (noErr (runBody N.length fm args s0)) (RV K) Q := h
    unfold runBody at h
    split at h
    · rename_i q; rw [q]
      exact fun ω' H' σ' x w r => h ω' H' .non x w .non
    · rename_i q; rw [q]
      exact fun ω' H' y x w r => h ω' H' y x w r
    · exact False.elim h
    · exact False.elim h
/-- a def of which nothing is known but its places: no promise -/
theorem okP_zero {x qual : Str} {st : Stmt} {f : Addr} {fd : FuncData} {N ps : List Str} (F : Fun K x qual st f fd) (S : FnScope N ps (defScope st)) :
    FnOk P w K mg base CX0 1 f fd ps (spP ⟨K, mg⟩ ps.length (nE fun _ _ => .stuck)) := by
  refine ⟨fun vs H Q E h => spP_len h, fun A outer s H args us vs Q E hr e0 hb r hsp => ?_⟩
  obtain ⟨ω, s0, args, wd, r, h⟩ := hsp
  unfold guardN at h
  split at h <;> exact False.elim h
/-- a def that calls itself: by turns -/
def fuelF (N : Nat) (body : (List PV → Store → Res PV) → SM) : Nat → List PV → Store → Res PV
  | 0 => fun _ _ => .stuck
  | n + 1 => runBody N (body (fuelF N body n))
theorem okP_rec {x qual : Str} {st : Stmt} {f : Addr} {fd : FuncData} {N ps : List Str} {k : Nat} {body : (List PV → Store → Res PV) → SM} (F : Fun K x qual st f fd) (S : FnScope N ps (defScope st)) (hk : 1 ≤ k)
    (hbody : ∀ (n : Nat), FnOk P w K mg base CX0 (k + n) f fd ps (spP ⟨K, mg⟩ ps.length (nE (fuelF N.length body n))) → ∀ (cdv : Value) (A : Around) (outer : List Env) (s : Shared) (H : Hp) (E : XK), Room (k + n) (A.deeper (envOfC qual (defScope st) s.heap.objs.size f cdv)) →
      MB (cxOf CX0 P w K mg base N qual (defScope st) f cdv A outer s H E).nox W0 (defBody st) (body (fuelF N.length body n))) :
    ∀ n, FnOk P w K mg base CX0 (k + n) f fd ps (spP ⟨K, mg⟩ ps.length (nE (fuelF N.length body n)))
  | 0 => (okP_zero F S).mono hk
  | n + 1 => okP F S (hbody n (okP_rec F S hk hbody n))
end
end PL
/-! PL, part d: operators and built-ins, by plain values. -/
namespace PL
open PySem PySem.Spec PyProof.Rows L2
/-! ### plain values as data -/
mutual
def toD : PV → PyData
  | .non => .none
  | .bl b => .bool b
  | .int i => .int i
  | .str x => .str x
  | .tup xs => .tuple (toDs xs)
  | .lst xs => .list (toDs xs)
  | .frz xs => .list (toDs xs)
  | .loc _ => .none
  | .con _ => .none
  | .exc _ _ _ _ => .none
def toDs : List PV → List PyData
  | [] => []
  | x :: xs => toD x :: toDs xs
end
mutual
def isD : PV → Bool
  | .non => true
  | .bl _ => true
  | .int _ => true
  | .str _ => true
  | .tup xs => isDs xs
  | .lst xs => isDs xs
  | .frz xs => isDs xs
  | .loc _ => false
  | .con _ => false
  | .exc _ _ _ _ => false
def isDs : List PV → Bool
  | [] => true
  | x :: xs => isD x && isDs xs
end
theorem toDs_map : ∀ xs : List PV, toDs xs = xs.map toD
  | [] => by simp [toDs]
  | x :: xs => by simp [toDs, toDs_map xs]
theorem isDs_mem : ∀ {xs : List PV}, isDs xs = true → ∀ x ∈ xs, isD x = true
  | [], _, x, m => by cases m
  | y :: xs, h, x, m => by
    simp only [isDs, Bool.and_eq_true] at h
    rcases List.mem_cons.mp m with e | m
    · rw [e]; exact h.1
    · exact isDs_mem h.2 x m
mutual
theorem plain_toD : ∀ v : PV, (toD v).plain = true
  | .non => by simp [toD, PyData.plain]
  | .bl _ => by simp [toD, PyData.plain]
  | .int _ => by simp [toD, PyData.plain]
  | .str _ => by simp [toD, PyData.plain]
  | .tup xs => by simp [toD, PyData.plain, plain_toDs xs]
  | .lst xs => by simp [toD, PyData.plain, plain_toDs xs]
  | .frz xs => by simp [toD, PyData.plain, plain_toDs xs]
  | .loc _ => by simp [toD, PyData.plain]
  | .con _ => by simp [toD, PyData.plain]
  | .exc _ _ _ _ => by simp [toD, PyData.plain]
theorem plain_toDs : ∀ vs : List PV, PyData.plainAll (toDs vs) = true
  | [] => by simp [toDs, PyData.plainAll]
  | x :: xs => by simp [toDs, PyData.plainAll, plain_toD x, plain_toDs xs]
end
section
variable {K : PySem.W.Frag} {ω : Wo} {H : Hp}
mutual
theorem Rep.dp (sub : Same ω.F H) : ∀ {v : PV} {x : V}, Rep K ω v x → isD v = true → Dp K H x (toD v)
  | _, _, .non, _ => by rw [toD]; exact .non
  | _, _, .bl b, _ => by rw [toD]; exact .bl b
  | _, _, .int i, _ => by rw [toD]; exact .int i
  | _, _, .str x, _ => by rw [toD]; exact .str x
  | _, _, .tup e r, d => by rw [toD]; exact .tup (.of (sub _ _ e)) (Reps.dp sub r (by simpa [isD] using d))
  | _, _, .lst e r, d => by rw [toD]; exact .lst (.of (sub _ _ e)) (Reps.dp sub r (by simpa [isD] using d))
  | _, _, .frz e r, d => by rw [toD]; exact .lst (sub.seq e) (Reps.dp sub r (by simpa [isD] using d))
  | _, _, .loc e, d => by simp [isD] at d
  | _, _, .con v, d => by simp [isD] at d
  | _, _, .exc _ _ _, d => by simp [isD] at d
theorem Reps.dp (sub : Same ω.F H) : ∀ {vs : List PV} {xs : List V}, Reps K ω vs xs → isDs vs = true → DpAll K H xs (toDs vs)
  | _, _, .nil, _ => by rw [toDs]; exact .nil
  | _, _, .cons r t, d => by
    rw [toDs]
    simp only [isDs, Bool.and_eq_true] at d
    exact .cons (Rep.dp sub r d.1) (Reps.dp sub t d.2)
end
end
/-- a list or tuple, read: whether a tuple, its items -/
def seqOf (st : Store) : PV → Option (Bool × List PV)
  | .tup xs => some (true, xs)
  | .lst xs => some (false, xs)
  | .frz xs => some (false, xs)
  | .loc l => match st[l]? with
    | some (.lst xs) => some (false, xs)
    | _ => none
  | _ => none
section
variable {K : PySem.W.Frag} {ω : Wo} {H : Hp} {st : Store}
theorem seqOf_rep (wd : Wd K ω st H) {v : PV} {x : V} (r : Rep K ω v x) {t : Bool} {xs : List PV} (e : seqOf st v = some (t, xs)) : ∃ a vs, x = .ref a ∧ Reps K ω xs vs ∧ ((t = true ∧ SqT K H a vs) ∨ (t = false ∧ SqL K H a vs)) := by
  cases r with
  | tup ea rs => cases e; exact ⟨_, _, rfl, rs, .inl ⟨rfl, .of (wd.sub _ _ ea)⟩⟩
  | lst ea rs => cases e; exact ⟨_, _, rfl, rs, .inr ⟨rfl, .of (wd.sub _ _ ea)⟩⟩
  | frz ea rs => cases e; exact ⟨_, _, rfl, rs, .inr ⟨rfl, wd.sub.seq ea⟩⟩
  | @loc a l ea =>
    unfold seqOf at e
    simp only at e
    split at e
    · rename_i ys q
      cases e
      obtain ⟨vs, h, rs⟩ := wd.obj _ _ _ ea q
      exact ⟨_, _, rfl, rs, .inr ⟨rfl, .of h⟩⟩
    · cases e
  | _ => cases e
end
/-! ### from a run to a rule -/
section
variable {X : Cx}
theorem OpS.mk' {f : Value → Value → Sem Value} {p : PV → PV → Store → Res PV}
    (h : ∀ (pins : List (Addr × Obj)) (s : Shared) (σ : L2.St) (H : Hp) (x y : V) (v u : Value) (Q : VK) (E : XK) (ω : Wo) (st : Store) (a b : PV), Inv X pins σ H s → RelV x v → RelV y u → Wd X.K ω st H → Rep X.K ω a x → Rep X.K ω b y →
      After (gd X) E ω H (p a b st) (RV X.K) Q → wpAny (model X.prog X.w) X.A (f v u) (EP X pins σ Q) X.xe s) : OpS X f p :=
  ⟨fun x y H Q => ∃ (E : XK) (ω : Wo) (st : Store) (a b : PV), Wd X.K ω st H ∧ Rep X.K ω a x ∧ Rep X.K ω b y ∧ After (gd X) E ω H (p a b st) (RV X.K) Q,
    fun pins s σ H x y v u Q I rx ry ⟨E, ω, st, a, b, wd, ra, rb, q⟩ => h pins s σ H x y v u Q E ω st a b I rx ry wd ra rb q, fun E ω st H v w x y Q wd r1 r2 q => ⟨E, ω, st, v, w, wd, r1, r2, q⟩⟩
theorem UnS.mk' {f : Value → Sem Value} {p : PV → Store → Res PV}
    (h : ∀ (pins : List (Addr × Obj)) (s : Shared) (σ : L2.St) (H : Hp) (x : V) (v : Value) (Q : VK) (E : XK) (ω : Wo) (st : Store) (a : PV), Inv X pins σ H s → RelV x v → Wd X.K ω st H → Rep X.K ω a x →
      After (gd X) E ω H (p a st) (RV X.K) Q → wpAny (model X.prog X.w) X.A (f v) (EP X pins σ Q) X.xe s) : UnS X f p :=
  ⟨fun x H Q => ∃ (E : XK) (ω : Wo) (st : Store) (a : PV), Wd X.K ω st H ∧ Rep X.K ω a x ∧ After (gd X) E ω H (p a st) (RV X.K) Q,
    fun pins s σ H x v Q I rx ⟨E, ω, st, a, wd, ra, q⟩ => h pins s σ H x v Q E ω st a I rx wd ra q, fun E ω st H v x Q wd r1 q => ⟨E, ω, st, v, wd, r1, q⟩⟩
theorem CallS.mk' {f : Value} {p : List PV → Store → Res PV}
    (h : ∀ (pins : List (Addr × Obj)) (s : Shared) (σ : L2.St) (H : Hp) (xs : List V) (us : List Value) (Q : VK) (E : XK) (ω : Wo) (st : Store) (as : List PV), Inv X pins σ H s → Vals xs us → Wd X.K ω st H → Reps X.K ω as xs →
      After (gd X) E ω H (p as st) (RV X.K) Q → wpAny (model X.prog X.w) X.A (call f us) (EP X pins σ Q) X.xe s) : CallS X f p :=
  ⟨fun xs H Q => ∃ (E : XK) (ω : Wo) (st : Store) (as : List PV), Wd X.K ω st H ∧ Reps X.K ω as xs ∧ After (gd X) E ω H (p as st) (RV X.K) Q,
    fun pins s σ H xs us Q I rx ⟨E, ω, st, as, wd, ra, q⟩ => h pins s σ H xs us Q E ω st as I rx wd ra q, fun E ω st H vs xs Q wd r1 q => ⟨E, ω, st, vs, wd, r1, q⟩⟩
end
/-! ### arithmetic -/
def pAdd : PV → PV → Store → Res PV
  | .int i, .int j, st => .ok (.int (i + j)) st
  | .str a, .str b, st => if a.length + b.length ≤ sizeLine then .ok (.str (a ++ b)) st else .stuck
  | .tup xs, .tup ys, st => if xs.length + ys.length ≤ sizeLine then .ok (.tup (xs ++ ys)) st else .stuck
  | .lst xs, .lst ys, st => if xs.length + ys.length ≤ sizeLine then .ok (.lst (xs ++ ys)) st else .stuck
  | .loc l, .lst ys, st => match st[l]? with
    | some (.lst xs) => if xs.length + ys.length ≤ sizeLine then .ok (.lst (xs ++ ys)) st else .stuck
    | _ => .stuck
  | _, _, _ => .stuck
def pSub : PV → PV → Store → Res PV
  | .int i, .int j, st => .ok (.int (i - j)) st
  | _, _, _ => .stuck
def pMul : PV → PV → Store → Res PV
  | .int i, .int j, st => if (i.natAbs < 2 ^ 64 ∨ j.natAbs < 2 ^ 64) ∨ i.natAbs.log2 + j.natAbs.log2 < 1000000 then .ok (.int (i * j)) st else .stuck
  | .tup xs, .int k, st => if xs ≠ [] ∧ 2 ≤ k ∧ k ≤ 1000 ∧ xs.length ≤ 1000 then .ok (.tup (List.replicate k.toNat xs).flatten) st else .stuck
  | _, _, _ => .stuck
def pFdiv : PV → PV → Store → Res PV
  | .int i, .int j, st => if 0 < j ∧ j.natAbs.log2 < 9000 then .ok (.int (i / j)) st else .stuck
  | _, _, _ => .stuck
def pMod : PV → PV → Store → Res PV
  | .int i, .int j, st => if 0 < j then .ok (.int (i % j)) st else .stuck
  | _, _, _ => .stuck
def pPow : PV → PV → Store → Res PV
  | .int i, .int j, st => if 0 ≤ j ∧ j ≤ 1000000 ∧ i.natAbs < 2 ^ 64 then .ok (.int (i ^ j.toNat)) st else .stuck
  | _, _, _ => .stuck
def pNeg : PV → Store → Res PV
  | .int i, st => .ok (.int (-i)) st
  | _, _ => .stuck
section
variable {X : Cx}
theorem os_add : OpS X (binaryOp .Add) pAdd := .mk' fun pins s σ H x y v u Q E ω st a b I rx ry wd ra rb h => by
  unfold pAdd at h
  split at h
  · cases ra; cases rb
    exact op_add pins s σ H _ _ v u Q I rx ry ⟨_, _, rfl, rfl, h.ok_here wd (.int _)⟩
  · split at h
    · rename_i hz
      cases ra; cases rb
      exact op_add_str pins s σ H _ _ v u Q I rx ry ⟨_, _, rfl, rfl, hz, h.ok_here wd (.str _)⟩
    · exact False.elim h
  · split at h
    · rename_i xs ys _ hz
      cases ra with
      | tup ea r1 =>
        cases rb with
        | tup eb r2 =>
          refine op_catA pins s σ H _ _ v u Q I rx ry ⟨_, _, _, _, rfl, rfl, .of (wd.sub _ _ ea), .of (wd.sub _ _ eb), by rw [← r1.length, ← r2.length]; exact hz, fun e => ?_, fun n e => ?_, fun n1 n2 p hp => ?_⟩
          · subst e
            cases r1
            exact h.ok_here wd (.tup eb r2)
          · subst e
            cases r2
            rw [List.append_nil] at h
            exact h.ok_here wd (.tup ea r1)
          · exact new_tup wd (r1.append r2) h p hp
    · exact False.elim h
  · split at h
    · rename_i xs ys _ hz
      cases ra with
      | lst ea r1 =>
        cases rb with
        | lst eb r2 =>
          exact op_cat pins s σ H _ _ v u Q I rx ry ⟨_, _, _, _, rfl, rfl, wd.sub _ _ ea, wd.sub _ _ eb, by rw [← r1.length, ← r2.length]; exact hz, new_lst wd (r1.append r2) h⟩
    · exact False.elim h
  · split at h
    · rename_i q
      split at h
      · rename_i hz
        cases ra with
        | loc ea =>
          cases rb with
          | lst eb r2 =>
            obtain ⟨ws, e, r1⟩ := wd.obj _ _ _ ea q
            exact op_cat pins s σ H _ _ v u Q I rx ry ⟨_, _, _, _, rfl, rfl, e, wd.sub _ _ eb, by rw [← r1.length, ← r2.length]; exact hz, new_lst wd (r1.append r2) h⟩
      · exact False.elim h
    · exact False.elim h
  · exact False.elim h
theorem os_sub : OpS X (binaryOp .Sub) pSub := .mk' fun pins s σ H x y v u Q E ω st a b I rx ry wd ra rb h => by
  unfold pSub at h
  split at h
  · cases ra; cases rb
    exact op_sub pins s σ H _ _ v u Q I rx ry ⟨_, _, rfl, rfl, h.ok_here wd (.int _)⟩
  · exact False.elim h
theorem os_mul : OpS X (binaryOp .Mult) pMul := .mk' fun pins s σ H x y v u Q E ω st a b I rx ry wd ra rb h => by
  unfold pMul at h
  split at h
  · split at h
    · rename_i hz
      cases ra; cases rb
      rcases hz with hz | hz
      · refine op_mul pins s σ H _ _ v u Q I rx ry ⟨_, _, rfl, rfl, ?_, h.ok_here wd (.int _)⟩
        unfold CMul
        omega
      · exact op_mulW pins s σ H _ _ v u Q I rx ry ⟨_, _, rfl, rfl, hz, h.ok_here wd (.int _)⟩
    · exact False.elim h
  · split at h
    · rename_i hz
      obtain ⟨h1, h2, h3, h4⟩ := hz
      cases ra with
      | tup ea r1 =>
        cases rb
        refine op_repT pins s σ H _ _ v u Q I rx ry ⟨_, _, _, rfl, rfl, .of (wd.sub _ _ ea), ?_, h2, h3, by rw [← r1.length]; exact h4, new_tup wd (r1.replicate _) h⟩
        intro e; subst e; cases r1; exact h1 rfl
    · exact False.elim h
  · exact False.elim h
theorem os_fdiv : OpS X (binaryOp .FloorDiv) pFdiv := .mk' fun pins s σ H x y v u Q E ω st a b I rx ry wd ra rb h => by
  unfold pFdiv at h
  split at h
  · split at h
    · rename_i hz
      cases ra; cases rb
      exact op_fdivW pins s σ H _ _ v u Q I rx ry ⟨_, _, rfl, rfl, hz, h.ok_here wd (.int _)⟩
    · exact False.elim h
  · exact False.elim h
theorem os_mod : OpS X (binaryOp .Mod) pMod := .mk' fun pins s σ H x y v u Q E ω st a b I rx ry wd ra rb h => by
  unfold pMod at h
  split at h
  · split at h
    · rename_i hz
      cases ra; cases rb
      exact op_mod pins s σ H _ _ v u Q I rx ry ⟨_, _, rfl, rfl, hz, h.ok_here wd (.int _)⟩
    · exact False.elim h
  · exact False.elim h
theorem os_pow : OpS X (binaryOp .Pow) pPow := .mk' fun pins s σ H x y v u Q E ω st a b I rx ry wd ra rb h => by
  unfold pPow at h
  split at h
  · split at h
    · rename_i hz
      cases ra; cases rb
      exact op_pow pins s σ H _ _ v u Q I rx ry ⟨_, _, rfl, rfl, hz, h.ok_here wd (.int _)⟩
    · exact False.elim h
  · exact False.elim h
theorem us_neg : UnS X (unaryOp .USub) pNeg := .mk' fun pins s σ H x v Q E ω st a I rx wd ra h => by
  unfold pNeg at h
  split at h
  · cases ra
    exact un_neg pins s σ H _ v Q I rx ⟨_, rfl, h.ok_here wd (.int _)⟩
  · exact False.elim h
end
/-! ### comparisons -/
def pEq (v w : PV) (st : Store) : Res PV := if isD v = true ∧ isD w = true ∧ min (toD v).depth (toD w).depth ≤ 64 then .ok (.bl (PyData.eqv (toD v) (toD w))) st else .stuck
def pNe (v w : PV) (st : Store) : Res PV := if isD v = true ∧ isD w = true ∧ min (toD v).depth (toD w).depth ≤ 64 then .ok (.bl (!PyData.eqv (toD v) (toD w))) st else .stuck
def isNn : PV → Bool
  | .non => true
  | _ => false
def OrdOk (v w : PV) : Prop := isD v = true ∧ isD w = true ∧ PySem.W.alike (toD v) (toD w) = true ∧ isNn v = false ∧ min (toD v).depth (toD w).depth ≤ 64
instance (v w : PV) : Decidable (OrdOk v w) := by unfold OrdOk; infer_instance
def pLt (v w : PV) (st : Store) : Res PV := if OrdOk v w then .ok (.bl (PySem.W.dataLt (toD v) (toD w))) st else .stuck
def pGt (v w : PV) (st : Store) : Res PV := if OrdOk v w then .ok (.bl (PySem.W.dataLt (toD w) (toD v))) st else .stuck
def pLe (v w : PV) (st : Store) : Res PV := if OrdOk v w then .ok (.bl (!PySem.W.dataLt (toD w) (toD v))) st else .stuck
def pGe (v w : PV) (st : Store) : Res PV := if OrdOk v w then .ok (.bl (!PySem.W.dataLt (toD v) (toD w))) st else .stuck
def inD (v : PV) (xs : List PV) : Bool := xs.any fun y => PyData.eqv (toD y) (toD v)
def inStr (a z : Str) : Bool := match a.cps.toList with
  | [c] => decide (c ∈ z.cps.toList)
  | _ => !(Builtin.Str.occurrences z a 0 z.length 1).isEmpty
def pIn (v w : PV) (st : Store) : Res PV := match v, w with
  | .str a, .str z => .ok (.bl (inStr a z)) st
  | _, _ => match seqOf st w with
    | some (_, xs) => if isD v = true ∧ isDs xs = true ∧ min (PyData.depthAll (toDs xs)) (toD v).depth ≤ 60 then .ok (.bl (inD v xs)) st else .stuck
    | none => .stuck
def pNotIn (v w : PV) (st : Store) : Res PV := match v, w with
  | .str a, .str z => .ok (.bl (!inStr a z)) st
  | _, _ => match seqOf st w with
    | some (_, xs) => if isD v = true ∧ isDs xs = true ∧ min (PyData.depthAll (toDs xs)) (toD v).depth ≤ 60 then .ok (.bl (!inD v xs)) st else .stuck
    | none => .stuck
def isNonP : PV → Option Bool
  | .non => some true
  | .con _ => none
  | _ => some false
def pIs (v w : PV) (st : Store) : Res PV := match w, isNonP v with
  | .non, some b => .ok (.bl b) st
  | _, _ => .stuck
def pIsNot (v w : PV) (st : Store) : Res PV := match w, isNonP v with
  | .non, some b => .ok (.bl (!b)) st
  | _, _ => .stuck
section
variable {X : Cx}
theorem Rep.reads {pins : List (Addr × Obj)} {s : Shared} {σ : L2.St} {H : Hp} {ω : Wo} {st : Store} {v : PV} {x : V} {u : Value} (I : Inv X pins σ H s) (wd : Wd X.K ω st H) (r : Rep X.K ω v x) (d : isD v = true) (rx : RelV x u) : ∃ as, Reads s.heap u (toD v) as :=
  Dp.reads I _ _ _ (r.dp wd.sub d) rx
theorem os_eq (hu : X.A.units + 64 < cLine) : OpS X (compareOp .Eq) pEq := .mk' fun pins s σ H x y v u Q E ω st a b I rx ry wd ra rb h => by
  unfold pEq at h
  split at h
  · rename_i hz
    obtain ⟨da, db, hd⟩ := hz
    obtain ⟨as, r1⟩ := ra.reads I wd da rx
    obtain ⟨bs, r2⟩ := rb.reads I wd db ry
    exact PySem.SeqAt.eq_plain r1 r2 (plain_toD _) (plain_toD _) (by omega) ⟨.bl _, H, I, rfl, h.ok_here wd (.bl _)⟩
  · exact False.elim h
theorem os_ne (hu : X.A.units + 64 < cLine) : OpS X (compareOp .NotEq) pNe := .mk' fun pins s σ H x y v u Q E ω st a b I rx ry wd ra rb h => by
  unfold pNe at h
  split at h
  · rename_i hz
    obtain ⟨da, db, hd⟩ := hz
    obtain ⟨as, r1⟩ := ra.reads I wd da rx
    obtain ⟨bs, r2⟩ := rb.reads I wd db ry
    exact PySem.SeqAt.ne_plain r1 r2 (plain_toD _) (plain_toD _) (by omega) ⟨.bl _, H, I, rfl, h.ok_here wd (.bl _)⟩
  · exact False.elim h
theorem toD_ne_none {v : PV} (d : isD v = true) (n : isNn v = false) : toD v ≠ .none := by
  cases v <;> first | (simp [isNn] at n; done) | (simp [isD] at d; done) | (rw [toD]; intro z; cases z)
theorem os_lt (hu : X.A.units + 64 < cLine) : OpS X (compareOp .Lt) pLt := .mk' fun pins s σ H x y v u Q E ω st a b I rx ry wd ra rb h => by
  unfold pLt at h
  split at h
  · rename_i hz
    obtain ⟨da, db, al, nn, hd⟩ := hz
    obtain ⟨as, r1⟩ := ra.reads I wd da rx
    obtain ⟨bs, r2⟩ := rb.reads I wd db ry
    exact PySem.W.lt_data r1 r2 al (toD_ne_none da nn) (by omega) ⟨.bl _, H, I, rfl, h.ok_here wd (.bl _)⟩
  · exact False.elim h
theorem os_gt (hu : X.A.units + 64 < cLine) : OpS X (compareOp .Gt) pGt := .mk' fun pins s σ H x y v u Q E ω st a b I rx ry wd ra rb h => by
  unfold pGt at h
  split at h
  · rename_i hz
    obtain ⟨da, db, al, nn, hd⟩ := hz
    obtain ⟨as, r1⟩ := ra.reads I wd da rx
    obtain ⟨bs, r2⟩ := rb.reads I wd db ry
    exact PySem.W.gt_data r1 r2 al (toD_ne_none da nn) (by omega) ⟨.bl _, H, I, rfl, h.ok_here wd (.bl _)⟩
  · exact False.elim h
theorem os_le (hu : X.A.units + 64 < cLine) : OpS X (compareOp .LtE) pLe := .mk' fun pins s σ H x y v u Q E ω st a b I rx ry wd ra rb h => by
  unfold pLe at h
  split at h
  · rename_i hz
    obtain ⟨da, db, al, nn, hd⟩ := hz
    obtain ⟨as, r1⟩ := ra.reads I wd da rx
    obtain ⟨bs, r2⟩ := rb.reads I wd db ry
    exact PySem.W.le_data r1 r2 al (toD_ne_none da nn) (by omega) ⟨.bl _, H, I, rfl, h.ok_here wd (.bl _)⟩
  · exact False.elim h
theorem os_ge (hu : X.A.units + 64 < cLine) : OpS X (compareOp .GtE) pGe := .mk' fun pins s σ H x y v u Q E ω st a b I rx ry wd ra rb h => by
  unfold pGe at h
  split at h
  · rename_i hz
    obtain ⟨da, db, al, nn, hd⟩ := hz
    obtain ⟨as, r1⟩ := ra.reads I wd da rx
    obtain ⟨bs, r2⟩ := rb.reads I wd db ry
    exact PySem.W.ge_data r1 r2 al (toD_ne_none da nn) (by omega) ⟨.bl _, H, I, rfl, h.ok_here wd (.bl _)⟩
  · exact False.elim h
theorem inStr_one {a : Str} {c : Nat} (e : a.cps.toList = [c]) : a = ⟨#[c]⟩ := by
  cases a with
  | mk cps =>
    have e : cps.toList = [c] := e
    have : cps = #[c] := by rw [← Array.toArray_toList (xs := cps), e]
    rw [this]
theorem os_in (hu : X.A.units + 64 < cLine) : OpS X (compareOp .In) pIn := .mk' fun pins s σ H x y v u Q E ω st a b I rx ry wd ra rb h => by
  unfold pIn at h
  split at h
  · cases ra; cases rb
    unfold inStr at h
    split at h
    · rename_i c e
      have e := inStr_one e
      subst e
      exact op_in_sign pins s σ H _ _ v u Q I rx ry ⟨_, _, rfl, rfl, h.ok_here wd (.bl _)⟩
    · exact op_in_str pins s σ H _ _ v u Q I rx ry ⟨_, _, rfl, rfl, h.ok_here wd (.bl _)⟩
  · split at h
    · rename_i t xs q
      split at h
      · rename_i hz
        obtain ⟨da, db, hd⟩ := hz
        obtain ⟨as, r1⟩ := ra.reads I wd da rx
        obtain ⟨p, ws, e, rs, ht⟩ := seqOf_rep wd rb q
        subst e
        have hin : Q (.bl ((toDs xs).any fun y => PyData.eqv y (toD a))) H := by
          rw [toDs_map, List.any_map]
          exact h.ok_here wd (.bl _)
        rcases ht with ⟨_, hq⟩ | ⟨_, hq⟩
        · obtain ⟨bs, r2⟩ := Dp.reads I _ _ _ (Dp.tup hq (rs.dp wd.sub db)) ry
          exact PySem.SeqAt.in_tuple_data r2 r1 (plain_toDs _) (plain_toD _) (by omega) ⟨.bl _, H, I, rfl, hin⟩
        · obtain ⟨bs, r2⟩ := Dp.reads I _ _ _ (Dp.lst hq (rs.dp wd.sub db)) ry
          exact PySem.SeqAt.in_list_data r2 r1 (plain_toDs _) (plain_toD _) (by omega) ⟨.bl _, H, I, rfl, hin⟩
      · exact False.elim h
    · exact False.elim h
theorem os_notIn (hu : X.A.units + 64 < cLine) : OpS X (compareOp .NotIn) pNotIn := .mk' fun pins s σ H x y v u Q E ω st a b I rx ry wd ra rb h => by
  unfold pNotIn at h
  split at h
  · cases ra; cases rb
    unfold inStr at h
    split at h
    · rename_i c e
      have e := inStr_one e
      subst e
      exact op_notIn_sign pins s σ H _ _ v u Q I rx ry ⟨_, _, rfl, rfl, h.ok_here wd (.bl _)⟩
    · exact op_notin_str pins s σ H _ _ v u Q I rx ry ⟨_, _, rfl, rfl, h.ok_here wd (.bl _)⟩
  · split at h
    · rename_i t xs q
      split at h
      · rename_i hz
        obtain ⟨da, db, hd⟩ := hz
        obtain ⟨as, r1⟩ := ra.reads I wd da rx
        obtain ⟨p, ws, e, rs, ht⟩ := seqOf_rep wd rb q
        subst e
        have hin : Q (.bl (!(toDs xs).any fun y => PyData.eqv y (toD a))) H := by
          rw [toDs_map, List.any_map]
          exact h.ok_here wd (.bl _)
        rcases ht with ⟨_, hq⟩ | ⟨_, hq⟩
        · obtain ⟨bs, r2⟩ := Dp.reads I _ _ _ (Dp.tup hq (rs.dp wd.sub db)) ry
          exact PySem.SeqAt.notIn_tuple_data r2 r1 (plain_toDs _) (plain_toD _) (by omega) ⟨.bl _, H, I, rfl, hin⟩
        · obtain ⟨bs, r2⟩ := Dp.reads I _ _ _ (Dp.lst hq (rs.dp wd.sub db)) ry
          exact PySem.SeqAt.notIn_list_data r2 r1 (plain_toDs _) (plain_toD _) (by omega) ⟨.bl _, H, I, rfl, hin⟩
      · exact False.elim h
    · exact False.elim h
theorem isNon_rep {K : PySem.W.Frag} {ω : Wo} {v : PV} {x : V} {b : Bool} (r : Rep K ω v x) (e : isNonP v = some b) : decide (x = .non) = b := by
  cases r <;> first | (cases e; simp) | (cases e)
theorem os_is : OpS X (compareOp .Is) pIs := .mk' fun pins s σ H x y v u Q E ω st a b I rx ry wd ra rb h => by
  unfold pIs at h
  split at h
  · rename_i k e
    cases rb
    refine op_isN pins s σ H _ _ v u Q I rx ry ⟨rfl, ?_⟩
    rw [isNon_rep ra e]
    exact h.ok_here wd (.bl _)
  · exact False.elim h
theorem os_isNot : OpS X (compareOp .IsNot) pIsNot := .mk' fun pins s σ H x y v u Q E ω st a b I rx ry wd ra rb h => by
  unfold pIsNot at h
  split at h
  · rename_i k e
    cases rb
    refine op_notN pins s σ H _ _ v u Q I rx ry ⟨rfl, ?_⟩
    rw [isNon_rep ra e]
    exact h.ok_here wd (.bl _)
  · exact False.elim h
end
/-! ### items, slices, stores -/
def pIx (v w : PV) (st : Store) : Res PV := match w with
  | .int i => match v with
    | .str z => match (if z.length ≤ sizeLine then atI z.cps.toList i else none) with
      | some c => .ok (.str ⟨#[c]⟩) st
      | none => .stuck
    | _ => match seqOf st v with
      | some (_, xs) => match atI xs i with
        | some y => .ok y st
        | none => .stuck
      | none => .stuck
  | _ => .stuck
def cutP (xs : List PV) (lo hi : Option Int) : List PV := (xs.drop (HT.sIx xs.length 0 lo)).take (HT.sIx xs.length xs.length hi - HT.sIx xs.length 0 lo)
def pSl (v : PV) (lo hi : Option Int) (st : Store) : Res PV := match v with
  | .str z => if z.length ≤ sizeLine then .ok (.str (cutS z lo hi)) st else .stuck
  | _ => match seqOf st v with
    | some (true, xs) => .ok (.tup (cutP xs lo hi)) st
    | some (false, xs) => .ok (.lst (cutP xs lo hi)) st
    | none => .stuck
def pSet (o i v : PV) (st : Store) : Res Unit := match o, i with
  | .loc l, .int k => match st[l]? with
    | some (.lst xs) => match ixN xs.length k with
      | some j => .ok () (st.set l (.lst (xs.set j v)))
      | none => .stuck
    | _ => .stuck
  | _, _ => .stuck
section
variable {X : Cx}
theorem is_ix : IxS X pIx := by
  refine ⟨_, ix_seq, fun E ω st H v w x y Q wd rv rw' h => ?_⟩
  unfold pIx at h
  split at h
  · rename_i i
    cases rw'
    split at h
    · rename_i z
      cases rv
      split at h
      · rename_i c e
        split at e
        · rename_i hz
          exact .inr (.inr ⟨z, i, c, rfl, rfl, hz, e, h.ok_here wd (.str _)⟩)
        · cases e
      · exact False.elim h
    · split at h
      · rename_i t xs q
        split at h
        · rename_i y e
          obtain ⟨p, ws, ep, rs, ht⟩ := seqOf_rep wd rv q
          subst ep
          unfold atI at e
          rw [Option.bind_eq_some_iff] at e
          obtain ⟨j, e1, e2⟩ := e
          obtain ⟨u, e3, ru⟩ := rs.get e2
          have e4 : atI ws i = some u := by
            unfold atI
            rw [← rs.length, e1]
            exact e3
          rcases ht with ⟨_, hq⟩ | ⟨_, hq⟩
          · exact .inr (.inl ⟨p, ws, i, u, rfl, rfl, hq, e4, h.ok_here wd ru⟩)
          · exact .inl ⟨p, ws, i, u, rfl, rfl, hq, e4, h.ok_here wd ru⟩
        · exact False.elim h
      · exact False.elim h
  · exact False.elim h
theorem cutP_rep {K : PySem.W.Frag} {ω : Wo} {xs : List PV} {ws : List V} (r : Reps K ω xs ws) (lo hi : Option Int) : Reps K ω (cutP xs lo hi) (cutV ws lo hi) := by
  unfold cutP cutV
  rw [← r.length]
  exact (r.drop _).take _
theorem ss_sl : SlS X pSl := by
  refine ⟨_, SlR.or sl_str (SlR.or sl_list sl_tupA), fun E ω st H v x lo hi Q wd rv h => ?_⟩
  unfold pSl at h
  split at h
  · split at h
    · rename_i hz
      cases rv
      exact .inl ⟨_, rfl, hz, h.ok_here wd (.str _)⟩
    · exact False.elim h
  · split at h
    · rename_i xs q
      obtain ⟨p, ws, ep, rs, ht⟩ := seqOf_rep wd rv q
      subst ep
      rcases ht with ⟨_, hq⟩ | ⟨e, _⟩
      · refine .inr (.inr ⟨p, ws, rfl, hq, fun hw => ?_, fun _ => new_tup wd (cutP_rep rs lo hi) h⟩)
        -- the whole: the tuple itself
        have hc : cutP xs lo hi = xs := by
          unfold cutP
          rw [rs.length, hw.1, hw.2, List.drop_zero, Nat.sub_zero, ← rs.length, List.take_length]
        rw [hc] at h
        cases rv with
        | tup ea r1 =>
          cases q
          exact h.ok_here wd (.tup ea r1)
        | loc ea =>
          unfold seqOf at q
          simp only at q
          split at q <;> cases q
        | _ => cases q
      · cases e
    · rename_i xs q
      obtain ⟨p, ws, ep, rs, ht⟩ := seqOf_rep wd rv q
      subst ep
      rcases ht with ⟨e, _⟩ | ⟨_, hq⟩
      · cases e
      · exact .inr (.inl ⟨p, ws, rfl, hq, new_lst wd (cutP_rep rs lo hi) h⟩)
    · exact False.elim h
end
end PL
/-! PL, part e: what is walked: lists, tuples, texts, ranges, enumerate. -/
namespace PySem
open Sem (wp)
set_option maxHeartbeats 1000000 in
theorem meets_enumerate_newB1 {v : Value} {o : Obj} {H : Heap → Prop} (B : Begins v o H) :
    Meets (Builtin.«enumerate.__new__» ⟨[.type "enumerate", v], []⟩) (fun _ R s => H s.heap ∧
      R (.ok (.ret (.ref (s.heap.push o).objs.size))) { s with heap := (s.heap.push o).push { cls := .type "enumerate", data := .fields #[.none, .bool false, .ref s.heap.objs.size, rawInt 0, .none, .none] } }) :=
  .of_wp fun prog w A R s h => by
    obtain ⟨hp, g, d, tk, os⟩ := s; obtain ⟨h1, h⟩ := h
    have hsub := sub_enumerate
    have q1 : ∀ {A' : Around} {E : Value → Shared → Prop} {Q : Value → Shared → Prop}, Q (.ref hp.objs.size) ⟨hp.push o, g, d, tk, os⟩ → wpAny (model prog w) A' (pyIter v) Q E ⟨hp, g, d, tk, os⟩ :=
      fun q => B.iter prog w _ _ ⟨hp, g, d, tk, os⟩ _ h1 q
    wp_walk using q1
    refine wpAny_stack_any fun st => wpAny_pure ?_
    split
    · rename_i c _ _ _ _ _
      cases (c == Value.type "enumerate")
      · wp_walk using q1
        exact ⟨_, rfl, h⟩
      · wp_walk using q1
        exact ⟨_, rfl, h⟩
    · wp_walk using q1
      exact ⟨_, rfl, h⟩
theorem call_enumerate_begins {prog : Program} {w : World} {A : Around} {E : Value → Shared → Prop} {s : Shared} {v : Value} {o : Obj} {H : Heap → Prop} {Q : Value → Shared → Prop} (B : Begins v o H) (h1 : H s.heap)
    (h : ∀ h', IsEnum h' (s.heap.objs.size + 1) s.heap.objs.size 0 .none → h'.get? s.heap.objs.size = some o → h'.objs.size = s.heap.objs.size + 2 →
      (∀ b o, s.heap.get? b = some o → h'.get? b = some o) → Q (.ref (s.heap.objs.size + 1)) { s with heap := h' }) :
    wpAny (model prog w) A (call (.type "enumerate") [v]) Q E s := by
  refine callType_new F.called_enumerate (by decide) (F.typeCall_enumerate_1 _) (F.newCall_enumerate_1 _) (fun obj => F.args_object_init_2 obj _) F.entry_enumerate_new
    (meets_enumerate_newB1 B) ⟨h1, ?_⟩
  have hz : (s.heap.push o).objs.size = s.heap.objs.size + 1 := Heap.size_push ..
  show _ ∧ _
  rw [hz]
  have he : IsEnum ((s.heap.push o).push { cls := .type "enumerate", data := .fields #[.none, .bool false, .ref s.heap.objs.size, rawInt 0, .none, .none] }) (s.heap.objs.size + 1) s.heap.objs.size 0 .none := by
    have := Heap.get?_push_size (s.heap.push o) (o := { cls := .type "enumerate", data := .fields #[.none, .bool false, .ref s.heap.objs.size, rawInt 0, .none, .none] }) rfl
    rw [hz] at this; exact this
  refine ⟨⟨_, he, rfl⟩, h _ he (Heap.get?_push_of_some _ (Heap.get?_push_size _ B.free)) (by rw [Heap.size_push, hz]) fun b o x => Heap.get?_push_of_some _ (Heap.get?_push_of_some _ x)⟩
end PySem
namespace PL
open PySem PySem.Spec PyProof.Rows L2
/-! ### enumerate(tuple) -/
def IteT (K : PySem.W.Frag) (a : Addr) : It :=
  ⟨fun i H => ∃ (xs : List V) (x : V), SqT K H a xs ∧ xs[i]? = some x, fun i H v H' => ∃ T x, v = .ref T ∧ H T = none ∧ H' = upd H T (.tup [.int (i : Nat), x]) ∧ ∀ xs, SqT K H a xs → xs[i]? = some x, fun i H => ∃ xs : List V, SqT K H a xs ∧ xs.length = i⟩
theorem turn_enumT {P : Program} {w : World} {K : PySem.W.Frag} {elts : List Expr} {kk : Nat} {tpos : Pos} (a e it : Addr) (hai : a ≠ it) (hea : e ≠ a) :
    Turn P w K (.Tuple elts kk tpos) (IteT K a) [e, it] e (fun i h => (∃ old, IsEnum h e it ((i : Nat) : Int) old) ∧ h.IsTupleIter it a i ∧ e ≠ it) where
  mem := by simp
  obj := fun i h st b hb => by
    obtain ⟨⟨old, he⟩, ⟨o, ho, hc, hd⟩, _⟩ := st
    have e' : b = e ∨ b = it := by simpa using hb
    rcases e' with z | z
    · rw [z]; exact ⟨_, he, fun v q => nomatch q⟩
    · rw [z]; exact ⟨o, ho, fun v q => by rw [hd] at q; cases q⟩
  keep := fun i h h' st k => let ⟨⟨old, he⟩, hi, hne⟩ := st; ⟨⟨old, k e (by simp) _ he⟩, hi.at fun o q => k it (by simp) o q, hne⟩
  item := by
    intro X hP hw hK hc i pins s σ H E I hf st hg
    subst hP hw hK
    obtain ⟨⟨old, he⟩, hit, hne⟩ := st
    obtain ⟨xs, x, hq, hx⟩ := hg
    obtain ⟨its, rv, p, hz⟩ := I.tuple hq
    obtain ⟨u, hu, ru⟩ := rv.get hx
    have hel : e < s.heap.objs.size := Heap.lt_size he
    have hil : it < s.heap.objs.size := by obtain ⟨_, q, _⟩ := hit; exact Heap.lt_size q
    have D := PySem.Draws.tuple (prog := X.prog) (w := X.w) (A := X.A.in1) (I.ok.hd hc) it a hai its.toArray
    have hlt : i < its.toArray.size := by
      rw [List.size_toArray]
      rcases Nat.lt_or_ge i its.length with z | z
      · exact z
      · rw [List.getElem?_eq_none z] at hu; cases hu
    refine wpAny_pyNext_enum_itemC D he ⟨hit, show s.heap.IsTuple a its.toArray from p⟩ hlt hne (by simp; exact ⟨hne, hea⟩) fun x' h' tk hP ho hS hT hsz hk => ?_
    have hx' : x' = u := by
      have hP : its.toArray[i]? = some x' := hP
      rw [List.getElem?_toArray, hu] at hP
      exact (Option.some.inj hP).symm
    subst hx'
    refine ⟨_, rfl, wpAny_letOwnedTupleGo_enum (s := { s with heap := h', toks := tk + 1 }) ho fun h'' he' sb => ?_⟩
    have hT2 : h''.get? s.heap.objs.size = some { cls := .type "tuple", data := .seq #[.int i tk, x'] } := (sb.2 _ (Nat.ne_of_gt hel)).trans hT
    have new : ObjOk X.prog X.w (upd H s.heap.objs.size (.tup [.int (i : Nat), x])) h'' s.heap.objs.size (.tup [.int (i : Nat), x]) :=
      ⟨by show 2 ≤ sizeLine; decide, [.int i tk, x'], .cons ⟨_, rfl⟩ (.cons ru .nil), ⟨_, hT2, rfl, _, rfl⟩⟩
    have I1 : Inv X pins σ (upd H s.heap.objs.size (.tup [.int (i : Nat), x])) { s with heap := h'', toks := tk + 1 } :=
      I.turnedNew (ch := [e, it]) (fun b ob hb q => (sb.2 b (fun z => hb (by simp [z]))).trans (hk b ob (fun z => hb (by simp [z])) (fun z => hb (by simp [z])) q)) hf (Nat.le_refl _) new
    refine ⟨.ref s.heap.objs.size, _, I1, rfl, ⟨_, x, rfl, I.hok.fresh (Nat.le_refl _), rfl, fun ys hy => by rw [I.tuple_inj hy hq]; exact hx⟩, ⟨⟨x', ?_⟩, hS.1.at fun o q => (sb.2 it (Ne.symm hne)).trans q, hne⟩, fun b hb => ?_⟩
    · have e1 : ((i + 1 : Nat) : Int) = (i : Int) + 1 := by omega
      rw [e1]; exact he'
    · have hb' : b < s.heap.objs.size := by
        have e' : b = e ∨ b = it := by simpa using hb
        rcases e' with z | z
        · rw [z]; exact hel
        · rw [z]; exact hil
      rw [upd_ne (Nat.ne_of_lt hb')]
      exact (hf b hb).1
  done := by
    intro X hP hw hK hc i pins s σ H E I hf st hg
    subst hP hw hK
    obtain ⟨⟨old, he⟩, hit, hne⟩ := st
    obtain ⟨xs, hq, hx⟩ := hg
    obtain ⟨its, rv, p, hz⟩ := I.tuple hq
    obtain ⟨f0, f1, f2, f3, f4, f5⟩ := hf it (by simp)
    have hl := rv.length
    have D := PySem.Draws.tuple (prog := X.prog) (w := X.w) (A := X.A.in1) (I.ok.hd hc) it a hai its.toArray
    have hi : its.toArray.size = i := by rw [List.size_toArray, ← hl]; exact hx
    refine wpAny_pyNext_enum_endD D he ?_ fun h' eb => ⟨rfl, I.turned (t' := s.toks) (fun b o hb q => eb b o hb q) f0 f1 f3 f4 f5⟩
    rw [hi]
    exact ⟨hit, show s.heap.IsTuple a its.toArray from p⟩
  self := fun A i s Q E st h => let ⟨⟨_, he⟩, _⟩ := st; wpAny_pyIter_enum he h
/-! ### the walks, by plain values -/
structure ItR0 (K : PySem.W.Frag) (ω : Wo) (xs : List PV) (J : It) : Prop where
  goes : ∀ i H, i < xs.length → Same ω.F H → J.go i H
  stops : ∀ H, Same ω.F H → J.stop xs.length H
  yields : ∀ i ω1 st H x H', i < xs.length → ω.Le ω1 → Wd K ω1 st H → J.yld i H x H' → ∃ ω2 v, Ext ω1 H ω2 H' ∧ Wd K ω2 st H' ∧ xs[i]? = some v ∧ Rep K ω2 v x
theorem ItR.of0 {K : PySem.W.Frag} {ω : Wo} {xs : List PV} {J : It} (h : ItR0 K ω xs J) : ItR K ω ⟨xs, none⟩ J :=
  ⟨fun i ω1 st H hi le wd _ => h.goes i H hi (le.fz.trans wd.sub), fun ω1 st H le wd _ => h.stops H (le.fz.trans wd.sub), fun i ω1 st H x H' hi le wd _ y => h.yields i ω1 st H x H' hi le wd y⟩
section
variable {K : PySem.W.Frag} {ω : Wo}
theorem itr_loc {a : Addr} {l : Nat} {xs : List PV} (e : ω.ρ[l]? = some a) : ItR K ω ⟨xs, some (l, .lst xs)⟩ (Itl K a) where
  goes := fun i ω1 st H hi le wd ok => by
    obtain ⟨ws, h, r⟩ := wd.obj l a (.lst xs) (le.at e) ok
    have hw : i < ws.length := by rw [← r.length]; exact hi
    exact ⟨ws, ws[i], .of h, by simp [hw]⟩
  stops := fun ω1 st H le wd ok => by
    obtain ⟨ws, h, r⟩ := wd.obj l a (.lst xs) (le.at e) ok
    exact ⟨ws, .of h, by rw [r.length]; exact Nat.le_refl _⟩
  yields := fun i ω1 st H x H' hi le wd ok y => by
    obtain ⟨ws, h, r⟩ := wd.obj l a (.lst xs) (le.at e) ok
    obtain ⟨e1, y⟩ := y
    subst e1
    have hx := y ws (.of h)
    obtain ⟨v, hv, rv⟩ := r.get' hx
    exact ⟨ω1, v, .refl _ _, wd, hv, rv⟩
theorem itr_list {a : Addr} {xs : List PV} {ws : List V} (e : SqL K ω.F a ws) (r : Reps K ω xs ws) : ItR0 K ω xs (Itl K a) where
  goes := fun i H hi s => by
    have hw : i < ws.length := by rw [← r.length]; exact hi
    exact ⟨ws, ws[i], s.seq e, by simp [hw]⟩
  stops := fun H s => ⟨ws, s.seq e, by rw [r.length]; exact Nat.le_refl _⟩
  yields := fun i ω1 st H x H' hi le wd y => by
    obtain ⟨e1, y⟩ := y
    subst e1
    have hx := y ws (wd.sub.seq (le.fz.seq e))
    obtain ⟨v, hv, rv⟩ := r.get' hx
    exact ⟨ω1, v, .refl _ _, wd, hv, rv.mono le⟩
theorem sameT {H H' : Hp} {a : Addr} {xs : List V} (s : Same H H') (h : SqT K H a xs) : SqT K H' a xs := by
  rcases h with (h | ⟨o, h⟩) | h
  · exact .inl (.inl (s _ _ h))
  · exact .inl (.inr ⟨o, s _ _ h⟩)
  · exact .inr h
theorem itr_tup {a : Addr} {xs : List PV} {ws : List V} (e : ω.F a = some (.tup ws)) (r : Reps K ω xs ws) : ItR0 K ω xs (Itt K a) where
  goes := fun i H hi s => by
    have hw : i < ws.length := by rw [← r.length]; exact hi
    exact ⟨ws, ws[i], .of (s _ _ e), by simp [hw]⟩
  stops := fun H s => ⟨ws, .of (s _ _ e), by rw [r.length]; exact Nat.le_refl _⟩
  yields := fun i ω1 st H x H' hi le wd y => by
    obtain ⟨e1, y⟩ := y
    subst e1
    have hx := y ws (.of (wd.sub _ _ (le.fz _ _ e)))
    obtain ⟨v, hv, rv⟩ := r.get' hx
    exact ⟨ω1, v, .refl _ _, wd, hv, rv.mono le⟩
def signs (z : Str) : List PV := z.cps.toList.map fun c => .str ⟨#[c]⟩
theorem itr_str {z : Str} : ItR0 K ω (signs z) (Its z) where
  goes := fun i H hi s => by
    show i < z.cps.size
    simpa [signs] using hi
  stops := fun H s => by
    show z.cps.size ≤ _
    simp [signs]
  yields := fun i ω1 st H x H' hi le wd y => by
    obtain ⟨e1, c, hc, e2⟩ := y
    subst e1
    subst e2
    refine ⟨ω1, .str ⟨#[c]⟩, .refl _ _, wd, ?_, .str _⟩
    unfold signs
    rw [List.getElem?_map]
    have : z.cps.toList[i]? = some c := by rw [Array.getElem?_toList]; exact hc
    rw [this]
    rfl
def rngs (lo : Int) (n : Nat) : List PV := (List.range n).map fun (i : Nat) => .int (lo + (i : Int))
theorem itr_range {lo : Int} {n : Nat} : ItR0 K ω (rngs lo n) (Itr lo n) where
  goes := fun i H hi s => by
    show i < n
    simpa [rngs] using hi
  stops := fun H s => by
    show n ≤ _
    simp [rngs]
  yields := fun i ω1 st H x H' hi le wd y => by
    obtain ⟨e1, e2⟩ := y
    subst e1
    subst e2
    refine ⟨ω1, .int (lo + i), .refl _ _, wd, ?_, .int _⟩
    have hi : i < n := by simpa [rngs] using hi
    simp [rngs, hi]
def enums (xs : List PV) : List PV := xs.zipIdx.map fun p => .tup [.int (p.2 : Nat), p.1]
theorem enums_get {xs : List PV} {i : Nat} {v : PV} (h : xs[i]? = some v) : (enums xs)[i]? = some (.tup [.int (i : Nat), v]) := by
  unfold enums
  rw [List.getElem?_map, List.getElem?_zipIdx, h]
  simp
theorem enum_yield {st : Store} {H : Hp} {ω1 : Wo} {T : Addr} {x : V} {v : PV} {i : Nat} (wd : Wd K ω1 st H) (n : H T = none) (r : Rep K ω1 v x) :
    ∃ ω2 u, Ext ω1 H ω2 (upd H T (.tup [.int (i : Nat), x])) ∧ Wd K ω2 st (upd H T (.tup [.int (i : Nat), x])) ∧ (some (.tup [.int (i : Nat), v]) : Option PV) = some u ∧ Rep K ω2 u (.ref T) := by
  obtain ⟨w, e⟩ := wd.fz n (.tup [.int (i : Nat), x])
  exact ⟨_, _, e, w, rfl, .tup upd_same (.cons (.int _) (.cons (r.mono e.le) .nil))⟩
theorem itr_enumL {a : Addr} {xs : List PV} {ws : List V} (e : SqL K ω.F a ws) (r : Reps K ω xs ws) : ItR0 K ω (enums xs) (Ite K a) where
  goes := fun i H hi s => by
    have hw : i < ws.length := by rw [← r.length]; simpa [enums] using hi
    exact ⟨ws, ws[i], s.seq e, by simp [hw]⟩
  stops := fun H s => ⟨ws, s.seq e, by simp [enums, r.length]⟩
  yields := fun i ω1 st H x H' hi le wd y => by
    obtain ⟨T, z, e1, hT, e2, y⟩ := y
    subst e1
    subst e2
    have hx := y ws (wd.sub.seq (le.fz.seq e))
    obtain ⟨v, hv, rv⟩ := r.get' hx
    rw [enums_get hv]
    exact enum_yield wd hT (rv.mono le)
theorem itr_enumT {a : Addr} {xs : List PV} {ws : List V} (e : ω.F a = some (.tup ws)) (r : Reps K ω xs ws) : ItR0 K ω (enums xs) (IteT K a) where
  goes := fun i H hi s => by
    have hw : i < ws.length := by rw [← r.length]; simpa [enums] using hi
    exact ⟨ws, ws[i], .of (s _ _ e), by simp [hw]⟩
  stops := fun H s => ⟨ws, .of (s _ _ e), by simp [enums, r.length]⟩
  yields := fun i ω1 st H x H' hi le wd y => by
    obtain ⟨T, z, e1, hT, e2, y⟩ := y
    subst e1
    subst e2
    have hx := y ws (.of (wd.sub _ _ (le.fz _ _ e)))
    obtain ⟨v, hv, rv⟩ := r.get' hx
    rw [enums_get hv]
    exact enum_yield wd hT (rv.mono le)
end
/-- a finished list, a tuple, a text, walked -/
def pIter (v : PV) (st : Store) : Res Itms := match v with
  | .tup xs => .ok ⟨xs, none⟩ st
  | .lst xs => .ok ⟨xs, none⟩ st
  | .frz xs => .ok ⟨xs, none⟩ st
  | .str z => .ok ⟨signs z, none⟩ st
  | .loc l => match st[l]? with
    | some (.lst xs) => .ok ⟨xs, some (l, .lst xs)⟩ st
    | _ => .stuck
  | _ => .stuck
def iVal (f : EM) : IM := fun env st => (f env st).bind pIter
def pEnum (v : PV) (st : Store) : Res Itms := match v with
  | .tup xs => .ok ⟨enums xs, none⟩ st
  | .lst xs => .ok ⟨enums xs, none⟩ st
  | .frz xs => .ok ⟨enums xs, none⟩ st
  | _ => .stuck
def iEnumM (f : EM) : IM := fun env st => (f env st).bind pEnum
/-- range(n), range(a, b) -/
def pRange1 (vs : List PV) (st : Store) : Res Itms := match vs with
  | [.int j] => if -(2 ^ 62) ≤ j ∧ j < 2 ^ 62 then .ok ⟨rngs 0 j.toNat, none⟩ st else .stuck
  | _ => .stuck
def pRange2 (vs : List PV) (st : Store) : Res Itms := match vs with
  | [.int i, .int j] => if -(2 ^ 62) ≤ i ∧ i < 2 ^ 62 ∧ -(2 ^ 62) ≤ j ∧ j < 2 ^ 62 then .ok ⟨rngs i (j - i).toNat, none⟩ st else .stuck
  | _ => .stuck
def iRange1 (f : EM) : IM := fun env st => (aCons f aNil env st).bind pRange1
def iRange2 (f g : EM) : IM := fun env st => (aCons f (aCons g aNil) env st).bind pRange2
section
variable {X : Cx} {W : WX} {tg e : Expr} {f : EM} {fs : AM} {p pos : Pos}
theorem mi_val (he : ME X W e f) : MI X W tg e (iVal f) := by
  refine ⟨fun pins s σ H R I h => ?_⟩
  obtain ⟨ω, st, env, wd, re, h⟩ := h
  refine thn (he.run pins s σ H _ I ⟨ω, st, env, wd, re, After.bind (Rel := RV X.K) h⟩) fun v s1 hh => ?_
  obtain ⟨x, H1, I1, r1, ω1, st1, pv, e1, wd1, rp, h1⟩ := hh
  unfold pIter at h1
  split at h1
  · cases rp with
    | tup ea rs =>
      cases r1
      have q : R (Itt X.K _) H1 := h1.ok_here wd1 (.of0 (itr_tup ea rs))
      have hq : SqT X.K H1 _ _ := .of (wd1.sub _ _ ea)
      obtain ⟨its, rv, p, hz⟩ := I1.tuple hq
      refine wpAny_pyIter_tuple (show s1.heap.IsTuple _ its.toArray from p) ?_
      refine ⟨s1.heap.objs.size, [s1.heap.objs.size], _, _, H1, rfl, I1.kept (t' := s1.toks) fun b o e => Heap.get?_push_of_some _ e, turn_tuple _ _, ⟨_, Heap.get?_push_size _ rfl, rfl, rfl⟩, fun b hb => ?_, q⟩
      have e : b = s1.heap.objs.size := by simpa using hb
      subst e
      exact I1.fpOk (Nat.le_refl _) (I1.hok.fresh (Nat.le_refl _))
  · cases rp with
    | lst ea rs =>
      cases r1
      have q : R (Itl X.K _) H1 := h1.ok_here wd1 (.of0 (itr_list (.of ea) rs))
      have hq : SqL X.K H1 _ _ := .of (wd1.sub _ _ ea)
      obtain ⟨its, rv, p, hz⟩ := I1.list hq
      refine wpAny_pyIter_list p.isList ?_
      refine ⟨s1.heap.objs.size, [s1.heap.objs.size], _, _, H1, rfl, I1.kept (t' := s1.toks) fun b o e => Heap.get?_push_of_some _ e, turn_list _ _, ⟨_, Heap.get?_push_size _ rfl, rfl, rfl⟩, fun b hb => ?_, q⟩
      have e : b = s1.heap.objs.size := by simpa using hb
      subst e
      exact I1.fpOk (Nat.le_refl _) (I1.hok.fresh (Nat.le_refl _))
  · cases rp with
    | frz ea rs =>
      cases r1
      have q : R (Itl X.K _) H1 := h1.ok_here wd1 (.of0 (itr_list ea rs))
      have hq : SqL X.K H1 _ _ := wd1.sub.seq ea
      obtain ⟨its, rv, p, hz⟩ := I1.list hq
      refine wpAny_pyIter_list p.isList ?_
      refine ⟨s1.heap.objs.size, [s1.heap.objs.size], _, _, H1, rfl, I1.kept (t' := s1.toks) fun b o e => Heap.get?_push_of_some _ e, turn_list _ _, ⟨_, Heap.get?_push_size _ rfl, rfl, rfl⟩, fun b hb => ?_, q⟩
      have e : b = s1.heap.objs.size := by simpa using hb
      subst e
      exact I1.fpOk (Nat.le_refl _) (I1.hok.fresh (Nat.le_refl _))
  · rename_i z
    cases rp
    have q : R (Its z) H1 := h1.ok_here wd1 (.of0 itr_str)
    obtain ⟨t, rfl⟩ := r1
    cases ha : z.cps.all (· < 128)
    · exact wpAny_pyIter_wide ha (pi_one (tk := s1.toks) I1 _ (turn_str _ z t "str_iterator" (.inr rfl)) ⟨_, Heap.get?_push_size _ rfl, rfl, rfl⟩ q)
    · exact wpAny_pyIter_ascii ha (pi_one (tk := s1.toks) I1 _ (turn_str _ z t "str_ascii_iterator" (.inl rfl)) ⟨_, Heap.get?_push_size _ rfl, rfl, rfl⟩ q)
  · rename_i l
    split at h1
    · rename_i xs ok
      cases rp with
      | loc ea =>
        cases r1
        have q : R (Itl X.K _) H1 := h1.ok_here wd1 (itr_loc ea)
        obtain ⟨ws, hw, rs⟩ := wd1.obj _ _ _ ea ok
        have hq : SqL X.K H1 _ _ := .of hw
        obtain ⟨its, rv, p, hz⟩ := I1.list hq
        refine wpAny_pyIter_list p.isList ?_
        refine ⟨s1.heap.objs.size, [s1.heap.objs.size], _, _, H1, rfl, I1.kept (t' := s1.toks) fun b o e => Heap.get?_push_of_some _ e, turn_list _ _, ⟨_, Heap.get?_push_size _ rfl, rfl, rfl⟩, fun b hb => ?_, q⟩
        have e : b = s1.heap.objs.size := by simpa using hb
        subst e
        exact I1.fpOk (Nat.le_refl _) (I1.hok.fresh (Nat.le_refl _))
    · exact False.elim h1
  · exact False.elim h1
theorem mi_range1 {a : Expr} {f1 : EM} (hg : Gl X "range") (hm : X.mg "range" = none) (ha : ME X W a f1) (hs : starEach [a] X.env = [(false, eval a X.env)] := by rfl) : MI X W tg (.Call (.Name "range" p) [a] [] pos) (iRange1 f1) := by
  refine piI (pi_range1 hg hm (ma_cons ha ma_nil (by rw [hs]; rfl)) hs) ?_
  rintro σ H Q ⟨ω, st, env, wd, re, h⟩
  refine ⟨ω, st, env, wd, re, (After.bind (Rel := RL X.K) h).mono ?_⟩
  rintro vs H1 ⟨ω1, st1, ps, e1, wd1, r1, h1⟩
  unfold pRange1 at h1
  split at h1
  · split at h1
    · rename_i j hz
      cases r1 with
      | cons ra r =>
        cases r
        cases ra
        exact ⟨j, rfl, hz.1, hz.2, h1.ok_here wd1 (.of0 itr_range)⟩
    · exact False.elim h1
  · exact False.elim h1
theorem mi_range2 {a b : Expr} {f1 f2 : EM} (hg : Gl X "range") (hm : X.mg "range" = none) (ha : ME X W a f1) (hb : ME X W b f2) (hs : starEach [a, b] X.env = [(false, eval a X.env), (false, eval b X.env)] := by rfl) (hs2 : starEach [b] X.env = [(false, eval b X.env)] := by rfl) :
    MI X W tg (.Call (.Name "range" p) [a, b] [] pos) (iRange2 f1 f2) := by
  refine piI (pi_range2 hg hm (ma_cons ha (ma_cons hb ma_nil (by rw [hs2]; rfl)) (by rw [hs, hs2])) hs hs2) ?_
  rintro σ H Q ⟨ω, st, env, wd, re, h⟩
  refine ⟨ω, st, env, wd, re, (After.bind (Rel := RL X.K) h).mono ?_⟩
  rintro vs H1 ⟨ω1, st1, ps, e1, wd1, r1, h1⟩
  unfold pRange2 at h1
  split at h1
  · split at h1
    · rename_i i j hz
      cases r1 with
      | cons ra r =>
        cases r with
        | cons rb r =>
          cases r
          cases ra
          cases rb
          exact ⟨i, j, rfl, hz, h1.ok_here wd1 (.of0 itr_range)⟩
    · exact False.elim h1
  · exact False.elim h1
theorem mi_enum {a : Expr} {f1 : EM} {elts : List Expr} {kk : Nat} {tpos : Pos} (hg : Gl X "enumerate") (hm : X.mg "enumerate" = none) (ha : ME X W a f1) (hs : starEach [a] X.env = [(false, eval a X.env)] := by rfl) :
    MI X W (.Tuple elts kk tpos) (.Call (.Name "enumerate" p) [a] [] pos) (iEnumM f1) := by
  refine ⟨fun pins s σ H R I h => ?_⟩
  obtain ⟨ω, st, env, wd, re, h⟩ := h
  have hA : tG X W (RL X.K) (aCons f1 aNil) σ H (fun vs H1 => ∃ x ω1 st1 pv, vs = [x] ∧ Ext ω H ω1 H1 ∧ Wd X.K ω1 st1 H1 ∧ Rep X.K ω1 pv x ∧ After (gd X) (wx W σ) ω1 H1 (pEnum pv st1) (RI X.K) R) := by
    refine ⟨ω, st, env, wd, re, ?_⟩
    have h : After (gd X) (wx W σ) ω H ((f1 env st).bind pEnum) (RI X.K) R := h
    show After (gd X) (wx W σ) ω H ((f1 env st).bind fun v st1 => .ok [v] st1) (RL X.K) _
    cases q : f1 env st with
    | ok v st1 =>
      rw [q] at h
      intro ω' H' vs ex w r
      cases r with
      | cons r1 r =>
        cases r
        exact ⟨_, ω', st1, v, rfl, ex, w, r1, After.shift h ex⟩
    | err n fs st1 => rw [q] at h; exact h
    | stuck => rw [q] at h; exact h
  refine Call_ (ld_blt I hg hm boot_enumerate (PyProof.Rows.callWith_type1 (thn ((ma_cons ha ma_nil (by rw [hs]; rfl)).run pos pins s σ H _ I hA) fun us s1 hh => ?_) hs rfl))
  obtain ⟨vs, H1, I1, r1, x, ω1, st1, pv, ev, e1, wd1, rp, h1⟩ := hh
  subst ev
  obtain ⟨u, rfl, ru⟩ := vals1 r1
  have ends : ∀ {a : Addr} {J : It} {tn : Nat → Heap → Prop} {h' : Heap}, (∀ b o, s1.heap.get? b = some o → h'.get? b = some o) → Turn X.prog X.w X.K (.Tuple elts kk tpos) J [s1.heap.objs.size + 1, s1.heap.objs.size] (s1.heap.objs.size + 1) tn → tn 0 h' → R J H1 →
      PIE X pins σ (.Tuple elts kk tpos) R (.ref (s1.heap.objs.size + 1)) { s1 with heap := h' } := fun {a J tn h'} hk T t0 q => by
    refine ⟨s1.heap.objs.size + 1, [s1.heap.objs.size + 1, s1.heap.objs.size], _, _, H1, rfl, I1.kept (t' := s1.toks) hk, T, t0, fun b hb => ?_, q⟩
    have e' : b = s1.heap.objs.size + 1 ∨ b = s1.heap.objs.size := by simpa using hb
    have hle : s1.heap.objs.size ≤ b := by
      rcases e' with z | z
      · rw [z]; exact Nat.le_add_right _ _
      · rw [z]; exact Nat.le_refl _
    exact I1.fpOk hle (I1.hok.fresh hle)
  unfold pEnum at h1
  split at h1
  · cases rp with
    | @tup a _ _ ea rs =>
      cases ru
      have q : R (IteT X.K _) H1 := h1.ok_here wd1 (.of0 (itr_enumT ea rs))
      have hq : SqT X.K H1 _ _ := .of (wd1.sub _ _ ea)
      obtain ⟨its, rv, p', hz⟩ := I1.tuple hq
      have hlt : a < s1.heap.objs.size := by obtain ⟨o, ho, _⟩ := p'; exact Heap.lt_size ho
      refine call_enumerate_begins (begins_tuple a its.toArray) (show s1.heap.IsTuple a its.toArray from p') fun h' he hit hsz hk => wpAny_pyIter_enum he ?_
      exact ends (a := a) hk (turn_enumT a _ _ (Nat.ne_of_lt hlt) (Nat.ne_of_gt (Nat.lt_succ_of_lt hlt))) ⟨⟨.none, he⟩, ⟨_, hit, rfl, rfl⟩, Nat.succ_ne_self _⟩ q
  · cases rp with
    | @lst a _ _ ea rs =>
      cases ru
      have q : R (Ite X.K _) H1 := h1.ok_here wd1 (.of0 (itr_enumL (.of ea) rs))
      have hq : SqL X.K H1 _ _ := .of (wd1.sub _ _ ea)
      obtain ⟨its, rv, p', hz⟩ := I1.list hq
      refine call_enumerate_list p'.isList fun h' he hit hsz hk => wpAny_pyIter_enum he ?_
      exact ends (a := a) hk (turn_enum a _ _) ⟨⟨.none, he⟩, hit, Nat.succ_ne_self _⟩ q
  · cases rp with
    | @frz a _ _ ea rs =>
      cases ru
      have q : R (Ite X.K _) H1 := h1.ok_here wd1 (.of0 (itr_enumL ea rs))
      have hq : SqL X.K H1 _ _ := wd1.sub.seq ea
      obtain ⟨its, rv, p', hz⟩ := I1.list hq
      refine call_enumerate_list p'.isList fun h' he hit hsz hk => wpAny_pyIter_enum he ?_
      exact ends (a := a) hk (turn_enum a _ _) ⟨⟨.none, he⟩, hit, Nat.succ_ne_self _⟩ q
  · exact False.elim h1
end
end PL
/-! PL, part f: built-ins and methods, by plain values. -/
namespace PL
open PySem PySem.Spec PyProof.Rows L2
def intsOf : List PV → Option (List Int)
  | [] => some []
  | .int i :: r => (intsOf r).map (i :: ·)
  | _ :: _ => none
def strsOf : List PV → Option (List Str)
  | [] => some []
  | .str i :: r => (strsOf r).map (i :: ·)
  | _ :: _ => none
theorem intsOf_map : ∀ {xs : List PV} {ns : List Int}, intsOf xs = some ns → xs = ns.map PV.int
  | [], ns, e => by cases e; rfl
  | x :: r, ns, e => by
    cases x with
    | int i =>
      unfold intsOf at e
      rw [Option.map_eq_some_iff] at e
      obtain ⟨ms, e1, e2⟩ := e
      subst e2
      rw [List.map_cons, ← intsOf_map e1]
    | _ => cases e
theorem intsOf_ints : ∀ ns : List Int, intsOf (ns.map PV.int) = some ns
  | [] => rfl
  | n :: ns => by rw [List.map_cons, intsOf, intsOf_ints ns]; rfl
theorem strsOf_map : ∀ {xs : List PV} {ns : List Str}, strsOf xs = some ns → xs = ns.map PV.str
  | [], ns, e => by cases e; rfl
  | x :: r, ns, e => by
    cases x with
    | str i =>
      unfold strsOf at e
      rw [Option.map_eq_some_iff] at e
      obtain ⟨ms, e1, e2⟩ := e
      subst e2
      rw [List.map_cons, ← strsOf_map e1]
    | _ => cases e
theorem strsOf_strs : ∀ ns : List Str, strsOf (ns.map PV.str) = some ns
  | [] => rfl
  | n :: ns => by rw [List.map_cons, strsOf, strsOf_strs ns]; rfl
section
variable {K : PySem.W.Frag} {ω : Wo}
theorem reps_ints : ∀ {ns : List Int} {ws : List V}, Reps K ω (ns.map PV.int) ws → ws = ns.map V.int
  | [], _, .nil => rfl
  | n :: ns, _, .cons r t => by cases r; rw [List.map_cons, reps_ints t]
theorem reps_strs : ∀ {ns : List Str} {ws : List V}, Reps K ω (ns.map PV.str) ws → ws = ns.map V.str
  | [], _, .nil => rfl
  | n :: ns, _, .cons r t => by cases r; rw [List.map_cons, reps_strs t]
end
/-! ### calls of one value -/
def one (p : PV → Store → Res PV) : List PV → Store → Res PV
  | [v], st => p v st
  | _, _ => .stuck
def pLen (v : PV) (st : Store) : Res PV := match v with
  | .str z => if z.length ≤ sizeLine then .ok (.int z.length) st else .stuck
  | _ => match seqOf st v with
    | some (_, xs) => .ok (.int xs.length) st
    | none => .stuck
def pInt (v : PV) (st : Store) : Res PV := match v with
  | .int i => .ok (.int i) st
  | .bl b => .ok (.int (if b then 1 else 0)) st
  | .str a => if a.length ≤ 640 then match PySem.intText? a with
    | some n => .ok (.int n) st
    | none => .stuck else .stuck
  | _ => .stuck
def strInt (i : Int) : Str := toString i
def pStr (v : PV) (st : Store) : Res PV := match v with
  | .int i => if i.natAbs.log2 < 1920 then .ok (.str (strInt i)) st else .stuck
  | _ => .stuck
def pAbs (v : PV) (st : Store) : Res PV := match v with
  | .int i => .ok (.int (if i < 0 then -i else i)) st
  | _ => .stuck
def pSum (v : PV) (st : Store) : Res PV := match seqOf st v with
  | some (false, xs) => match intsOf xs with
    | some ns => .ok (.int ns.sum) st
    | none => .stuck
  | _ => .stuck
def pMin (v : PV) (st : Store) : Res PV := match seqOf st v with
  | some (_, xs) => match intsOf xs with
    | some (n :: ns) => .ok (.int (ns.foldl min n)) st
    | _ => .stuck
  | _ => .stuck
def pMax (v : PV) (st : Store) : Res PV := match seqOf st v with
  | some (_, xs) => match intsOf xs with
    | some (n :: ns) => .ok (.int (ns.foldl max n)) st
    | _ => .stuck
  | _ => .stuck
def pTuple (v : PV) (st : Store) : Res PV := match seqOf st v with
  | some (_, xs) => .ok (.tup xs) st
  | _ => .stuck
def pList (v : PV) (st : Store) : Res PV := match seqOf st v with
  | some (_, xs) => .ok (.lst xs) st
  | _ => .stuck
/-- list(v), to be changed -/
def pListLoc (v : PV) (st : Store) : Res PV := match seqOf st v with
  | some (_, xs) => .ok (.loc st.length) (st ++ [.lst xs])
  | _ => .stuck
def SortOk (xs : List PV) : Prop := isDs xs = true ∧ (∀ d ∈ toDs xs, ∀ d' ∈ toDs xs, PySem.W.alike d d' = true) ∧ ((∀ d ∈ toDs xs, ∃ x r, d = .tuple (x :: r)) ∨ ∀ d ∈ toDs xs, d ≠ .none ∧ ∀ ys, d ≠ .tuple ys) ∧ ∀ d ∈ toDs xs, d.depth ≤ 60
open Classical in
noncomputable def pSorted (v : PV) (st : Store) : Res PV := match seqOf st v with
  | some (false, xs) => if SortOk xs then .ok (.lst (xs.mergeSort (PySem.W.dataLe false toD))) st else .stuck
  | _ => .stuck
section
variable {X : Cx}
theorem CallS.one {f : Value} {p : PV → Store → Res PV}
    (h : ∀ (pins : List (Addr × Obj)) (s : Shared) (σ : L2.St) (H : Hp) (x : V) (u : Value) (Q : VK) (E : XK) (ω : Wo) (st : Store) (a : PV), Inv X pins σ H s → RelV x u → Wd X.K ω st H → Rep X.K ω a x →
      After (gd X) E ω H (p a st) (RV X.K) Q → wpAny (model X.prog X.w) X.A (call f [u]) (EP X pins σ Q) X.xe s) : CallS X f (one p) := .mk' fun pins s σ H xs us Q E ω st as I rx wd ra q => by
  unfold PL.one at q
  split at q
  · cases ra with
    | cons r t =>
      cases t
      obtain ⟨u, rfl, ru⟩ := vals1 rx
      exact h pins s σ H _ u Q E ω st _ I ru wd r q
  · exact False.elim q
theorem vals_one {x : V} {u : Value} (r : RelV x u) : Vals [x] [u] := .cons r .nil
theorem cs_len : CallS X (.builtin "len") (one pLen) := .one fun pins s σ H x u Q E ω st a I rx wd ra h => by
  unfold pLen at h
  split at h
  · split at h
    · rename_i hz
      cases ra
      exact call_len_str pins s σ H [_] [u] Q I (vals_one rx) ⟨_, rfl, hz, h.ok_here wd (.int _)⟩
    · exact False.elim h
  · split at h
    · rename_i t xs q
      obtain ⟨p, ws, e, rs, ht⟩ := seqOf_rep wd ra q
      subst e
      have hl : (xs.length : Int) = (ws.length : Int) := by rw [rs.length]
      rw [hl] at h
      refine call_len_seq pins s σ H [_] [u] Q I (vals_one rx) ⟨p, ws, rfl, ?_, h.ok_here wd (.int _)⟩
      rcases ht with ⟨_, hq⟩ | ⟨_, hq⟩
      · exact .inr hq
      · exact .inl hq
    · exact False.elim h
theorem cs_int : CallS X (.type "int") (one pInt) := .one fun pins s σ H x u Q E ω st a I rx wd ra h => by
  unfold pInt at h
  split at h
  · cases ra
    exact call_int1 pins s σ H [_] [u] Q I (vals_one rx) (.inl ⟨_, rfl, h.ok_here wd (.int _)⟩)
  · cases ra
    exact call_int1 pins s σ H [_] [u] Q I (vals_one rx) (.inr ⟨_, rfl, h.ok_here wd (.int _)⟩)
  · split at h
    · rename_i hz
      split at h
      · rename_i n e
        cases ra
        exact call_int_str pins s σ H [_] [u] Q I (vals_one rx) ⟨_, n, rfl, e, hz, h.ok_here wd (.int _)⟩
      · exact False.elim h
    · exact False.elim h
  · exact False.elim h
theorem cs_str : CallS X (.type "str") (one pStr) := .one fun pins s σ H x u Q E ω st a I rx wd ra h => by
  unfold pStr at h
  split at h
  · split at h
    · rename_i hz
      cases ra
      exact call_str_int pins s σ H [_] [u] Q I (vals_one rx) ⟨_, rfl, hz, h.ok_here wd (.str _)⟩
    · exact False.elim h
  · exact False.elim h
theorem cs_abs : CallS X (.builtin "abs") (one pAbs) := .one fun pins s σ H x u Q E ω st a I rx wd ra h => by
  unfold pAbs at h
  split at h
  · cases ra
    exact call_abs pins s σ H [_] [u] Q I (vals_one rx) ⟨_, rfl, h.ok_here wd (.int _)⟩
  · exact False.elim h
theorem cs_sum (hc : X.calm = true) : CallS X (.builtin "sum") (one pSum) := .one fun pins s σ H x u Q E ω st a I rx wd ra h => by
  unfold pSum at h
  split at h
  · rename_i xs q
    split at h
    · rename_i ns e
      obtain ⟨p, ws, e1, rs, ht⟩ := seqOf_rep wd ra q
      subst e1
      rw [intsOf_map e] at rs
      have e2 := reps_ints rs
      subst e2
      rcases ht with ⟨z, _⟩ | ⟨_, hq⟩
      · cases z
      · exact cr_sum hc pins s σ H [_] [u] Q I (vals_one rx) ⟨p, ns, rfl, hq, h.ok_here wd (.int _)⟩
    · exact False.elim h
  · exact False.elim h
theorem depth_ints0 (ns : List Int) : PyData.depthAll (ns.map .int) = 0 := PySem.W.depth_ints ns
theorem dpAll_ints {H : Hp} : ∀ ns : List Int, DpAll X.K H (ns.map V.int) (ns.map PyData.int)
  | [] => .nil
  | n :: ns => .cons (.int n) (dpAll_ints ns)
theorem alike_ints (n : Int) (ns : List Int) : PySem.W.AlikeAll (PyData.int n :: ns.map PyData.int) := by
  refine ⟨fun x hx y hy => ?_, fun x hx => ?_⟩
  · have e : ∀ z ∈ (PyData.int n :: ns.map PyData.int), ∃ k, z = .int k := fun z hz => by
      rcases List.mem_cons.mp hz with e | hz
      · exact ⟨_, e⟩
      · obtain ⟨k, _, rfl⟩ := List.mem_map.mp hz
        exact ⟨k, rfl⟩
    obtain ⟨a, rfl⟩ := e x hx
    obtain ⟨b, rfl⟩ := e y hy
    rfl
  · rcases List.mem_cons.mp hx with e | hx
    · rw [e]; intro z; cases z
    · obtain ⟨k, _, rfl⟩ := List.mem_map.mp hx
      intro z; cases z
theorem reads_int {h : Heap} {v : Value} {m : Int} {bs : List Addr} (r : Reads h v (.int m) bs) : ∃ t, v = .int m t := by
  cases r
  exact ⟨_, rfl⟩
theorem cs_min (hc : X.calm = true) (hu : X.A.units + 64 < cLine) : CallS X (.builtin "min") (one pMin) := .one fun pins s σ H x u Q E ω st a I rx wd ra h => by
  unfold pMin at h
  split at h
  · rename_i t xs q
    split at h
    · rename_i n ns e
      obtain ⟨p, ws, e1, rs, ht⟩ := seqOf_rep wd ra q
      subst e1
      rw [intsOf_map e] at rs
      have e2 := reps_ints rs
      subst e2
      cases rx
      have hd : X.A.units + 1 + PyData.depthAll (PyData.int n :: ns.map PyData.int) < cLine := by
        have e : PyData.depthAll (PyData.int n :: ns.map PyData.int) = 0 := depth_ints0 (n :: ns)
        rw [e]; omega
      have fin : ∀ (i : Nat) v h' tk bs, Reads h' v (PySem.W.minD (.int n) (ns.map .int)) bs → (∀ b o, s.heap.get? b = some o → h'.get? b = some o) → EP X pins σ Q v { s with heap := h', toks := tk } := fun i v h' tk bs r hk => by
        rw [PySem.W.minD_ints] at r
        obtain ⟨t, rfl⟩ := reads_int r
        exact ⟨.int _, H, I.kept hk, ⟨_, rfl⟩, h.ok_here wd (.int _)⟩
      rcases ht with ⟨_, hq⟩ | ⟨_, hq⟩
      · obtain ⟨its, rv, hl, _⟩ := I.tuple hq
        obtain ⟨as, hr⟩ := Dp.readsAll I _ _ _ (dpAll_ints (n :: ns)) rv
        exact PySem.W.min_tuple_data (I.ok.hd hc) (show s.heap.IsTuple p its.toArray from hl) (as := as) (by simpa using hr) (alike_ints n ns) hd fun i v h' tk bs _ r hk => fin i v h' tk bs r hk
      · obtain ⟨its, rv, hl, _⟩ := I.list hq
        obtain ⟨as, hr⟩ := Dp.readsAll I _ _ _ (dpAll_ints (n :: ns)) rv
        exact PySem.W.min_list_data (I.ok.hd hc) hl.isList (as := as) (by simpa using hr) (alike_ints n ns) hd fun i v h' tk bs _ r hk => fin i v h' tk bs r hk
    · exact False.elim h
  · exact False.elim h
theorem cs_max (hc : X.calm = true) (hu : X.A.units + 64 < cLine) : CallS X (.builtin "max") (one pMax) := .one fun pins s σ H x u Q E ω st a I rx wd ra h => by
  unfold pMax at h
  split at h
  · rename_i t xs q
    split at h
    · rename_i n ns e
      obtain ⟨p, ws, e1, rs, ht⟩ := seqOf_rep wd ra q
      subst e1
      rw [intsOf_map e] at rs
      have e2 := reps_ints rs
      subst e2
      cases rx
      have hd : X.A.units + 1 + PyData.depthAll (PyData.int n :: ns.map PyData.int) < cLine := by
        have e : PyData.depthAll (PyData.int n :: ns.map PyData.int) = 0 := depth_ints0 (n :: ns)
        rw [e]; omega
      have fin : ∀ (i : Nat) v h' tk bs, Reads h' v (PySem.W.maxD (.int n) (ns.map .int)) bs → (∀ b o, s.heap.get? b = some o → h'.get? b = some o) → EP X pins σ Q v { s with heap := h', toks := tk } := fun i v h' tk bs r hk => by
        rw [PySem.W.maxD_ints] at r
        obtain ⟨t, rfl⟩ := reads_int r
        exact ⟨.int _, H, I.kept hk, ⟨_, rfl⟩, h.ok_here wd (.int _)⟩
      rcases ht with ⟨_, hq⟩ | ⟨_, hq⟩
      · obtain ⟨its, rv, hl, _⟩ := I.tuple hq
        obtain ⟨as, hr⟩ := Dp.readsAll I _ _ _ (dpAll_ints (n :: ns)) rv
        exact PySem.W.max_tuple_data (I.ok.hd hc) (show s.heap.IsTuple p its.toArray from hl) (as := as) (by simpa using hr) (alike_ints n ns) hd fun i v h' tk bs _ r hk => fin i v h' tk bs r hk
      · obtain ⟨its, rv, hl, _⟩ := I.list hq
        obtain ⟨as, hr⟩ := Dp.readsAll I _ _ _ (dpAll_ints (n :: ns)) rv
        exact PySem.W.max_list_data (I.ok.hd hc) hl.isList (as := as) (by simpa using hr) (alike_ints n ns) hd fun i v h' tk bs _ r hk => fin i v h' tk bs r hk
    · exact False.elim h
  · exact False.elim h
theorem cs_tuple : CallS X (.type "tuple") (one pTuple) := .one fun pins s σ H x u Q E ω st a I rx wd ra h => by
  unfold pTuple at h
  split at h
  · rename_i t xs q
    obtain ⟨p, ws, e, rs, ht⟩ := seqOf_rep wd ra q
    subst e
    rcases ht with ⟨e, hq⟩ | ⟨_, hq⟩
    · subst e
      refine call_tuple_of pins s σ H [_] [u] Q I (vals_one rx) ⟨p, ws, rfl, .inr ⟨hq, ?_⟩⟩
      cases ra with
      | tup ea r1 =>
        cases q
        exact h.ok_here wd (.tup ea r1)
      | loc ea =>
        unfold seqOf at q
        simp only at q
        split at q <;> cases q
      | _ => cases q
    · exact call_tuple_of pins s σ H [_] [u] Q I (vals_one rx) ⟨p, ws, rfl, .inl ⟨hq, new_tup wd rs h⟩⟩
  · exact False.elim h
theorem cs_list : CallS X (.type "list") (one pList) := .one fun pins s σ H x u Q E ω st a I rx wd ra h => by
  unfold pList at h
  split at h
  · rename_i t xs q
    obtain ⟨p, ws, e, rs, ht⟩ := seqOf_rep wd ra q
    subst e
    exact call_list_of pins s σ H [_] [u] Q I (vals_one rx) ⟨p, ws, rfl, ht.elim (fun z => .inr z.2) (fun z => .inl z.2), new_lst wd rs h⟩
  · exact False.elim h
theorem cs_listLoc : CallS X (.type "list") (one pListLoc) := .one fun pins s σ H x u Q E ω st a I rx wd ra h => by
  unfold pListLoc at h
  split at h
  · rename_i t xs q
    obtain ⟨p, ws, e, rs, ht⟩ := seqOf_rep wd ra q
    subst e
    exact call_list_of pins s σ H [_] [u] Q I (vals_one rx) ⟨p, ws, rfl, ht.elim (fun z => .inr z.2) (fun z => .inl z.2), new_loc wd rs h⟩
  · exact False.elim h
/-- items that stand for plain values -/
def Stands (K : PySem.W.Frag) (ω : Wo) (u : Value) (v : PV) : Prop := ∃ x, RelV x u ∧ Rep K ω v x
theorem each_of {ω : Wo} : ∀ {ws : List V} {us : List Value} {xs : List PV}, Vals ws us → Reps X.K ω xs ws → PySem.W.EachIs (Stands X.K ω) us xs
  | _, _, _, .nil, .nil => .nil
  | _, _, _, .cons r t, .cons r' t' => .cons ⟨_, r, r'⟩ (each_of t t')
theorem each_back {ω : Wo} : ∀ {us : List Value} {xs : List PV}, PySem.W.EachIs (Stands X.K ω) us xs → ∃ ws, Vals ws us ∧ Reps X.K ω xs ws
  | _, _, .nil => ⟨[], .nil, .nil⟩
  | _, _, .cons ⟨x, r1, r2⟩ t => let ⟨ws, h1, h2⟩ := each_back t; ⟨x :: ws, .cons r1 h1, .cons r2 h2⟩
theorem each_reads {pins : List (Addr × Obj)} {s : Shared} {σ : L2.St} {H : Hp} {ω : Wo} {st : Store} (I : Inv X pins σ H s) (wd : Wd X.K ω st H) : ∀ {us : List Value} {xs : List PV}, PySem.W.EachIs (Stands X.K ω) us xs → isDs xs = true → PySem.W.EachIs (fun v b => ∃ as, Reads s.heap v (toD b) as) us xs
  | _, _, .nil, _ => .nil
  | _, _, .cons ⟨x, r1, r2⟩ t, d => by
    simp only [isDs, Bool.and_eq_true] at d
    exact .cons (r2.reads I wd d.1 r1) (each_reads I wd t d.2)
theorem cs_sorted (hu : X.A.units + 64 < cLine) : CallS X (.builtin "sorted") (one pSorted) := .one fun pins s σ H x u Q E ω st a I rx wd ra h => by
  unfold pSorted at h
  split at h
  · rename_i xs q
    split at h
    · rename_i hz
      obtain ⟨h1, h2, h3, h4⟩ := hz
      obtain ⟨p, ws, e, rs, ht⟩ := seqOf_rep wd ra q
      subst e
      cases rx
      rcases ht with ⟨z, _⟩ | ⟨_, hq⟩
      · cases z
      · obtain ⟨its, rv, hl, hz⟩ := I.list hq
        have ei := each_of rv rs
        rw [toDs_map] at h2 h3 h4
        refine PySem.W.sorted_data (R := Stands X.K ω) (enc := toD) hl.isList ei (each_reads I wd ei h1) h2 h3 (by rw [rs.length]; exact hz) (fun b hb => ?_) fun out ho hr => ?_
        · have := h4 _ (List.mem_map.mpr ⟨b, hb, rfl⟩)
          omega
        · obtain ⟨os, v1, v2⟩ := each_back hr
          obtain ⟨ep, he'⟩ := PyProof.Rows.sortedAll_at s.heap its out.toArray
          refine ⟨.ref _, upd H (s.heap.objs.size + 1) (.lst os), I.laid (t' := s.toks) (fun _ _ => PyProof.Rows.sortedAll_old) (Nat.le_succ _) ⟨?_, out, ep, v1, he'⟩, rfl, new_lst wd v2 h _ (I.hok.fresh (Nat.le_succ _))⟩
          rw [v1.length, ho, rs.length]
          exact hz
    · exact False.elim h
  · exact False.elim h
end
/-! ### isinstance -/
def tyName (st : Store) : PV → Option String
  | .non => some "NoneType"
  | .bl _ => some "bool"
  | .int _ => some "int"
  | .str _ => some "str"
  | .tup _ => some "tuple"
  | .lst _ => some "list"
  | .frz _ => some "list"
  | .loc l => match st[l]? with
    | some (.lst _) => some "list"
    | some (.dic _) => some "dict"
    | some (.fdic _) => some "dict"
    | none => none
  | .con _ => none
  | .exc _ _ _ _ => none
def kitAll (t : String) : List PV → Option Bool
  | [] => some false
  | .con (.ty n) :: r => match kitB t n with
    | some true => some true
    | some false => kitAll t r
    | none => none
  | _ :: _ => none
def allTys : List PV → Bool
  | [] => true
  | .con (.ty _) :: r => allTys r
  | _ :: _ => false
def pIsi (vs : List PV) (st : Store) : Res PV := match vs with
  | [v, .con (.ty n)] => match tyName st v with
    | some t => match kitB t n with
      | some b => .ok (.bl b) st
      | none => .stuck
    | none => .stuck
  | [v, .tup cs] => match tyName st v with
    | some t => match kitAll t cs with
      | some b => if allTys cs = true then .ok (.bl b) st else .stuck
      | none => .stuck
    | none => .stuck
  | _ => .stuck
section
variable {X : Cx} {ω : Wo} {st : Store} {H : Hp}
theorem tyx_of (wd : Wd X.K ω st H) {v : PV} {x : V} (r : Rep X.K ω v x) {t : String} (e : tyName st v = some t) : TyX X.K H x (.type t) := by
  cases r with
  | non => cases e; exact .base .non
  | bl b => cases e; exact .base (.bl b)
  | int b => cases e; exact .base (.int b)
  | str b => cases e; exact .base (.str b)
  | tup ea rs => cases e; exact .base (.tup (wd.sub _ _ ea))
  | lst ea rs => cases e; exact .base (.lst (wd.sub _ _ ea))
  | frz ea rs =>
    cases e
    rcases ea with (ea | ⟨o, ea⟩) | ⟨o, its, n, hk, hc, _⟩
    · exact .base (.lst (wd.sub _ _ ea))
    · exact .base (.frz (wd.sub _ _ ea))
    · exact .kList hk hc
  | loc ea =>
    unfold tyName at e
    simp only at e
    split at e
    · rename_i q
      cases e
      obtain ⟨vs, h, _⟩ := wd.obj _ _ _ ea q
      exact .base (.lst h)
    · rename_i q
      cases e
      obtain ⟨vs, h, _⟩ := wd.obj _ _ _ ea q
      exact .base (.dK h)
    · rename_i q
      cases e
      obtain ⟨vs, od, _, h, _⟩ := wd.obj _ _ _ ea q
      exact .fDict h
    · cases e
  | con v => cases e
  | exc _ _ _ => cases e
theorem tys_of : ∀ {cs : List PV} {ws : List V}, Reps X.K ω cs ws → allTys cs = true → ∃ us, Paired ClsV ws us ∧ ∀ {t : String} {b : Bool}, kitAll t cs = some b → PySem.W.kitAny X.K (.type t) us = some b
  | _, _, .nil, _ => ⟨[], .nil, fun e => by cases e; rfl⟩
  | c :: cs, _, .cons r t, h => by
    cases c with
    | con v =>
      cases v with
      | ty n =>
        obtain ⟨us, h1, h2⟩ := tys_of t (show allTys cs = true from h)
        cases r
        refine ⟨.type n :: us, .cons (.ty n) h1, fun {t b} e => ?_⟩
        unfold kitAll at e
        cases q : kitB t n with
        | none => rw [q] at e; cases e
        | some k =>
          rw [q] at e
          refine kitAny_cons (b := k) (kit_ty q) (fun z => ?_) (fun z => ?_)
          · subst z; exact h2 e
          · subst z; cases e; rfl
      | _ => cases h
    | _ => cases h
theorem cs_isi : CallS X (.builtin "isinstance") pIsi := .mk' fun pins s σ H xs us Q E ω st as I rx wd ra h => by
  unfold pIsi at h
  split at h
  · rename_i v n
    cases ra with
    | cons r1 ra =>
      cases ra with
      | cons r2 ra =>
        cases ra
        cases r2
        split at h
        · rename_i t e
          split at h
          · rename_i b k
            exact call_isi pins s σ H _ us Q I rx ⟨_, _, _, _, b, rfl, .ty n, tyx_of wd r1 e, kit_ty k, h.ok_here wd (.bl b)⟩
          · exact False.elim h
        · exact False.elim h
  · rename_i v cs
    cases ra with
    | cons r1 ra =>
      cases ra with
      | cons r2 ra =>
        cases ra
        cases r2 with
        | tup ea rs =>
          split at h
          · rename_i t e
            split at h
            · rename_i b k
              split at h
              · rename_i ht
                obtain ⟨ws, p1, p2⟩ := tys_of rs ht
                exact call_isiT pins s σ H _ us Q I rx ⟨_, _, _, _, ws, b, rfl, wd.sub _ _ ea, p1, tyx_of wd r1 e, p2 k, h.ok_here wd (.bl b)⟩
              · exact False.elim h
            · exact False.elim h
          · exact False.elim h
  · exact False.elim h
def pGcd (vs : List PV) (st : Store) : Res PV := match vs with
  | [.int a, .int b] => .ok (.int ((Nat.gcd a.natAbs b.natAbs : Nat) : Int)) st
  | _ => .stuck
theorem cs_gcd : CallS X (.builtin "math.gcd") pGcd := .mk' fun pins s σ H xs us Q E ω st as I rx wd ra h => by
  unfold pGcd at h
  split at h
  · cases ra with
    | cons r1 ra =>
      cases ra with
      | cons r2 ra =>
        cases ra
        cases r1
        cases r2
        exact cr_gcd pins s σ H _ us Q I rx ⟨_, _, rfl, h.ok_here wd (.int _)⟩
  · exact False.elim h
end
/-! ### methods -/
def isListP (v : PV) (st : Store) : Bool := match v with
  | .loc l => match st[l]? with
    | some (.lst _) => true
    | _ => false
  | _ => false
def pAppend (v : PV) (vs : List PV) (st : Store) : Res PV := match v, vs with
  | .loc l, [y] => match st[l]? with
    | some (.lst xs) => if xs.length < sizeLine then .ok .non (st.set l (.lst (xs ++ [y]))) else .stuck
    | _ => .stuck
  | _, _ => .stuck
def isStrP (v : PV) (_ : Store) : Bool := match v with
  | .str _ => true
  | _ => false
def pJoin (v : PV) (vs : List PV) (st : Store) : Res PV := match v, vs with
  | .str a, [w] => match seqOf st w with
    | some (_, xs) => match strsOf xs with
      | some ys => if (ys.map (·.length)).sum + ys.length * a.length ≤ 16777216 then .ok (.str (Txt.join a ys)) st else .stuck
      | none => .stuck
    | none => .stuck
  | _, _ => .stuck
def pBits (v : PV) (st : Store) : Res PV := match v with
  | .int i => .ok (.int (Builtin.Int.intBits i : Nat)) st
  | _ => .stuck
section
variable {X : Cx}
theorem mts_append : MtS X "list" "list.append" isListP pAppend := by
  refine ⟨rAppend, mt_append, fun ω st H v x wd r h => ?_, fun E ω st H v x vs xs Q wd rv rs h => ?_⟩
  · unfold isListP at h
    split at h
    · split at h
      · rename_i q
        cases r with
        | loc ea =>
          obtain ⟨ws, e, _⟩ := wd.obj _ _ _ ea q
          exact .inl ⟨rfl, _, .of e⟩
      · cases h
    · cases h
  · unfold pAppend at h
    split at h
    · split at h
      · rename_i q
        split at h
        · rename_i hz
          cases rv with
          | loc ea =>
            cases rs with
            | cons ry t =>
              cases t
              obtain ⟨ws, e, rw'⟩ := wd.obj _ _ _ ea q
              obtain ⟨w, ex⟩ := wd.wr ea e (rw'.append (Reps.one ry))
              exact ⟨_, ws, _, rfl, rfl, e, by rw [← rw'.length]; exact hz, h _ _ _ ex w .non⟩
        · exact False.elim h
      · exact False.elim h
    · exact False.elim h
theorem mts_join : MtS X "str" "str.join" isStrP pJoin := by
  refine ⟨_, mt_join, fun ω st H v x wd r h => ?_, fun E ω st H v x vs xs Q wd rv rs h => ?_⟩
  · unfold isStrP at h
    split at h
    · cases r
      rfl
    · cases h
  · unfold pJoin at h
    split at h
    · split at h
      · rename_i t xs q
        split at h
        · rename_i ys e
          split at h
          · rename_i hz
            cases rv
            cases rs with
            | cons ry tl =>
              cases tl
              obtain ⟨p, ws, e1, r1, ht⟩ := seqOf_rep wd ry q
              subst e1
              rw [strsOf_map e] at r1
              have e2 := reps_strs r1
              subst e2
              refine ⟨_, p, ys, rfl, rfl, ?_, hz, h.ok_here wd (.str _)⟩
              rcases ht with ⟨_, hq⟩ | ⟨_, hq⟩
              · exact .inr hq
              · exact .inl hq
          · exact False.elim h
        · exact False.elim h
      · exact False.elim h
    · exact False.elim h
theorem me_bits {W : WX} {o : Expr} {fo : EM} {apos pos : Pos} (ho : ME X W o fo) (hbase : attributeBase o "bit_length" X.env (eval o X.env) = eval o X.env := by rfl) (hline : (apos.endLine == pos.line) = true := by rfl) :
    ME X W (.Call (.Attribute o "bit_length" apos) [] [] pos) (eUn pBits fo) := by
  refine peI (pe_bits ho hbase hline) ?_
  rintro σ H Q ⟨ω, st, env, wd, re, h⟩
  refine ⟨ω, st, env, wd, re, (After.bind (Rel := RV X.K) h).mono ?_⟩
  rintro x H1 ⟨ω1, st1, v, e1, wd1, r1, h1⟩
  unfold pBits at h1
  split at h1
  · cases r1
    exact ⟨_, rfl, h1.ok_here wd1 (.int _)⟩
  · exact False.elim h1
theorem sts_set : StS X pSet := by
  refine ⟨_, set_list, fun E ω st H o i v xo xi x Q wd ro ri rv h => ?_⟩
  unfold pSet at h
  split at h
  · split at h
    · rename_i q
      split at h
      · rename_i j hj
        cases ro with
        | loc ea =>
          cases ri
          obtain ⟨ws, e, rw'⟩ := wd.obj _ _ _ ea q
          obtain ⟨w, ex⟩ := wd.wr ea e (rw'.set j rv)
          exact ⟨_, ws, _, j, rfl, rfl, e, by rw [← rw'.length]; exact hj, h _ _ () ex w trivial⟩
      · exact False.elim h
    · exact False.elim h
  · exact False.elim h
end
end PL
/-! PL, part g: defs of the text by name. -/
namespace PL
open PySem PySem.Spec PyProof.Rows L2
/-- the def x stands at the module's name x, with the text st -/
structure DefOf (K : PySem.W.Frag) (mg : Str → Option Value) (x : Str) (st : Stmt) (ps : List Str) : Prop where
  ex : ∃ f fd, Fun K x x st f fd ∧ mg x = some (.ref f) ∧ Binds K fd ps []
/-- the function object at f -/
def FdAt (K : PySem.W.Frag) (f : Addr) (fd : FuncData) : Prop := ∃ oc od sl, K.lookup f = some ⟨oc, od, .func fd, sl⟩
theorem FdAt.of {K : PySem.W.Frag} {x qual : Str} {st : Stmt} {f : Addr} {fd : FuncData} (F : Fun K x qual st f fd) : FdAt K f fd := by
  obtain ⟨oc, od, kV, doc, pm, an, cdv, ct, osl, e, lk, hcd⟩ := F.ex
  exact ⟨oc, od, osl, lk⟩
theorem FdAt.inj {K : PySem.W.Frag} {f : Addr} {fd fd' : FuncData} (h : FdAt K f fd) (h' : FdAt K f fd') : fd = fd' := by
  obtain ⟨_, _, _, e⟩ := h
  obtain ⟨_, _, _, e'⟩ := h'
  rw [e] at e'
  cases e'
  rfl
/-- the def x is worth the plain function m -/
structure Has (P : Program) (w : World) (K : PySem.W.Frag) (mg : Str → Option Value) (base : Heap) (x : Str) (ps : List Str) (k : Nat) (m : List PV → Store → Res PV) : Prop where
  ex : ∃ f fd, FnOk P w K mg base CX0 k f fd ps (spP ⟨K, mg⟩ ps.length (nE m)) ∧ mg x = some (.ref f) ∧ PySem.W.keepIn K (.ref f) = true ∧ Binds K fd ps [] ∧ FdAt K f fd
section
variable {P : Program} {w : World} {K : PySem.W.Frag} {mg : Str → Option Value} {base : Heap} {x : Str} {st : Stmt} {N ps : List Str} {k n : Nat}
theorem has_of {fm : SM} (d : DefOf K mg x st ps) (S : FnScope N ps (defScope st))
    (hbody : ∀ {f : Addr} (cdv : Value) (A : Around) (outer : List Env) (s : Shared) (H : Hp) (E : XK), Room k (A.deeper (envOfC x (defScope st) s.heap.objs.size f cdv)) →
      MB (cxOf CX0 P w K mg base N x (defScope st) f cdv A outer s H E).nox W0 (defBody st) fm) : Has P w K mg base x ps (k + 1) (runBody N.length fm) := by
  obtain ⟨f, fd, F, hm, hb⟩ := d.ex
  exact ⟨f, fd, okP F S fun cdv A outer s H E hr => hbody cdv A outer s H E hr, hm, F.kp, hb, .of F⟩
theorem has_rec {body : (List PV → Store → Res PV) → SM} (d : DefOf K mg x st ps) (S : FnScope N ps (defScope st)) (hk : 1 ≤ k)
    (hbody : ∀ {f : Addr} (n : Nat), Has P w K mg base x ps (k + n) (fuelF N.length body n) → ∀ (cdv : Value) (A : Around) (outer : List Env) (s : Shared) (H : Hp) (E : XK), Room (k + n) (A.deeper (envOfC x (defScope st) s.heap.objs.size f cdv)) →
      MB (cxOf CX0 P w K mg base N x (defScope st) f cdv A outer s H E).nox W0 (defBody st) (body (fuelF N.length body n))) : Has P w K mg base x ps (k + n) (fuelF N.length body n) := by
  obtain ⟨f, fd, F, hm, hb⟩ := d.ex
  exact ⟨f, fd, okP_rec F S hk (fun n h cdv A outer s H E hr => hbody n ⟨f, fd, h, hm, F.kp, hb, .of F⟩ cdv A outer s H E hr) n, hm, F.kp, hb, .of F⟩
end
section
variable {X : Cx} {W : WX} {x : Str} {p pos : Pos} {e : Expr} {es : List Expr} {fs : AM} {ps : List Str} {k : Nat} {m : List PV → Store → Res PV}
theorem me_callH {n : Nat} (h : Has X.prog X.w X.K X.mg X.base x ps k m) (hr : Room k X.A) (ha : MA X W (e :: es) fs) (hn : ps.length = n := by rfl) (hg : Gl X x := by rfl) (hdb : (x == ("__debug__" : Str)) = false := by decide)
    (he : starEach (e :: es) X.env = (false, eval e X.env) :: starEach es X.env := by rfl) (hpl : (backTo pos (starEach es X.env)).any (·.1) = false := by rfl) :
    ME X W (.Call (.Name x p) (e :: es) [] pos) (eCall n m fs) := by
  subst hn
  obtain ⟨f, fd, F, hm, hk, hb, _⟩ := h.ex
  exact me_call F hr hg hm hk hb ha hdb he hpl
end
theorem bb_len : bootBuiltins "len" = some (.builtin "len") := by decide +kernel
theorem bb_abs : bootBuiltins "abs" = some (.builtin "abs") := by decide +kernel
theorem bb_sum : bootBuiltins "sum" = some (.builtin "sum") := by decide +kernel
theorem bb_min : bootBuiltins "min" = some (.builtin "min") := by decide +kernel
theorem bb_max : bootBuiltins "max" = some (.builtin "max") := by decide +kernel
theorem bb_sorted : bootBuiltins "sorted" = some (.builtin "sorted") := by decide +kernel
theorem bb_isinstance : bootBuiltins "isinstance" = some (.builtin "isinstance") := by decide +kernel
theorem bt_int : bootBuiltins "int" = some (.type "int") := by decide +kernel
theorem bt_str : bootBuiltins "str" = some (.type "str") := by decide +kernel
theorem bt_bool : bootBuiltins "bool" = some (.type "bool") := by decide +kernel
theorem bt_tuple : bootBuiltins "tuple" = some (.type "tuple") := by decide +kernel
theorem bt_list : bootBuiltins "list" = some (.type "list") := by decide +kernel
theorem bt_dict : bootBuiltins "dict" = some (.type "dict") := by decide +kernel
end PL
/-! PL, part xb: the __init__ of an own error class over ValueError: super().__init__('..'); self.f = f -/
namespace PLX
open PySem PySem.W PySem.Calls PySem.Spec PyProof.Rows PySem.HandSPX
def iA (f : Str) (p1 p2 : Pos) : Arguments := { posonlyargs := [], args := [{ arg := "self", annotation := none, pos := p1 }, { arg := f, annotation := none, pos := p2 }], vararg := none, kwonlyargs := [], kw_defaults := [], kwarg := none, defaults := [] }
/-- m: what the message is -/
def iB (f : Str) (m : Expr) (a1 a2 a3 a5 a6 q1 q2 q3 q4 : Pos) : List Stmt :=
  [.Expr (.Call (.Attribute (.Call (.Name "super" a1) [] [] a2) "__init__" a3) [m] [] a5) a6, .Assign [.Attribute (.Name "self" q1) f q2] (.Name f q3) q4]
/-- xs: the message's own names -/
def iS (f : Str) (xs : List (Str × NameKind)) : Scope := { kind := .function, names := (PySem.Str.ofString "self", .local) :: (f, .local) :: (PySem.Str.ofString "__class__", .free) :: (PySem.Str.ofString "super", .globalImplicit) :: xs, isGenerator := false, isCoroutine := false, more := [] }
/-- a field's name that is none of the text's other names -/
structure FldOk (f : Str) (xs : List (Str × NameKind)) : Prop where
  nc : ∀ y ∈ xs, y.2 ≠ .cell
  lf : (iS f xs).names.lookup f = some .local
  lc : (iS f xs).names.lookup ("__class__" : Str) = some .free
  ls : (iS f xs).names.lookup ("super" : Str) = some .globalImplicit
  b1 : ∀ (x : Addr) (v : Value), ([(("self" : Str), Value.ref x), (f, v)] : List (Str × Value)).reverse.lookup ("self" : Str) = some (.ref x)
  b2 : ∀ (x : Addr) (v : Value), ([(("self" : Str), Value.ref x), (f, v)] : List (Str × Value)).reverse.lookup f = some v
  db : (f == ("__debug__" : Str)) = false
  bd : ∀ (s : Shared) (q : Str) (p1 p2 : Pos) (body : List Stmt) (doc pm : Value) (an : Option Addr) (cd ct : Value) (cc : Addr) (a v : Value),
    BindsTo s (ksFn "__init__" q (iA f p1 p2) body (iS f xs) .none .none doc pm an cd ct cc) ⟨[a, v], []⟩ [("self", a), (f, v)]
/-- where the pieces of the line super().__init__('..') stand -/
def SupOk (f qual : Str) (xs : List (Str × NameKind)) (m : Expr) (a1 a2 a3 a5 a6 : Pos) : Prop :=
  ∃ pl : Sem Bool, ∀ (L fI : Addr) (cd : Value) (cc : Addr), eval (.Call (.Attribute (.Call (.Name "super" a1) [] [] a2) "__init__" a3) [m] [] a5) (ksEnv qual (iS f xs) L fI cd cc) = (do
      let ov ← attributeBase (.Call (.Name "super" a1) [] [] a2) "__init__" (ksEnv qual (iS f xs) L fI cd cc) (eval (.Call (.Name "super" a1) [] [] a2) (ksEnv qual (iS f xs) L fI cd cc))
      standAt a3.atName
      let (g, first) ← holding [ov] (getMethod ov "__init__" pl)
      callWith a5 g first (backTo a5 (starEach [m] (ksEnv qual (iS f xs) L fI cd cc))) []) ∧
    swapsWith (.Call (.Attribute (.Call (.Name "super" a1) [] [] a2) "__init__" a3) [m] [] a5) none a6.line (ksEnv qual (iS f xs) L fI cd cc) = pure false
/-- the message can be made, of a field that is as Pv says -/
def MsgOk (prog : Program) (f qual : Str) (xs : List (Str × NameKind)) (Pv : L2.V → Prop) (m : Expr) : Prop :=
  (∀ env, starEach [m] env = [(false, eval m env)]) ∧ ∀ {w : World} {A : Around} {E : Value → Shared → Prop} {s : Shared} {L fI cc e : Addr} {cd : Value} {mg mb : Str → Option Value} {x : L2.V} {v : Value} {Q : Value → Shared → Prop}, Pv x → L2.RelV x v → s.heap.Ns mainGlobals mg → mg "str" = none → s.heap.Ns builtinsNs mb → mb "str" = some (.type "str") →
    s.heap.Ns L (fun y => ([(("self" : Str), Value.ref e), (f, v)] : List (Str × Value)).reverse.lookup y) → (∀ z t tk, Q (.str z t) { s with toks := tk }) → wpAny (model prog w) A (eval m (ksEnv qual (iS f xs) L fI cd cc)) Q E s
/-- what the written part says of the class at C and of its __init__, at fI -/
structure XTxt (prog : Program) (K : Frag) (mg : Str → Option Value) (x : Str) (C fI : Addr) (f qual : Str) (xs : List (Str × NameKind)) (Pv : L2.V → Prop) : Prop where
  gC : mg x = some (.ref C)
  cls : ∃ nm q N bs bm sn sub ab col dd k0 k1 k2 k3 k5, K.lookup C = some (excClassObj nm q C N bs bm true sn sub ab col dd k0 k1 k2 k3 k5 "ValueError.__new__") ∧ refsVE bm = true
  sa : findIn K (.ref C) "__setattr__" = some (some (.builtin "object.__setattr__"))
  ga : findIn K (.ref C) "__getattribute__" = some (some (.builtin "BaseException.__getattribute__"))
  gg : findIn K (.ref C) "__getattr__" = some none
  noN : findIn K (.ref C) f = some none
  iC : findIn K (.ref C) "__init__" = some (some (.ref fI))
  tC : typeIn K (.ref fI) = some (.type "function")
  kC : keepIn K (.ref C) = true
  exC : subIn K (.ref C) (.type "BaseException") = some true
  tyC : typeIn K (.ref C) = some (.type "type")
  hdC : hasDictIn K C = true
  mC : mroIn K C (.ref C) = some true
  su : mg "super" = none
  st : mg "str" = none
  ho : nsIn K cStatics "thirdparty.any" = some none
  hm : ks_superIn K C C "__init__" = some (some (.builtin "ValueError.__init__"))
  hB : subIn K (.ref C) (.type "ValueError") = some true
  top : (prog.main.scope.names.lookup ("super" : Str)).isSome = false
  fok : FldOk f xs
  fn : ∃ (oc : Value) (od : Option Addr) (doc pm : Value) (an : Option Addr) (cda cc : Addr) (ct : Value) (osl : Array (Option Value)) (ccl : Value) (cdd : Option Addr) (vs : Array Value) (ccs : Array (Option Value)) (cl : Value) (cld : Option Addr) (csl : Array (Option Value)) (file : Str) (tf : Tok)
    (p1 p2 a1 a2 a3 a5 a6 q1 q2 q3 q4 : Pos) (m : Expr), SupOk f qual xs m a1 a2 a3 a5 a6 ∧ MsgOk prog f qual xs Pv m ∧
    K.lookup fI = some ⟨oc, od, .func (ksFn "__init__" qual (iA f p1 p2) (iB f m a1 a2 a3 a5 a6 q1 q2 q3 q4) (iS f xs) .none .none doc pm an (.ref cda) ct cc), osl⟩ ∧ codeIn K (.ref cda) qual = true ∧
    K.lookup cda = some ⟨ccl, cdd, .fields vs, ccs⟩ ∧ vs[2]? = some (.str file tf) ∧ ((prog.main.file : Str) == file) = true ∧ K.lookup cc = some ⟨cl, cld, .cell (some (.ref C)), csl⟩
/-- what __init__ leaves of a fresh exception at x -/
structure InitEnd (h h' : Heap) (x C dx : Addr) (f : Str) (v : Value) : Prop where
  keep : ∀ b o, b ≠ x → h.get? b = some o → h'.get? b = some o
  obj : ∃ t1, h'.get? x = some { cls := .ref C, dict := some dx, data := .fields #[.ref t1, .none, .none, .none, .bool false, .none] }
  dbig : h.objs.size ≤ dx
  dne : dx ≠ x
  ns : h'.Ns1 dx (fun y => if y = f then some v else none)
section
variable {prog : Program} {w : World} {A : Around} {R : Result → Shared → Prop} {s : Shared} {K : Frag} {mg mb : Str → Option Value} {C fI : Addr} {x : Str} {f qual : Str} {xs : List (Str × NameKind)} {Pv : L2.V → Prop}
theorem x_init (T : XTxt prog K mg x C fI f qual xs Pv) {e t0 : Addr} {xv : L2.V} {v : Value} (hPv : Pv xv) (hRv : L2.RelV xv v) (hbt : mb "str" = some (.type "str")) (X : K.In s.heap) (hg : s.heap.Ns mainGlobals mg) (hb : s.heap.Ns builtinsNs mb) (hbs : mb "super" = some (.type "super")) (hlim : s.heap.NoLimit)
    (hx : s.heap.get? e = some (excO C t0)) (hnx : K.lookup e = none) (hroom : A.depth < recursionLimit)
    (hq : ∀ h' tk dx, InitEnd s.heap h' e C dx f v → R (.ok (.ret .none)) { s with heap := h', toks := tk }) :
    codeAny (model prog w) A (.call (.ref fI) ⟨[.ref e, v], []⟩) R s := by
  obtain ⟨oc, od, doc, pm, an, cda, cc, ct, osl, ccl, cdd, vs, ccs, cl, cld, csl, file, tf, p1, p2, a1, a2, a3, a5, a6, q1, q2, q3, q4, m, ⟨pl, hsu⟩, ⟨hst, hmsg⟩, lf, hcd, lcd, hvs, hfile, lcc⟩ := T.fn
  obtain ⟨nm, q, N, bs, bm, sn, sub, ab, col, dd, k0, k1, k2, k3, k5, hC, hbm⟩ := T.cls
  have hcl : clsIn K C = some { name := nm, bases := bs, mro := .ref C :: bm, ns := N, qualname := q, hasDict := true, slotNames := sn, subclasses := sub, abstract := ab, collection := col, hasDel := false } := by unfold clsIn; rw [hC] <;> rfl
  refine ks_codeAny_call_defAt (fd := ksFn "__init__" qual (iA f p1 p2) (iB f m a1 a2 a3 a5 a6 q1 q2 q3 q4) (iS f xs) .none .none doc pm an (.ref cda) ct cc) (body := iB f m a1 a2 a3 a5 a6 q1 q2 q3 q4) (binds := [("self", .ref e), (f, v)]) hroom (X _ _ lf) rfl hlim (codeRec_of X hcd) rfl (T.fok.bd s qual p1 p2 _ doc pm an (.ref cda) ct cc (.ref e) v) ?_ ?_ (fun h₁ hns k => ?_) rfl rfl rfl
  · intro y hy
    show y.2 ≠ .cell
    have hy : y ∈ (iS f xs).names := hy
    simp only [iS, List.mem_cons] at hy
    rcases hy with rfl | rfl | rfl | rfl | hy
    · intro z; cases z
    · intro z; cases z
    · intro z; cases z
    · intro z; cases z
    · exact T.fok.nc y hy
  · intro y hy
    simp only [List.mem_cons, List.not_mem_nil, or_false] at hy
    rcases hy with rfl | rfl
    · rfl
    · exact T.fok.lf
  have X₁ : K.In h₁ := X.keeps k
  have hx₁ := k _ _ hx
  obtain ⟨oC, hD1, hD2⟩ : ∃ oD, h₁.get? C = some oD ∧ oD.data = .cls { name := nm, bases := bs, mro := .ref C :: bm, ns := N, qualname := q, hasDict := true, slotNames := sn, subclasses := sub, abstract := ab, collection := col, hasDel := false } := ⟨_, X₁ _ _ hC, rfl⟩
  have hLe : s.heap.objs.size ≠ e := Nat.ne_of_gt (Heap.lt_size hx)
  show _root_.PySem.wpAt _ _ _ (execs (_ :: _) (ksEnv qual (iS f xs) s.heap.objs.size fI (.ref cda) cc)) _ _ _
  refine ks_wpAt_execs_cons (ks_wpAt_Expr_any (ks_wpAt_MethodCall (pl := pl) ?_ (hsu _ _ _ _).1) rfl (hsu _ _ _ _).2)
  refine ks_wpAt_super_base (env := ksEnv qual (iS f xs) s.heap.objs.size fI (.ref cda) cc) T.fok.ls T.fok.lc rfl rfl (X₁ _ _ lf) rfl rfl rfl (X₁ _ _ lcd) rfl hvs hfile T.top ?_
  refine ks_loadName_global rfl T.fok.ls (loadGlobal_builtin (env := ksEnv qual (iS f xs) s.heap.objs.size fI (.ref cda) cc) (hg.keeps k) T.su (hb.keeps k) hbs ⟨rfl, ?_⟩)
  refine wpAny_loadName_free rfl T.fok.lc rfl ⟨_, X₁ _ _ lcc, rfl⟩ ?_
  refine wpAny_loadName_local rfl rfl hns (T.fok.b1 e v) ?_
  refine ks_wpAny_isType_cls hD1 hD2 ⟨rfl, ?_⟩
  refine ks_wpAny_call_super hD1 hD2 hx₁ rfl (fun c z => by cases z) (looks_mroIn X₁ T.mC) (fun h₂ e₂ k₂ => ?_)
  have X₂ : K.In h₂ := X₁.keeps k₂
  have hx₂ := k₂ _ _ hx₁
  have I₂ : InstAt h₂ e (excO C t0) C none := ⟨hx₂, rfl, rfl, trivial⟩
  have hsup := T.hm
  unfold ks_superIn at hsup
  rw [hcl, Option.bind_some] at hsup
  have hxC : e ≠ C := fun z => by rw [z] at hnx; rw [hnx] at hC; cases hC
  refine kxs_getMethod kxs_ValueError e₂ (looks_opaque X₂ T.ho) (l₀ := .ref C :: bm) ?_ rfl X₂ hsup (I₂.type.andThen (looks_subIn X₂ T.hB)) hxC rfl ?_
  · exact fun A Q E s k q => wpAny_bind ((looks_clsIn X₂ hcl) A _ E s k (wpAny_pure q))
  rw [hst]
  refine kxs_callWith (i := "ValueError.__init__") (x := e) rfl (evalArgs_plain ?_)
  refine spliced_cons ?_
  refine hmsg (e := e) hPv hRv ((hg.keeps k).keeps fun b o z => Heap.get?_push_of_some _ (k₂ b o z)) T.st ((hb.keeps k).keeps fun b o z => Heap.get?_push_of_some _ (k₂ b o z)) hbt (hns.keeps fun b o z => Heap.get?_push_of_some _ (k₂ b o z)) fun msgz msgt msgk => ?_
  refine spliced_nil ?_
  have k₃ : ∀ b o, h₂.get? b = some o → (h₂.push (kxs_mw "ValueError.__init__" e)).get? b = some o := fun b o z => Heap.get?_push_of_some _ z
  refine ⟨Heap.get?_push_at rfl rfl, ?_⟩
  refine call_mw hbm (X₂.keeps k₃ _ _ hC) (k₃ _ _ hx₂) (Heap.get?_push_at rfl rfl) (by rw [sizeLine_eq]; exact (by decide : 1 ≤ 16777216)) fun h₄ t1 k₄ hx₄ => ?_
  have kA : ∀ b o, h₁.get? b = some o → b ≠ e → h₄.get? b = some o := fun b o z n => k₄ b o n (k₃ _ _ (k₂ _ _ z))
  have kB : ∀ b o, b ≠ e → s.heap.get? b = some o → h₄.get? b = some o := fun b o n z => kA b o (k _ _ z) n
  have X₄ : K.In h₄ := fun b o z => kB b o (fun q => by rw [q, hnx] at z; cases z) (X b o z)
  have hn₄ : h₄.Ns s.heap.objs.size (fun y => ([(("self" : Str), Value.ref e), (f, v)] : List (Str × Value)).reverse.lookup y) := hns.at fun o z => kA _ _ z hLe
  show _root_.PySem.wpAt _ _ _ (execs (_ :: _) (ksEnv qual (iS f xs) s.heap.objs.size fI (.ref cda) cc)) _ _ _
  refine wpAt_of_wpAny (wpAny_execs_cons (plainObj_wpAny_Assign_Attribute ?_))
  refine wpAny_Name (wpAny_loadName_local rfl T.fok.lf hn₄ (T.fok.b2 e v) ?_) T.fok.db
  refine wpAny_Name (wpAny_loadName_local rfl rfl hn₄ (T.fok.b1 e v) ?_) rfl
  refine set_plain X₄ (ox := excO C t1) (od := none) ⟨hx₄, rfl, rfl, trivial⟩ T.sa ?_
  refine exc_osa X₄ hx₄ hcl (show refsVE (.ref C :: bm) = true from hbm) rfl T.noN (fun h₅ tk₅ dx k₅ dn dne hx₅ hn₅ => ?_)
  show wpAny _ _ (execs _ _) _ _ _
  have z : s.heap.objs.size < h₄.objs.size := hn₄.lt
  exact wpAny_execs_nil (hq h₅ tk₅ dx ⟨fun b o hb q => k₅ b o hb (kB b o hb q), ⟨t1, hx₅⟩, Nat.le_of_lt (Nat.lt_of_lt_of_le z dn), dne, hn₅⟩)
end
theorem fld_ok {f : Str} {xs : List (Str × NameKind)} (hc : ∀ y ∈ xs, y.2 ≠ .cell) (h1 : (iS f xs).names.lookup f = some .local) (h2 : (iS f xs).names.lookup ("__class__" : Str) = some .free) (h3 : (iS f xs).names.lookup ("super" : Str) = some .globalImplicit) (h4 : (("self" : Str) == f) = false) (h5 : (f == ("__debug__" : Str)) = false)
    (bd : ∀ (s : Shared) (q : Str) (p1 p2 : Pos) (body : List Stmt) (doc pm : Value) (an : Option Addr) (cd ct : Value) (cc : Addr) (a v : Value),
    BindsTo s (ksFn "__init__" q (iA f p1 p2) body (iS f xs) .none .none doc pm an cd ct cc) ⟨[a, v], []⟩ [("self", a), (f, v)]) : FldOk f xs :=
  ⟨hc, h1, h2, h3, fun x v => by simp [List.lookup, h4], fun x v => by simp [List.lookup], h5, bd⟩
theorem fld_fault : FldOk "fault" [] := fld_ok nofun (by decide +kernel) (by decide +kernel) (by decide +kernel) (by decide +kernel) (by decide +kernel) fun s q p1 p2 body doc pm an cd ct cc a v => BindsTo.of_eq (by first | rfl | with_unfolding_all rfl)
/-- the names of a message with str(..) -/
abbrev xStr : List (Str × NameKind) := [(PySem.Str.ofString "str", .globalImplicit)]
theorem fld_line : FldOk "line" xStr := fld_ok (by intro y m; cases (List.mem_singleton.mp m); intro z; cases z) (by decide +kernel) (by decide +kernel) (by decide +kernel) (by decide +kernel) (by decide +kernel) fun s q p1 p2 body doc pm an cd ct cc a v => BindsTo.of_eq (by first | rfl | with_unfolding_all rfl)
theorem msg_const {prog : Program} {f qual : Str} {xs : List (Str × NameKind)} {z : Str} {j : Nat} {p : Pos} : MsgOk prog f qual xs (fun _ => True) (.Constant (.str z) j p) := by
  refine ⟨fun _ => rfl, ?_⟩
  intro w A E s L fI cc e cd mg mb x v Q _ _ _ _ _ _ _ q
  exact wpAny_Constant_str (q _ _ _)
/-- an int that is shown quickly -/
def PInt : L2.V → Prop := fun x => ∃ i : Int, x = .int i ∧ i.natAbs.log2 < 1920 ∧ (toString i : Str).length ≤ 1000
theorem msg_int {prog : Program} {f qual : Str} {z1 z2 : Str} {j1 j2 : Nat} {p1 p2 p3 p4 p5 p6 p7 : Pos} (fok : FldOk f xStr) (h1 : z1.length ≤ 1000) (h2 : z2.length ≤ 1000) (hls : (iS f xStr).names.lookup ("str" : Str) = some .globalImplicit) :
    MsgOk prog f qual xStr PInt (.BinOp (.BinOp (.Constant (.str z1) j1 p1) .Add (.Call (.Name "str" p2) [.Name f p3] [] p4) p5) .Add (.Constant (.str z2) j2 p6) p7) := by
  refine ⟨fun _ => rfl, ?_⟩
  intro w A E s L fI cc e cd mg mb x v Q hP hR hg hgs hb hbs hns q
  obtain ⟨i, rfl, hi, hl⟩ := hP
  obtain ⟨t, rfl⟩ := hR
  refine wpAny_BinOp (wpAny_BinOp (wpAny_Constant_str ?_))
  refine wpAny_Call_Name_kw (wpAny_Name (ks_loadName_global rfl hls (loadGlobal_builtin (env := ksEnv qual (iS f xStr) L fI cd cc) (hg.keeps fun _ _ z => z) hgs (hb.keeps fun _ _ z => z) hbs ?_)) (by decide))
  refine PyProof.Rows.callWith_type1 ?_ rfl rfl
  refine spliced_cons ?_
  refine wpAny_Name (wpAny_loadName_local rfl fok.lf (hns.keeps fun _ _ z => z) (fok.b2 e _) ?_) fok.db
  refine spliced_nil ?_
  refine PySem.P.str_of_int hi ?_
  refine PyProof.Rows.add_str (fun t' tk => ?_) (by rw [sizeLine_eq]; omega)
  refine wpAny_Constant_str ?_
  refine PyProof.Rows.add_str (fun t' tk => q _ _ _) ?_
  rw [sizeLine_eq]
  have e1 : (z1 ++ (toString i : Str)).length = z1.length + (toString i : Str).length := strLen_append _ _
  rw [e1]
  omega
end PLX
/-! PL, part xc: an own error class called -/
namespace PLX
open PySem PySem.W PySem.Calls PySem.Spec PyProof.Rows PySem.HandSPX
/-- an error made of the class at C -/
structure XMade (h h' : Heap) (e C d : Addr) (f : Str) (v : Value) : Prop where
  keep : ∀ b o, h.get? b = some o → h'.get? b = some o
  new : h.objs.size ≤ e
  obj : ∃ t1, h'.get? e = some { cls := .ref C, dict := some d, data := .fields #[.ref t1, .none, .none, .none, .bool false, .none] }
  dbig : h.objs.size ≤ d
  dne : d ≠ e
  ns : h'.Ns1 d (fun y => if y = f then some v else none)
section
variable {prog : Program} {w : World} {A : Around} {R : Result → Shared → Prop} {s : Shared} {K : Frag} {mg mb : Str → Option Value} {C fI : Addr} {x : Str} {f qual : Str} {xs : List (Str × NameKind)} {Pv : L2.V → Prop}
theorem one_size (v : Value) : [v].length ≤ sizeLine := by
  rw [sizeLine_eq]
  exact (by decide : 1 ≤ 16777216)
theorem x_made (T : XTxt prog K mg x C fI f qual xs Pv) {xv : L2.V} {v : Value} (hPv : Pv xv) (hRv : L2.RelV xv v) (hbt : mb "str" = some (.type "str")) (X : K.In s.heap) (hg : s.heap.Ns mainGlobals mg) (hb : s.heap.Ns builtinsNs mb) (hbs : mb "super" = some (.type "super")) (hlim : s.heap.NoLimit) (hroom : A.depth + 1 < recursionLimit)
    (hq : ∀ h' tk e d, XMade s.heap h' e C d f v → R (.ok (.ret (.ref e))) { s with heap := h', toks := tk }) :
    codeAny (model prog w) A (.call (.ref C) ⟨[v], []⟩) R s := by
  obtain ⟨nm, q, N, bs, bm, sn, sub, ab, col, dd, k0, k1, k2, k3, k5, hC, hbm⟩ := T.cls
  obtain ⟨hp, g, dr, tk, os⟩ := s
  have k : ∀ b o, hp.get? b = some o → ((hp.push (kdv_tup [v])).push (excO C hp.objs.size)).get? b = some o := fun b o e => Heap.get?_push_of_some _ (Heap.get?_push_of_some _ e)
  have hget : ((hp.push (kdv_tup [v])).push (excO C hp.objs.size)).get? (hp.objs.size + 1) = some (excO C hp.objs.size) := by heap_get
  have hnx : K.lookup (hp.objs.size + 1) = none := by
    cases e : K.lookup (hp.objs.size + 1) with
    | none => rfl
    | some o =>
      have z : hp.get? (hp.objs.size + 1) = some o := X _ _ e
      exact absurd (Nat.lt_of_succ_lt (Heap.lt_size z)) (Nat.lt_irrefl _)
  refine call_own F.excBase_ValueError (fun X => refsVE_contains X bm hbm) (X _ _ hC) (looks_findIn X T.iC) (fun self => bind_fn X self T.tC) (one_size v) ?_
  refine x_init (s := ⟨(hp.push (kdv_tup [v])).push (excO C hp.objs.size), g, dr, tk, os⟩) T hPv hRv hbt (X.keeps k) (hg.keeps k) (hb.keeps k) hbs (hlim.keeps k) hget hnx ?_ fun h' tk' dx ⟨k', hx, dn, dne, hns⟩ => ?_
  · show A.depth + 1 < recursionLimit
    exact hroom
  · have old : ∀ b o, hp.get? b = some o → h'.get? b = some o := fun b o e => k' b o (Nat.ne_of_lt (Nat.lt_succ_of_lt (Heap.lt_size e))) (k b o e)
    have z : hp.objs.size + 1 + 1 ≤ dx := by
      first
        | (simpa only [Heap.size_push] using dn)
        | exact dn
        | (have q := dn; rw [Heap.size_push, Heap.size_push] at q; exact q)
    exact ⟨rfl, hq h' tk' (hp.objs.size + 1) dx ⟨old, Nat.le_succ _, hx, Nat.le_trans (Nat.le_trans (Nat.le_succ _) (Nat.le_succ _)) z, dne, hns⟩⟩
end
end PLX
namespace L2
open PySem PySem.Spec PyProof.Rows
section
variable {X : Cx} {C fI : Addr} {x f qual : Str} {xs : List (Str × NameKind)} {Pv : V → Prop}
theorem pmk_x {a : Expr} {ta : TA} {p pos : Pos} {k : Nat} (T : PLX.XTxt X.prog X.K X.mg x C fI f qual xs Pv) (hr : Room (k + 1) X.A) (ha : PA X [a] ta) (hg : Gl X x := by rfl) (hdb : (x == ("__debug__" : Str)) = false := by decide)
    (he : starEach (a :: []) X.env = (false, eval a X.env) :: starEach [] X.env := by rfl) (hpl : (backTo pos (starEach [] X.env)).any (·.1) = false := by rfl) :
    PMk X (.Call (.Name x p) [a] [] pos) (fun σ H Q => ta σ H fun vs H1 => ∃ v, vs = [v] ∧ Pv v ∧ ∀ d, H1 d = none → Q (.ref C) (some d) (upd H1 d (.xd [(f, v)]))) := by
  intro pins s σ H Q I h
  refine wpAny_Call_Name_kw (ld_glob I hg T.gC ?_ hdb)
  refine PySem.W.callWith_K (h₀ := X.base) I.ok.mod.kin T.kC (thn (ha.run pos pins s σ H _ I h) fun us s1 hh => ?_) he hpl
  obtain ⟨vs, H1, I1, r1, v, ev, hPv, q1⟩ := hh
  subst ev
  refine ⟨I1.kIn, ?_⟩
  cases r1 with
  | cons rv rn =>
    rename_i v' us'
    cases rn
    show wpAny _ _ (call (.ref C) [v']) _ _ _
    have hlim := I1.nolimit
    obtain ⟨mb, hb1, hb2⟩ := I1.mod.blt
    have hgl := I1.mod.glob.keeps I1.bk
    have hbl := hb1.keeps I1.bk
    obtain ⟨hp, g, dr, tk, os⟩ := s1
    refine wpAny_call (PLX.x_made T hPv rv ((hb2 _ (by decide)).trans (by decide +kernel)) I1.kIn hgl hbl ((hb2 _ (by decide)).trans (by decide +kernel)) hlim (by have := hr.dp; omega) fun h' tk' e d M => ?_)
    show MkP X pins σ Q (.ref e) ⟨h', g, dr, tk', os⟩
    obtain ⟨t1, hoe⟩ := M.obj
    have hns := M.ns
    obtain ⟨G', g1, g2⟩ := restrict h' fun b => decide (b ≠ e)
    have gk : ∀ b, b ≠ e → G'.get? b = h'.get? b := fun b hb => g1 b (decide_eq_true hb)
    have ge : G'.get? e = none := g2 e (by simp)
    have old : ∀ b o, hp.get? b = some o → G'.get? b = some o := fun b o q => (gk b (Nat.ne_of_lt (Nat.lt_of_lt_of_le (Heap.lt_size q) M.new))).trans (M.keep b o q)
    have ob : ObjOk X.prog X.w (upd H1 d (.xd [(f, v)])) G' d (.xd [(f, v)]) :=
      ⟨_, hns.at (fun o q => (gk d M.dne).trans q), fun g => relO_put (fs := []) (mA := fun _ => none) rv (fun _ => True.intro) g⟩
    have J : Inv X pins σ (upd H1 d (.xd [(f, v)])) ⟨G', g, dr, tk', os⟩ := I1.laid (t' := tk') old M.dbig ob
    refine ⟨e, _, _, ⟨G', g, dr, tk', os⟩, _, .ref C, some d, rfl, J, fun b o q => ?_, ge, hoe, ⟨rfl, rfl⟩, rfl, rfl, ?_, rfl, I1.bare, raises_own T.exC T.tyC, q1 d (I1.hok.fresh M.dbig)⟩
    · by_cases hb : b = e
      · have q' : G'.get? b = some o := q
        rw [hb, ge] at q'; cases q'
      · exact (gk b hb).symm.trans q
    · rw [upd_ne (Ne.symm M.dne)]
      exact I1.hok.fresh M.new
/-- x(a).f -/
theorem pe_mkFld {a : Expr} {te : TE} {p pos pos2 : Pos} {k : Nat} (T : PLX.XTxt X.prog X.K X.mg x C fI f qual xs Pv) (hr : Room (k + 1) X.A) (ha : PE X a te) (hg : Gl X x := by rfl) (hdb : (x == ("__debug__" : Str)) = false := by decide)
    (he : starEach (a :: []) X.env = (false, eval a X.env) :: starEach [] X.env := by rfl) (hpl : (backTo pos (starEach [] X.env)).any (·.1) = false := by rfl)
    (hb : attributeBase (.Call (.Name x p) [a] [] pos) f X.env (eval (.Call (.Name x p) [a] [] pos) X.env) = eval (.Call (.Name x p) [a] [] pos) X.env := by rfl) :
    PE X (.Attribute (.Call (.Name x p) [a] [] pos) f pos2) (fun σ H Q => te σ H fun v H1 => Pv v ∧ Q v H1) := by
  refine ⟨fun pins s σ H Q I h => ?_⟩
  have ha' : PA X [a] (tCons te tNil) := pa_cons ha pa_nil he
  refine attr_of hb ?_
  refine wpAny_Call_Name_kw (ld_glob I hg T.gC ?_ hdb)
  refine PySem.W.callWith_K (h₀ := X.base) I.ok.mod.kin T.kC (thn (ha'.run pos pins s σ H (fun vs H' => match vs with | [v] => Pv v ∧ Q v H' | _ => False) I h) fun us s1 hh => ?_) he hpl
  obtain ⟨vs, H1, I1, r1, q1⟩ := hh
  obtain ⟨v, rfl⟩ : ∃ v, vs = [v] := by
    match vs, q1 with
    | [v], _ => exact ⟨v, rfl⟩
  obtain ⟨hPv, q1⟩ : Pv v ∧ Q v H1 := q1
  refine ⟨I1.kIn, ?_⟩
  cases r1 with
  | cons rv rn =>
    rename_i v' us'
    cases rn
    show wpAny _ _ (call (.ref C) [v']) _ _ _
    have hlim := I1.nolimit
    obtain ⟨mb, hb1, hb2⟩ := I1.mod.blt
    have hgl := I1.mod.glob.keeps I1.bk
    have hbl := hb1.keeps I1.bk
    obtain ⟨hp, g, dr, tk, os⟩ := s1
    refine wpAny_call (PLX.x_made T hPv rv ((hb2 _ (by decide)).trans (by decide +kernel)) I1.kIn hgl hbl ((hb2 _ (by decide)).trans (by decide +kernel)) hlim (by have := hr.dp; omega) fun h' tk' e d M => ?_)
    obtain ⟨t1, hoe⟩ := M.obj
    have J : Inv X pins σ H1 ⟨h', g, dr, tk', os⟩ := I1.kept (t' := tk') M.keep
    obtain ⟨od, ho, hl⟩ := lookIn_ns M.ns
    have IA : PySem.W.InstAt h' e { cls := .ref C, dict := some d, data := .fields #[.ref t1, .none, .none, .none, .bool false, .none] } C (some od) := ⟨hoe, rfl, rfl, ho⟩
    exact HandSPX.exc_get (s := ⟨h', g, dr, tk', os⟩) J.kIn IA T.ga T.gg T.exC (PySem.W.findObj_own T.hdC T.noN rfl (by rw [hl, if_pos rfl])) (handed_of rv) ⟨v, H1, J.tok _, rv, q1⟩
end
end L2
/-! PL, part h: exceptions. -/
namespace PL
open PySem PySem.Spec PyProof.Rows L2
theorem bt_ValueError : bootBuiltins "ValueError" = some (.type "ValueError") := by decide +kernel
/-! ### raise -/
/-- raise x(e), x's only field f; c: for which values the message can be made -/
def sRaiseP (c : PV → Bool) (x f : Str) (fe : EM) : SM := fun env st => sOf (fe env st) env fun v st1 => if c v = true then .err env x (some [(f, v)]) st1 else .stuck
def cAny : PV → Bool := fun _ => true
def cInt : PV → Bool
  | .int i => decide (i.natAbs.log2 < 1920 ∧ (toString i : Str).length ≤ 1000)
  | _ => false
abbrev sRaise (x f : Str) (fe : EM) : SM := sRaiseP cAny x f fe
def CondOk (c : PV → Bool) (Pv : V → Prop) : Prop := ∀ (K : PySem.W.Frag) (ω : Wo) (v : PV) (y : V), c v = true → Rep K ω v y → Pv y
theorem cond_any : CondOk cAny (fun _ => True) := fun _ _ _ _ _ _ => trivial
theorem cond_int : CondOk cInt PLX.PInt := fun K ω v y h r => by
  cases v with
  | int i => cases r; have h : decide (i.natAbs.log2 < 1920 ∧ (toString i : Str).length ≤ 1000) = true := h; exact ⟨i, rfl, of_decide_eq_true h⟩
  | _ => cases h
section
variable {X : Cx} {W : WX} {C fI : Addr} {x f qual : Str} {a : Expr} {fe : EM} {p pos pos2 : Pos} {k : Nat} {xs : List (Str × NameKind)} {Pv : V → Prop} {c : PV → Bool}
theorem ms_raise (hP : CondOk c Pv) (hc : X.calm = true) (tk : Takes X W) (T : PLX.XTxt X.prog X.K X.mg x C fI f qual xs Pv) (hr : Room (k + 1) X.A) (ha : ME X W a fe) (hg : Gl X x := by rfl) (hdb : (x == ("__debug__" : Str)) = false := by decide)
    (he : starEach (a :: []) X.env = (false, eval a X.env) :: starEach [] X.env := by rfl) (hpl : (backTo pos (starEach [] X.env)).any (·.1) = false := by rfl) :
    MS X W (.Raise (some (.Call (.Name x p) [a] [] pos)) none pos2) (sRaiseP c x f fe) := by
  refine psI (ps_raise hc tk (pmk_x T hr (pa_cons ha pa_nil he) hg hdb he hpl)) ?_
  rintro D σ H ⟨ω, st, env, wd, re, h⟩
  refine ⟨ω, st, env, wd, re, (h.bind (Rel := RV X.K) re).mono ?_⟩
  rintro y H1 ⟨ω1, st1, v, e1, wd1, r1, h1⟩
  by_cases hcv : c v = true
  · rw [if_pos hcv] at h1
    refine ⟨y, rfl, hP _ _ _ _ hcv r1, fun d hd => ?_⟩
    have nF : ω1.F d = none := wd1.fresh hd
    have nρ : d ∉ ω1.ρ := fun m => by
      obtain ⟨u, q⟩ := wd1.there m
      rw [hd] at q; cases q
    have x1 : Ext ω1 H1 ω1 (upd H1 d (.xd [(f, y)])) := by
      refine ⟨.refl _, fun b o e _ => ?_, fun b z => ?_, fun b z => .inl z, fun b m => .inl m, fun b od u e => by rw [upd_ne (ne_of_none e hd)]; exact e⟩
      · rw [upd_ne (ne_of_none e hd)]; exact e
      · by_cases hb : b = d
        · subst hb; rw [upd_same]; simp
        · rw [upd_ne hb]; exact z
    exact h1 ω1 _ σ (some d) (.ref C) x1 (wd1.other nF nρ) (re.mono e1.le) T.gC ⟨d, _, rfl, hd, upd_same, nF, nρ, rfl, .cons r1 .nil⟩
  · rw [if_neg hcv] at h1
    exact False.elim h1
/-- x(e).f -/
theorem me_mkFld (T : PLX.XTxt X.prog X.K X.mg x C fI f qual xs fun _ => True) (hr : Room (k + 1) X.A) (ha : ME X W a fe) (hg : Gl X x := by rfl) (hdb : (x == ("__debug__" : Str)) = false := by decide)
    (he : starEach (a :: []) X.env = (false, eval a X.env) :: starEach [] X.env := by rfl) (hpl : (backTo pos (starEach [] X.env)).any (·.1) = false := by rfl)
    (hb : attributeBase (.Call (.Name x p) [a] [] pos) f X.env (eval (.Call (.Name x p) [a] [] pos) X.env) = eval (.Call (.Name x p) [a] [] pos) X.env := by rfl) :
    ME X W (.Attribute (.Call (.Name x p) [a] [] pos) f pos2) fe := peI (pe_mkFld T hr ha hg hdb he hpl hb) fun σ H Q ⟨ω, st, env, wd, re, h⟩ => ⟨ω, st, env, wd, re, h.mono fun _ _ q => ⟨trivial, q⟩⟩
end
/-! ### defs that raise -/
section
variable {P : Program} {w : World} {K : PySem.W.Frag} {mg : Str → Option Value} {base : Heap}
theorem okPX {x qual : Str} {st : Stmt} {f : Addr} {fd : FuncData} {N ps : List Str} {k : Nat} {fm : SM} (F : Fun K x qual st f fd) (S : FnScope N ps (defScope st))
    (hbody : ∀ (cdv : Value) (A : Around) (outer : List Env) (s : Shared) (H : Hp) (E : XK), Room k (A.deeper (envOfC qual (defScope st) s.heap.objs.size f cdv)) →
      MB (cxOf (L2.CX P w) P w K mg base N qual (defScope st) f cdv A outer s H E) (fun cls d _ H => E cls d H) (defBody st) fm) :
    FnOk P w K mg base (L2.CX P w) (k + 1) f fd ps (spP ⟨K, mg⟩ ps.length (runBody N.length fm)) := by
  refine F.okX S (fun vs H Q E h => spP_len h) fun cdv A outer s H vs Q E hr h => ⟨_, hbody cdv A outer s H E hr, ?_⟩
  have hl := spP_len h
  obtain ⟨ω, s0, args, wd, r, h⟩ := h
  unfold guardN at h
  rw [if_pos (by rw [r.length]; exact hl)] at h
  refine ⟨ω, s0, args.map some ++ List.replicate (N.length - args.length) none, wd, ?_, ?_⟩
  · unfold L2.start
    rw [r.length]
    exact r.rep_append _
  · have h : After ⟨K, mg⟩ E ω H (runBody N.length fm args s0) (RV K) Q := h
    unfold runBody at h
    split at h
    · rename_i q; rw [q]
      exact fun ω' H' σ' x w r => h ω' H' .non x w .non
    · rename_i q; rw [q]
      exact fun ω' H' y x w r => h ω' H' y x w r
    · rename_i q; rw [q]
      exact fun ω' H' σ' d cls x w r m y => h ω' H' d cls x w m y
    · exact False.elim h
structure HasX (P : Program) (w : World) (K : PySem.W.Frag) (mg : Str → Option Value) (base : Heap) (x : Str) (ps : List Str) (k : Nat) (m : List PV → Store → Res PV) : Prop where
  ex : ∃ f fd, FnOk P w K mg base (L2.CX P w) k f fd ps (spP ⟨K, mg⟩ ps.length m) ∧ mg x = some (.ref f) ∧ PySem.W.keepIn K (.ref f) = true ∧ Binds K fd ps [] ∧ FdAt K f fd
theorem hasX_of {x : Str} {st : Stmt} {N ps : List Str} {k : Nat} {fm : SM} (d : DefOf K mg x st ps) (S : FnScope N ps (defScope st))
    (hbody : ∀ {f : Addr} (cdv : Value) (A : Around) (outer : List Env) (s : Shared) (H : Hp) (E : XK), Room k (A.deeper (envOfC x (defScope st) s.heap.objs.size f cdv)) →
      MB (cxOf (L2.CX P w) P w K mg base N x (defScope st) f cdv A outer s H E) (fun cls d _ H => E cls d H) (defBody st) fm) : HasX P w K mg base x ps (k + 1) (runBody N.length fm) := by
  obtain ⟨f, fd, F, hm, hb⟩ := d.ex
  exact ⟨f, fd, okPX F S fun cdv A outer s H E hr => hbody cdv A outer s H E hr, hm, F.kp, hb, .of F⟩
end
/-- a call of a def that may raise -/
def eCallX (n : Nat) (m : List PV → Store → Res PV) (fs : AM) : EM := eArgs (guardN n m) fs
section
variable {X : Cx} {W : WX} {x : Str} {p pos : Pos} {e : Expr} {es : List Expr} {fs : AM} {ps : List Str} {k : Nat} {m : List PV → Store → Res PV}
theorem me_callX {n : Nat} (tk : Takes X W) (h : HasX X.prog X.w X.K X.mg X.base x ps k m) (hr : Room k X.A) (ha : MA X W (e :: es) fs) (hn : ps.length = n := by rfl) (hg : Gl X x := by rfl) (hdb : (x == ("__debug__" : Str)) = false := by decide)
    (he : starEach (e :: es) X.env = (false, eval e X.env) :: starEach es X.env := by rfl) (hpl : (backTo pos (starEach es X.env)).any (·.1) = false := by rfl) :
    ME X W (.Call (.Name x p) (e :: es) [] pos) (eCallX n m fs) := by
  subst hn
  obtain ⟨f, fd, F, hm, hk, hb, _⟩ := h.ex
  refine peI (pe_callS F hr hg hm hk hb (fun σ => passAt tk σ) ha hdb he hpl) ?_
  rintro σ H Q ⟨ω, st, env, wd, re, h⟩
  refine ⟨ω, st, env, wd, re, (After.bind (Rel := RL X.K) h).mono ?_⟩
  rintro xs H1 ⟨ω1, st1, vs, e1, wd1, r1, h1⟩
  exact ⟨ω1, st1, vs, wd1, r1, h1⟩
end
/-! ### try .. except x as n -/
def unsetR (i : Nat) : SR → SR
  | .nx env st => .nx (env.set i none) st
  | .bk env st => .bk (env.set i none) st
  | .ct env st => .ct (env.set i none) st
  | .rt v st => .rt v st
  | _ => .stuck
open Classical in
/-- what the suite does, whatever the addresses of the error and of its dict -/
noncomputable def anyAd (r : Nat → Nat → SR) : SR := if ∀ a d, r a d = r 0 0 then r 0 0 else .stuck
noncomputable def sTry (i : Nat) (x : Str) (fb : SM) (fs : Nat → Nat → SM) : SM := fun env st => match fb env st with
  | .err env' n (some fl) st' => if n = x then anyAd fun a d => unsetR i (fs a d (env'.set i (some (.exc a d (fl.map (·.1)) (fl.map (·.2))))) st') else .stuck
  | .err _ _ none _ => .stuck
  | r => r
theorem Wd.freezeX {K : PySem.W.Frag} {ω₀ ω : Wo} {H₀ H : Hp} {p : Addr} {o : HO} (x : Ext ω₀ H₀ ω H) (n0 : H₀ p = none) (e : H p = some o) (nF : ω.F p = none) : Ext ω₀ H₀ (ω.fz p o) H := by
  refine ⟨x.le.trans (Wo.fz_le nF), x.oth, x.live, fun b z => ?_, x.nρ, x.fr⟩
  by_cases hb : b = p
  · subst hb; exact .inr n0
  · have z : upd ω.F p o b ≠ none := z
    rw [upd_ne hb] at z
    exact x.nF b z
section
variable {X : Cx} {W : WX} {x n : Str} {C : Addr} {i : Nat} {body suite : List Stmt} {b₀ : Stmt} {np pos pos' : Pos} {fb : SM} {fs : Nat → Nat → SM}
theorem ms_try (hs : X.stack = X.env :: X.outer) (hf : X.env.frame = some X.env.locals) (hN : X.N.Nodup) (hi : X.N[i]? = some n) (hln : X.env.kindOf n = some .local) (hc : Names X x (.ref C)) (hm : X.mg x = some (.ref C)) (hte : PySem.W.exmOne X.K (.ref C) (.ref C) = some true)
    (hb : ∀ (W : WX) (pn : List (Addr × Obj)) (xe : Value → Shared → Prop), Takes (X.tr pn xe) W → MB (X.tr pn xe) W body fb)
    (hsu : ∀ (a : Addr) (oe : Obj) (d : Addr) (pn : List (Addr × Obj)), Zc (.ref C) (some d) oe → (∃ vs, oe.data = .fields vs) → MB (X.suite a ((a, oe) :: pn)) W0 (b₀ :: suite) (fs a d)) :
    MS X W (.Try body [.ExceptHandler (some (.Name x np)) (some n) (b₀ :: suite) pos'] [] [] pos) (sTry i x fb fs) := by
  refine psI (ps_try_as (tb := fun W => tS X W fb) (ts := fun a cls d D σ H => ∃ dd : Addr, cls = .ref C ∧ d = some dd ∧ tS X W0 (fs a dd) D σ H) (Wout := fun _ _ _ _ => False) hs hf hN hi hln hc takes0
    (fun W pn xe tk _ => hb W pn xe tk) (fun a oe cls d pn hz hf => ⟨fun pins s σ H D I h => ?_⟩)) ?_
  · obtain ⟨dd, rfl, rfl, h⟩ := h
    exact (hsu a oe dd pn hz hf).run pins s σ H D I h
  rintro D σ H ⟨ω, st, env, wd, re, h⟩
  refine ⟨ω, st, env, wd, re, ?_⟩
  unfold sTry at h
  split at h
  · rename_i env' n' fl st' q
    rw [q]
    split at h
    · rename_i en
      subst en
      unfold anyAd at h
      split at h
      · rename_i all
        intro ω' H' σ' d cls x1 w1 r1 m1 xr
        rw [hm] at m1
        cases m1
        obtain ⟨p, vs, rfl, n0, ep, nF, nρ, ens, rv⟩ := xr
        refine ⟨true, hte, fun _ a na => ⟨p, rfl, rfl, ω'.fz p (.xd vs), st', env'.set i (some (.exc a p (fl.map (·.1)) (fl.map (·.2)))), w1.freeze ep nF nρ, ?_, ?_⟩, fun z => nomatch z⟩
        · have le := Wo.fz_le (o := .xd vs) nF
          exact (r1.mono le).set (.exc upd_same ens.symm (rv.mono le)) i
        · have h : AfterS X W ω H (unsetR i (fs a p (env'.set i (some (.exc a p (fl.map (·.1)) (fl.map (·.2))))) st')) D := by
            have e := all a p
            dsimp only at e
            rw [e]
            exact h
          have x2 := Wd.freezeX (K := X.K) x1 n0 ep nF
          cases q2 : fs a p (env'.set i (some (.exc a p (fl.map (·.1)) (fl.map (·.2))))) st' with
          | nx e2 s2 => rw [q2] at h; exact fun ω3 H3 σ3 x w r => h ω3 H3 (σ3.set i none) (x2.trans x) w (r.unset i)
          | bk e2 s2 => rw [q2] at h; exact fun ω3 H3 σ3 x w r => h ω3 H3 (σ3.set i none) (x2.trans x) w (r.unset i)
          | ct e2 s2 => rw [q2] at h; exact fun ω3 H3 σ3 x w r => h ω3 H3 (σ3.set i none) (x2.trans x) w (r.unset i)
          | rt v s2 => rw [q2] at h; exact fun ω3 H3 y x w r => h ω3 H3 y (x2.trans x) w r
          | err e2 n2 f2 s2 => rw [q2] at h; exact False.elim h
          | stuck => rw [q2] at h; exact False.elim h
      · exact False.elim h
    · exact False.elim h
  · exact False.elim h
  · rename_i r q1 q2
    cases q3 : fb env st with
    | nx e2 s2 => rw [q3] at h; exact h
    | bk e2 s2 => rw [q3] at h; exact h
    | ct e2 s2 => rw [q3] at h; exact h
    | rt v s2 => rw [q3] at h; exact h
    | err e2 n2 f2 s2 =>
      cases f2 with
      | none => exact absurd q3 (q2 _ _ _)
      | some fl => exact absurd q3 (q1 _ _ _ _)
    | stuck => rw [q3] at h; exact False.elim h
end
/-! ### within the suite: isinstance(e, ..), e.f -/
def eIsE (a d : Nat) (b : Bool) (fe : EM) : EM := fun env st => (fe env st).bind fun v st1 => match v with
  | .exc a' d' _ _ => if a' = a ∧ d' = d then .ok (.bl b) st1 else .stuck
  | _ => .stuck
def eXf (a d : Nat) (f : Str) (fe : EM) : EM := fun env st => (fe env st).bind fun v st1 => match v with
  | .exc a' d' ns xs => if a' = a ∧ d' = d then match (ns.zip xs).lookup f with
    | some y => .ok y st1
    | none => .stuck
    else .stuck
  | _ => .stuck
/-- what isinstance asks of the error's class -/
structure IsC (K : PySem.W.Frag) (C : Addr) : Prop where
  hcl : (PySem.W.clsIn K C).isSome = true
  hg : PySem.W.findIn K (.ref C) "__getattribute__" = some (some (.builtin "BaseException.__getattribute__"))
  hk : PySem.W.findIn K (.ref C) "__getattr__" = some none
  hs : PySem.W.subIn K (.ref C) (.type "BaseException") = some true
  ha : PySem.W.findIn K (.ref C) "__class__" = some (some (.builtin "object.__class__"))
  hn : PySem.W.specialIn K (.builtin "object.__class__") "__get__" = some (some (.builtin "getset_descriptor.__get__"))
  ht : PySem.W.takesIn K (.builtin "object.__class__") = some true
  hm : PySem.W.mroIn K C (.type "object") = some true
def rIsD (K : PySem.W.Frag) (C a d : Addr) : List V → Hp → VK → Prop := fun xs H Q => ∃ (c : V) (cv : Value) (b : Bool) (fs : List (Str × V)), xs = [.ref a, c] ∧ H d = some (.xd fs) ∧ (∀ u, RelV c u → u = cv) ∧ PySem.W.kitOne K (.ref C) cv = some b ∧ Q (.bl b) H
def rIsDT (K : PySem.W.Frag) (C a d : Addr) : List V → Hp → VK → Prop := fun xs H Q => ∃ (tp : Addr) (cs : List V) (ws : List Value) (b : Bool) (fs : List (Str × V)), xs = [.ref a, .ref tp] ∧ H d = some (.xd fs) ∧ H tp = some (.tup cs) ∧ (∀ us, Vals cs us → us = ws) ∧ PySem.W.kitAny K (.ref C) ws = some b ∧ Q (.bl b) H
section
variable {X : Cx} {a d C : Addr} {oe : Obj} {pn : List (Addr × Obj)}
theorem inst_of {pins : List (Addr × Obj)} {σ : L2.St} {H : Hp} {s : Shared} (hz : Zc (.ref C) (some d) oe) (hf : ∃ vs, oe.data = .fields vs) (I : Inv (X.suite a ((a, oe) :: pn)) pins σ H s) {fs : List (Str × V)} (e : H d = some (.xd fs)) : ∃ od, PySem.W.InstAt s.heap a oe C (some od) := by
  obtain ⟨hget, _⟩ := I.pin (a, oe) (List.mem_append.mpr (.inl List.mem_cons_self))
  obtain ⟨vs, hv⟩ := hf
  have hx : ObjOk X.prog X.w H s.heap d (.xd fs) := I.hok d _ e
  obtain ⟨mA, hns, hr⟩ := hx
  obtain ⟨od, ho, hl⟩ := lookIn_ns hns
  exact ⟨od, hget, hz.1, by unfold PySem.W.notCls; rw [hv] <;> rfl, by rw [hz.2]; exact ho⟩
theorem call_isD (T : IsC X.K C) (hz : Zc (.ref C) (some d) oe) (hf : ∃ vs, oe.data = .fields vs) : CallR (X.suite a ((a, oe) :: pn)) (.builtin "isinstance") (rIsD X.K C a d) := by
  intro pins s σ H xs us Q I r h
  obtain ⟨c, cv, b, fs, rfl, ed, hcv, e, q⟩ := h
  obtain ⟨u1, u2, rfl, r1, r2⟩ := vals2 r
  cases (show u1 = Value.ref a from r1)
  have ec := hcv _ r2
  subst ec
  obtain ⟨od, J⟩ := inst_of hz hf I ed
  exact PySem.W.kia_one (PySem.W.kitx_exc T.hcl T.hg T.hk T.hs T.ha T.hn T.ht T.hm) I.kIn J e (fun z => nomatch z) fun tk => ⟨.bl b, H, I.kept (t' := tk) fun _ _ z => z, rfl, q⟩
theorem call_isDT (T : IsC X.K C) (hz : Zc (.ref C) (some d) oe) (hf : ∃ vs, oe.data = .fields vs) : CallR (X.suite a ((a, oe) :: pn)) (.builtin "isinstance") (rIsDT X.K C a d) := by
  intro pins s σ H xs us Q I r h
  obtain ⟨tp, cs, ws, b, fs, rfl, ed, hT, hws, e, q⟩ := h
  obtain ⟨u1, u2, rfl, r1, r2⟩ := vals2 r
  cases (show u1 = Value.ref a from r1)
  cases (show u2 = Value.ref tp from r2)
  obtain ⟨od, J⟩ := inst_of hz hf I ed
  obtain ⟨_, its, rv, o, h1, h2, n, h3⟩ := (show ObjOk X.prog X.w H s.heap tp (.tup cs) from I.hok tp _ hT)
  have e3 := hws _ rv
  subst e3
  obtain ⟨oc, od', dt, sl⟩ := o
  simp only at h2 h3
  subst h2 h3
  exact PySem.W.kia_tup (PySem.W.kitx_exc T.hcl T.hg T.hk T.hs T.ha T.hn T.ht T.hm) I.kIn J h1 e (fun z => nomatch z) fun tk => ⟨.bl b, H, I.kept (t' := tk) fun _ _ z => z, rfl, q⟩
end
theorem lookup_rep {K : PySem.W.Frag} {ω : Wo} {f : Str} : ∀ {fs : List (Str × V)} {xs : List PV} {y : PV}, Reps K ω xs (fs.map (·.2)) → ((fs.map (·.1)).zip xs).lookup f = some y → ∃ v, fs.lookup f = some v ∧ Rep K ω y v
  | [], _, y, .nil, e => by simp at e
  | (g, v) :: fs, _, y, .cons r t, e => by
    simp only [List.map_cons, List.zip_cons_cons, List.lookup_cons] at e ⊢
    by_cases h : (f == g) = true
    · rw [h] at e ⊢
      simp only [Option.some.injEq] at e
      subst e
      exact ⟨v, rfl, r⟩
    · have h : (f == g) = false := by simpa using h
      rw [h] at e ⊢
      exact lookup_rep t e
section
variable {X : Cx} {W : WX} {a d C : Addr} {oe : Obj} {pn : List (Addr × Obj)} {e : Expr} {fe : EM} {y : Str} {p p2 pos : Pos} {b : Bool}
theorem me_isE {u : Value} {v : V} (T : IsC X.K C) (hz : Zc (.ref C) (some d) oe) (hf : ∃ vs, oe.data = .fields vs) (hi : X.mg "isinstance" = none) (hv : bootBuiltins "isinstance" = some (.builtin "isinstance"))
    (hk : PySem.W.kitOne X.K (.ref C) u = some b) (hR : ∀ u', RelV v u' → u' = u) {c : Expr} (hcl : ∀ W, ME (X.suite a ((a, oe) :: pn)) W c (eC (.con v))) (he : ME (X.suite a ((a, oe) :: pn)) W e fe) (hg : Gl (X.suite a ((a, oe) :: pn)) "isinstance" := by rfl)
    (hs1 : starEach (e :: [c]) X.env = (false, eval e X.env) :: starEach [c] X.env := by rfl) (hs2 : starEach (c :: []) X.env = (false, eval c X.env) :: starEach [] X.env := by rfl) (hpl : (backTo pos (starEach [c] X.env)).any (·.1) = false := by rfl) :
    ME (X.suite a ((a, oe) :: pn)) W (.Call (.Name "isinstance" p) [e, c] [] pos) (eIsE a d b fe) := by
  refine peI (pe_callB (call_isD T hz hf) hg hi hv (pa_cons he (pa_cons (hcl W) pa_nil hs2) hs1) (by decide) (by decide) hs1 hpl) ?_
  rintro σ H Q ⟨ω, st, env, wd, re, h⟩
  refine ⟨ω, st, env, wd, re, (After.bind (Rel := RV X.K) h).mono ?_⟩
  rintro x H1 ⟨ω1, st1, pv, e1, wd1, r1, h1⟩
  split at h1
  · rename_i a' d' ns xs
    split at h1
    · rename_i hh
      obtain ⟨rfl, rfl⟩ := hh
      cases r1 with
      | exc ed en rr =>
        rename_i fs
        refine ⟨ω1, st1, env, wd1, re.mono e1.le, ?_⟩
        intro ω2 H2 z e2 wd2 r2
        cases r2
        exact ⟨v, u, b, fs, rfl, wd2.sub _ _ (e2.le.fz _ _ ed), hR, hk, After.shift h1 e2 ω2 H2 (.bl b) (.refl _ _) wd2 (.bl b)⟩
    · exact False.elim h1
  · exact False.elim h1
theorem vals_refs : ∀ {as : List Addr} {us : List Value}, Vals (as.map V.ref) us → us = as.map Value.ref
  | [], _, r => by cases r; rfl
  | a :: as, _, r => by
    cases r with
    | cons r t =>
      rename_i u us
      have e : u = Value.ref a := r
      rw [e, vals_refs t]
      rfl
/-- names of classes as a tuple's items -/
def aCs (cs : List V) : AM := fun _ st => .ok (cs.map .con) st
theorem ma_cs_nil {X : Cx} {W : WX} : MA X W [] (aCs []) := paI pa_nil fun σ H Q ⟨ω, st, env, wd, re, h⟩ => h.ok_here wd .nil
theorem ma_cs_cons {X : Cx} {W : WX} {v : V} {cs : List V} {es : List Expr} {u : Value} (hg : Gl X y) (hm : X.mg y = some u) (r : RelV v u) (t : MA X W es (aCs cs)) (hd : (y == ("__debug__" : Str)) = false := by decide)
    (hs : starEach (.Name y pos :: es) X.env = (false, eval (.Name y pos) X.env) :: starEach es X.env := by rfl) : MA X W (.Name y pos :: es) (aCs (v :: cs)) := by
  refine paI (pa_cons (pe_glob (pos := pos) hg hm r hd) t hs) ?_
  rintro σ H Q ⟨ω, st, env, wd, re, h⟩
  refine ⟨ω, st, env, wd, re, fun ω1 H1 xs e1 w1 r1 => ?_⟩
  exact h ω1 H1 (v :: xs) e1 w1 (.cons (.con v) r1)
theorem me_isET {es : List Expr} {cs : List V} {us : List Value} {k2 : Nat} (T : IsC X.K C) (hz : Zc (.ref C) (some d) oe) (hf : ∃ vs, oe.data = .fields vs) (hi : X.mg "isinstance" = none) (hv : bootBuiltins "isinstance" = some (.builtin "isinstance"))
    (hk : PySem.W.kitAny X.K (.ref C) us = some b) (hR : ∀ us', Vals cs us' → us' = us) (hlen : cs.length ≤ 1000) (hcl : ∀ W, MA (X.suite a ((a, oe) :: pn)) W es (aCs cs)) (he : ME (X.suite a ((a, oe) :: pn)) W e fe) (hg : Gl (X.suite a ((a, oe) :: pn)) "isinstance" := by rfl)
    (hs1 : starEach (e :: [.Tuple es k2 p2]) X.env = (false, eval e X.env) :: starEach [.Tuple es k2 p2] X.env := by rfl) (hs2 : starEach (.Tuple es k2 p2 :: []) X.env = (false, eval (.Tuple es k2 p2) X.env) :: starEach [] X.env := by rfl) (hpl : (backTo pos (starEach [.Tuple es k2 p2] X.env)).any (·.1) = false := by rfl) :
    ME (X.suite a ((a, oe) :: pn)) W (.Call (.Name "isinstance" p) [e, .Tuple es k2 p2] [] pos) (eIsE a d b fe) := by
  refine peI (pe_callB (call_isDT T hz hf) hg hi hv (pa_cons he (pa_cons (pe_tup (hcl W)) pa_nil hs2) hs1) (by decide) (by decide) hs1 hpl) ?_
  rintro σ H Q ⟨ω, st, env, wd, re, h⟩
  refine ⟨ω, st, env, wd, re, (After.bind (Rel := RV X.K) h).mono ?_⟩
  rintro x H1 ⟨ω1, st1, pv, e1, wd1, r1, h1⟩
  split at h1
  · rename_i a' d' ns xs
    split at h1
    · rename_i hh
      obtain ⟨rfl, rfl⟩ := hh
      cases r1 with
      | exc ed en rr =>
        rename_i fs
        refine ⟨ω1, st1, env, wd1, re.mono e1.le, ?_⟩
        intro ω2 H2 zs e2 wd2 r2
        have ez : ∀ {cs : List V} {zs : List V}, Reps X.K ω2 (cs.map .con) zs → zs = cs := by
          intro cs
          induction cs with
          | nil => intro zs r; cases r; rfl
          | cons c cs ih => intro zs r; cases r with
            | cons r t => cases r; rw [ih t]
        have ez := ez r2
        subst ez
        refine ⟨by rw [sizeLine_eq]; omega, fun tp htp => ?_⟩
        obtain ⟨w3, x3⟩ := wd2.fz htp (.tup zs)
        have x23 := e2.trans x3
        exact ⟨tp, zs, us, b, fs, rfl, w3.sub _ _ (x23.le.fz _ _ ed), upd_same, hR, hk, After.shift h1 x23 _ _ (.bl b) (.refl _ _) w3 (.bl b)⟩
    · exact False.elim h1
  · exact False.elim h1
theorem me_xf {f : Str} (T : XfC X.K C) (hno : PySem.W.findIn X.K (.ref C) f = some none) (hz : Zc (.ref C) (some d) oe) (hf : ∃ vs, oe.data = .fields vs) (he : ME (X.suite a ((a, oe) :: pn)) W e fe)
    (hb : attributeBase e f X.env (eval e X.env) = eval e X.env := by rfl) : ME (X.suite a ((a, oe) :: pn)) W (.Attribute e f pos) (eXf a d f fe) := by
  refine peI (pe_xf T hno hz hf he hb) ?_
  rintro σ H Q ⟨ω, st, env, wd, re, h⟩
  refine ⟨ω, st, env, wd, re, (After.bind (Rel := RV X.K) h).mono ?_⟩
  rintro x H1 ⟨ω1, st1, pv, e1, wd1, r1, h1⟩
  split at h1
  · rename_i a' d' ns xs
    split at h1
    · rename_i hh
      obtain ⟨rfl, rfl⟩ := hh
      split at h1
      · rename_i yv q
        cases r1 with
        | exc ed en rr =>
          rename_i fs
          subst en
          obtain ⟨v, lv, rv⟩ := lookup_rep rr q
          exact ⟨rfl, rfl, d', fs, v, rfl, wd1.sub _ _ ed, lv, h1.ok_here wd1 rv⟩
      · exact False.elim h1
    · exact False.elim h1
  · exact False.elim h1
end
end PL
/-! PL, the end: from a law's evaluator to the law. -/
namespace PL
open PySem PySem.Spec PyProof.Rows L2
theorem defOf_mk {K : PySem.W.Frag} {h : Heap} {mg : Str → Option Value} {x : Str} {st : Stmt} {ps : List Str} {f : Addr} {od an : Option Addr} {sl : Array (Option Value)} {oc kV dc pm cd ct : Value} (X : K.In h) (G : h.Ns mainGlobals mg)
    (a : PySem.W.nsIn K mainGlobals x = some (some (.ref f))) (l : K.lookup f = some ⟨oc, od, .func (PySem.W.fnOf x x (defArgs st) (defBody st) (defScope st) .none kV dc pm an cd ct), sl⟩) (c : PySem.W.codeIn K cd x = true) (k : PySem.W.keepIn K (.ref f) = true)
    (hb : ∀ (kV doc pm : Value) (an : Option Addr) (cdv ct : Value) (us : List Value), us.length = ps.length → bindArgs (PySem.W.fnOf x x (defArgs st) (defBody st) (defScope st) .none kV doc pm an cdv ct) ⟨us, []⟩ = pure (ps.zip us)) : DefOf K mg x st ps := by
  have F := fun_mk (st := st) l c k
  exact ⟨_, _, F, PySem.W.mg_of X G a, F.binds hb⟩
/-- a law's promise: for every script -/
def spScr (K : PySem.W.Frag) (m : List PV → Store → Res PV) : Sp := fun vs H Q _ => ∃ (a : Addr) (ns : List Int), vs = [.ref a] ∧ SqL K H a (ns.map V.int) ∧ ns.length ≤ 63 ∧ ∀ H', Q (.bl true) H'
theorem reps_int {K : PySem.W.Frag} {ω : Wo} : ∀ ns : List Int, Reps K ω (ns.map PV.int) (ns.map V.int)
  | [] => .nil
  | n :: ns => .cons (.int n) (reps_int ns)
theorem FnOk_scr {P : Program} {w : World} {K : PySem.W.Frag} {mg : Str → Option Value} {base : Heap} {k : Nat} {f : Addr} {fd : FuncData} {m : List PV → Store → Res PV} (F : FnOk P w K mg base CX0 k f fd ["script"] (spP ⟨K, mg⟩ 1 (nE m)))
    (hm : ∀ ns : List Int, ns.length ≤ 63 → ∃ s, m [.frz (ns.map .int)] [] = .ok (.bl true) s) : FnOk P w K mg base CX0 k f fd ["script"] (spScr K m) := by
  have i : ∀ vs H Q E, spScr K m vs H Q E → spP ⟨K, mg⟩ 1 (nE m) vs H Q E := by
    rintro vs H Q E ⟨a, ns, rfl, hS, hl, hQ⟩
    obtain ⟨s, e⟩ := hm ns hl
    refine ⟨⟨H, []⟩, [], [.frz (ns.map .int)], ⟨Same.refl _, rfl, List.nodup_nil, fun a m => by simp at m, fun l a o e => by simp at e⟩, .cons (.frz hS (reps_int ns)) .nil, ?_⟩
    show After _ E _ H (guardN 1 (nE m) [.frz (ns.map .int)] []) _ Q
    unfold guardN
    rw [if_pos (show ([PV.frz (ns.map .int)] : List PV).length = 1 from rfl)]
    show After _ E _ H (noErr (m [.frz (ns.map .int)] [])) _ Q
    rw [e]
    intro ω' H' x _ _ r
    cases r
    exact hQ H'
  exact ⟨fun vs H Q E h => F.1 vs H Q E (i _ _ _ _ h), fun A outer s H args us vs Q E hr e0 hb r hsp => F.2 A outer s H args us vs Q E hr e0 hb r (i _ _ _ _ hsp)⟩
theorem walk_scr {l : PySem.W.OpenLaw} {k : Nat} {m : List PV → Store → Res PV} {q : Program} {loose : List Str} {XP : (Str → Option Value) → Heap → Prop} {YP : World → Heap → Prop} {d : DefRec} {K : Params → PySem.W.Frag} (hn : l.most = some 63) (hdf : d.params.defaults = []) (hr : Room k callerA)
    (hY : ∀ (w : World) (h : Heap), YP w h → (K w.params).In h)
    (F : ∀ (w : World) (mg : Str → Option Value) (fa : Addr) (h : Heap), (K w.params).In h → h.Ns mainGlobals mg → mg d.name = some (.ref fa) →
      ∃ fd : FuncData, (∀ (s : Shared) (u : Value), BindsTo s fd ⟨[u], []⟩ [("script", u)]) ∧ ∀ base : Heap, (K w.params).In base → base.Ns mainGlobals mg → FnOk l.prog w (K w.params) mg base CX0 k fa fd ["script"] (spScr (K w.params) m)) :
    PySem.W.WalkO q loose XP YP l.row.toRowW d [] (fun f vs => PySem.call f vs) :=
  L2.walk_of (n := 63) (k := k) (x := "script") (CX := fun _ => CX0) (sp := fun w => spScr (K w.params) m) hn (by decide) hdf hr hY F (fun _ _ a ns hl _ hS => ⟨a, ns, rfl, hS, hl, fun _ => rfl⟩) fun _ _ _ _ _ z => z
end PL
/-! PL, part m: what an evaluator does, by wishes. -/
namespace PL
open PySem PySem.Spec PyProof.Rows L2
inductive Sat {α : Type} (r : Res α) (Q : α → Store → Prop) : Prop where
  | mk (a : α) (st : Store) (e : r = .ok a st) (q : Q a st)
inductive SatS (r : SR) (N : PEnv → Store → Prop) (R : PV → Store → Prop) : Prop where
  | nx (env : PEnv) (st : Store) (e : r = .nx env st) (q : N env st)
  | rt (v : PV) (st : Store) (e : r = .rt v st) (q : R v st)
section
variable {α β : Type} {Q Q' : α → Store → Prop} {N N' : PEnv → Store → Prop} {R R' : PV → Store → Prop} {env : PEnv} {st : Store}
theorem Sat.mono {r : Res α} (h : Sat r Q) (i : ∀ a s, Q a s → Q' a s) : Sat r Q' := by
  obtain ⟨a, s, e, q⟩ := h
  exact ⟨a, s, e, i _ _ q⟩
theorem SatS.mono {r : SR} (h : SatS r N R) (i : ∀ e s, N e s → N' e s) (j : ∀ v s, R v s → R' v s) : SatS r N' R' := by
  rcases h with ⟨a, s, e, q⟩ | ⟨a, s, e, q⟩
  · exact .nx a s e (i _ _ q)
  · exact .rt a s e (j _ _ q)
theorem sat_of {r : Res α} {a : α} {s : Store} (e : r = .ok a s) : Sat r Q = Q a s := propext ⟨fun ⟨b, t, e', q⟩ => (by
    rw [e] at e'
    cases e'
    exact q), fun q => ⟨a, s, e, q⟩⟩
theorem sat_ok {a : α} : Sat (.ok a st) Q = Q a st := sat_of rfl
theorem sat_stuck : Sat (.stuck : Res α) Q = False := propext ⟨fun ⟨b, t, e', q⟩ => (by cases e'), False.elim⟩
theorem sat_err {n f} : Sat (.err n f st : Res α) Q = False := propext ⟨fun ⟨b, t, e', q⟩ => (by cases e'), False.elim⟩
theorem ss_nx : SatS (.nx env st) N R = N env st := propext ⟨fun h => (by
    rcases h with ⟨a, s, e, q⟩ | ⟨a, s, e, q⟩
    · cases e; exact q
    · cases e), fun q => SatS.nx _ _ rfl q⟩
theorem ss_rt {v : PV} : SatS (.rt v st) N R = R v st := propext ⟨fun h => (by
    rcases h with ⟨a, s, e, q⟩ | ⟨a, s, e, q⟩
    · cases e
    · cases e; exact q), fun q => SatS.rt _ _ rfl q⟩
theorem ss_bk : SatS (.bk env st) N R = False := propext ⟨fun h => (by rcases h with ⟨a, s, e, q⟩ | ⟨a, s, e, q⟩ <;> cases e), False.elim⟩
theorem ss_ct : SatS (.ct env st) N R = False := propext ⟨fun h => (by rcases h with ⟨a, s, e, q⟩ | ⟨a, s, e, q⟩ <;> cases e), False.elim⟩
theorem ss_err {n f} : SatS (.err env n f st) N R = False := propext ⟨fun h => (by rcases h with ⟨a, s, e, q⟩ | ⟨a, s, e, q⟩ <;> cases e), False.elim⟩
theorem ss_stuck : SatS .stuck N R = False := propext ⟨fun h => (by rcases h with ⟨a, s, e, q⟩ | ⟨a, s, e, q⟩ <;> cases e), False.elim⟩
theorem sat_bind {r : Res β} {k : β → Store → Res α} : Sat (r.bind k) Q = Sat r fun b s => Sat (k b s) Q := by
  cases r with
  | ok a s => rw [sat_ok]; rfl
  | err n f s => rw [sat_err]; exact sat_err
  | stuck => rw [sat_stuck]; exact sat_stuck
theorem sat_ite {c : Prop} [Decidable c] {a b : Res α} (hc : c) (h : Sat a Q) : Sat (if c then a else b) Q := by rw [if_pos hc]; exact h
theorem sat_var {i : Nat} {v : PV} {Q : PV → Store → Prop} (e : env[i]? = some (some v)) : Sat (eVar i env st) Q = Q v st := by unfold eVar; rw [e]; exact sat_ok
theorem sat_v {i : Nat} {Q : PV → Store → Prop} : Sat (eVar i env st) Q = match env[i]? with
    | some (some v) => Q v st
    | _ => False := by
  unfold eVar
  cases env[i]? with
  | none => exact sat_stuck
  | some o => cases o with
    | none => exact sat_stuck
    | some v => exact sat_ok
theorem sat_c {v : PV} {Q : PV → Store → Prop} : Sat (eC v env st) Q = Q v st := sat_ok
theorem sat_bin {p fa fb} {Q : PV → Store → Prop} : Sat (eBin p fa fb env st) Q = Sat (fa env st) fun v s => Sat (fb env s) fun w s => Sat (p v w s) Q := by
  unfold eBin; rw [sat_bind]; simp only [sat_bind]
theorem sat_un {p fa} {Q : PV → Store → Prop} : Sat (eUn p fa env st) Q = Sat (fa env st) fun v s => Sat (p v s) Q := by unfold eUn; rw [sat_bind]
theorem sat_test {f : EM} {Q : Bool → Store → Prop} : Sat (eTest f env st) Q = Sat (f env st) fun v s => Sat (pTruth v s) Q := by unfold eTest; rw [sat_bind]
theorem sat_truth {b : Bool} {Q : Bool → Store → Prop} : Sat (pTruth (.bl b) st) Q = Q b st := sat_ok
theorem sat_and {f g : TM} {Q : Bool → Store → Prop} : Sat (tAndM f g env st) Q = Sat (f env st) fun b s => if b = true then Sat (g env s) Q else Q false s := by
  unfold tAndM; rw [sat_bind]; congr 1; funext b s; split
  · rfl
  · exact sat_ok
theorem sat_or {f g : TM} {Q : Bool → Store → Prop} : Sat (tOrM f g env st) Q = Sat (f env st) fun b s => if b = true then Q true s else Sat (g env s) Q := by
  unfold tOrM; rw [sat_bind]; congr 1; funext b s; split
  · exact sat_ok
  · rfl
theorem sat_not {f : TM} {Q : Bool → Store → Prop} : Sat (tNotM f env st) Q = Sat (f env st) fun b s => Q (!b) s := by unfold tNotM; rw [sat_bind]; congr 1; funext b s; exact sat_ok
theorem sat_yes {Q : Bool → Store → Prop} : Sat (tYesM env st) Q = Q true st := sat_ok
theorem sat_andv {f g : EM} {Q : PV → Store → Prop} : Sat (eAndV f g env st) Q = Sat (f env st) fun v s => match v with
    | .bl true => Sat (g env s) Q
    | .bl false => Q (.bl false) s
    | _ => False := by
  unfold eAndV; rw [sat_bind]; congr 1; funext v s
  cases v with
  | bl b => cases b with
    | true => rfl
    | false => exact sat_ok
  | _ => exact sat_stuck
theorem sat_notv {f : EM} {Q : PV → Store → Prop} : Sat (eNotV f env st) Q = Sat (f env st) fun v s => match v with
    | .bl b => Q (.bl (!b)) s
    | _ => False := by
  unfold eNotV; rw [sat_bind]; congr 1; funext v s
  cases v with
  | bl b => exact sat_ok
  | _ => exact sat_stuck
theorem sat_chain {p p' fa fb fc} {Q : PV → Store → Prop} : Sat (eChain p p' fa fb fc env st) Q = Sat (fa env st) fun v s => Sat (fb env s) fun w s => Sat (p v w s) fun z s => match z with
    | .bl true => Sat (fc env s) fun u s => Sat (p' w u s) Q
    | .bl false => Q (.bl false) s
    | _ => False := by
  unfold eChain; rw [sat_bind]; simp only [sat_bind]
  congr 1; funext v s; congr 1; funext w s; congr 1; funext z s
  cases z with
  | bl b => cases b with
    | true => simp only [sat_bind]
    | false => exact sat_ok
  | _ => exact sat_stuck
theorem sat_nil {Q : List PV → Store → Prop} : Sat (aNil env st) Q = Q [] st := sat_ok
theorem sat_cons {f : EM} {g : AM} {Q : List PV → Store → Prop} : Sat (aCons f g env st) Q = Sat (f env st) fun v s => Sat (g env s) fun vs s => Q (v :: vs) s := by
  unfold aCons; rw [sat_bind]; simp only [sat_bind, sat_ok]
theorem sat_args {p : List PV → Store → Res PV} {fs : AM} {Q : PV → Store → Prop} : Sat (eArgs p fs env st) Q = Sat (fs env st) fun vs s => Sat (p vs s) Q := by unfold eArgs; rw [sat_bind]
theorem sat_noErr {r : Res α} : Sat (noErr r) Q = Sat r Q := by
  cases r with
  | ok a s => rfl
  | err n f s => rw [sat_err]; exact sat_stuck
  | stuck => rfl
theorem sat_call {n : Nat} {m : List PV → Store → Res PV} {fs : AM} {Q : PV → Store → Prop} : Sat (eCall n m fs env st) Q = Sat (fs env st) fun vs s => vs.length = n ∧ Sat (m vs s) Q := by
  unfold eCall; rw [sat_args]; congr 1; funext vs s
  unfold guardN
  by_cases h : vs.length = n
  · rw [if_pos h, eq_iff_iff]; show Sat (noErr (m vs s)) Q ↔ _; rw [sat_noErr]; simp [h]
  · rw [if_neg h, sat_stuck]; simp [h]
theorem sat_callX {n : Nat} {m : List PV → Store → Res PV} {fs : AM} {Q : PV → Store → Prop} : Sat (eCallX n m fs env st) Q = Sat (fs env st) fun vs s => vs.length = n ∧ Sat (m vs s) Q := by
  unfold eCallX; rw [sat_args]; congr 1; funext vs s
  unfold guardN
  by_cases h : vs.length = n
  · rw [if_pos h, eq_iff_iff]; simp [h]
  · rw [if_neg h, sat_stuck]; simp [h]
theorem sat_meth {ty p fo fs} {Q : PV → Store → Prop} : Sat (eMeth ty p fo fs env st) Q = Sat (fo env st) fun v s => ty v s = true ∧ Sat (fs env s) fun vs s => Sat (p v vs s) Q := by
  unfold eMeth; rw [sat_bind]; congr 1; funext v s
  by_cases h : ty v s = true
  · rw [if_pos h, sat_bind]; simp [h]
  · rw [if_neg h, sat_stuck]; simp [h]
theorem sat_one {p : PV → Store → Res PV} {v : PV} {Q : PV → Store → Prop} : Sat (one p [v] st) Q = Sat (p v st) Q := rfl
theorem sat_oNone {Q : Option Int → Store → Prop} : Sat (oNone env st) Q = Q none st := sat_ok
theorem sat_oSome {f : EM} {Q : Option Int → Store → Prop} : Sat (oSome f env st) Q = Sat (f env st) fun v s => match v with
    | .int i => Q (some i) s
    | _ => False := by
  unfold oSome; rw [sat_bind]; congr 1; funext v s
  cases v with
  | int i => exact sat_ok
  | _ => exact sat_stuck
theorem sat_sl {p f l u} {Q : PV → Store → Prop} : Sat (eSl p f l u env st) Q = Sat (f env st) fun v s => Sat (l env s) fun lo s => Sat (u env s) fun hi s => Sat (p v lo hi s) Q := by
  unfold eSl; rw [sat_bind]; simp only [sat_bind]
theorem sat_tup {vs : List PV} {Q : PV → Store → Prop} : Sat (mkTup vs st) Q = (vs.length ≤ sizeLine ∧ Q (.tup vs) st) := by
  unfold mkTup
  by_cases h : vs.length ≤ sizeLine
  · rw [if_pos h, sat_ok]; simp [h]
  · rw [if_neg h, sat_stuck]; simp [h]
theorem sat_lst {vs : List PV} {Q : PV → Store → Prop} : Sat (mkLst vs st) Q = (vs.length ≤ sizeLine ∧ Q (.lst vs) st) := by
  unfold mkLst
  by_cases h : vs.length ≤ sizeLine
  · rw [if_pos h, sat_ok]; simp [h]
  · rw [if_neg h, sat_stuck]; simp [h]
theorem sat_loc {vs : List PV} {Q : PV → Store → Prop} : Sat (mkLoc vs st) Q = (vs.length ≤ sizeLine ∧ Q (.loc st.length) (st ++ [.lst vs])) := by
  unfold mkLoc
  by_cases h : vs.length ≤ sizeLine
  · rw [if_pos h, sat_ok]; simp [h]
  · rw [if_neg h, sat_stuck]; simp [h]
/-! statements -/
theorem ss_nil : SatS (sNil env st) N R = N env st := ss_nx
theorem ss_seq {f g : SM} : SatS (sSeq f g env st) N R = SatS (f env st) (fun e s => SatS (g e s) N R) R := by
  unfold sSeq
  cases f env st with
  | nx e s => rw [ss_nx]
  | rt v s => rw [ss_rt]; exact ss_rt.symm
  | bk e s => rw [ss_bk]; exact ss_bk.symm
  | ct e s => rw [ss_ct]; exact ss_ct.symm
  | err e n f s => rw [ss_err]; exact ss_err.symm
  | stuck => rw [ss_stuck]; exact ss_stuck.symm
theorem ss_of {r : Res α} {k : α → Store → SR} : SatS (sOf r env k) N R = Sat r fun a s => SatS (k a s) N R := by
  cases r with
  | ok a s => rw [sat_ok]; rfl
  | err n f s => rw [sat_err]; exact ss_err
  | stuck => rw [sat_stuck]; exact ss_stuck
theorem ss_set {i : Nat} {f : EM} : SatS (sSet i f env st) N R = Sat (f env st) fun v s => N (env.set i (some v)) s := by unfold sSet; rw [ss_of]; simp only [ss_nx]
theorem ss_expr {f : EM} : SatS (sExpr f env st) N R = Sat (f env st) fun v s => N env s := by unfold sExpr; rw [ss_of]; simp only [ss_nx]
theorem ss_ret {f : EM} : SatS (sRet f env st) N R = Sat (f env st) R := by unfold sRet; rw [ss_of]; simp only [ss_rt]
theorem ss_retN : SatS (sRetN env st) N R = R .non st := ss_rt
theorem ss_if {c : TM} {f g : SM} : SatS (sIf c f g env st) N R = Sat (c env st) fun b s => if b = true then SatS (f env s) N R else SatS (g env s) N R := by
  unfold sIf; rw [ss_of]; congr 1; funext b s; split <;> rfl
theorem ss_tg {tg : Tg} {f : EM} : SatS (sTg tg f env st) N R = Sat (f env st) fun v s => ∃ e, setTg tg v env = some e ∧ N e s := by
  unfold sTg; rw [ss_of]; congr 1; funext v s
  cases setTg tg v env with
  | none => rw [ss_stuck]; simp
  | some e => rw [ss_nx]; simp
theorem ss_par {i j : Nat} {fs : AM} : SatS (sPar i j fs env st) N R = Sat (fs env st) fun vs s => match vs with
    | [v, w] => N ((env.set i (some v)).set j (some w)) s
    | _ => False := by
  unfold sPar; rw [ss_of]; congr 1; funext vs s
  match vs with
  | [] => exact ss_stuck
  | [_] => exact ss_stuck
  | [_, _] => exact ss_nx
  | _ :: _ :: _ :: _ => exact ss_stuck
theorem ss_sub {p fo fi fv} : SatS (sSub p fo fi fv env st) N R = Sat (fv env st) fun v s => Sat (fo env s) fun o s => Sat (fi env s) fun i s => Sat (p o i v s) fun _ s => N env s := by
  unfold sSub; rw [ss_of]; simp only [ss_of, ss_nx]
theorem ss_for {it : IM} {tg : Tg} {body : SM} : SatS (sFor it tg body env st) N R = Sat (it env st) fun p s => SatS (sForL tg body p.ok p.xs env s) N R := by unfold sFor; rw [ss_of]
theorem ss_forL_nil {tg : Tg} {body : SM} {ok : Store → Prop} (h : ok st) : SatS (sForL tg body ok [] env st) N R = N env st := by unfold sForL; rw [if_pos h]; exact ss_nx
theorem ss_forL_cons {tg : Tg} {body : SM} {ok : Store → Prop} {v : PV} {r : List PV} (ho : ok st) (h : ∃ e, setTg tg v env = some e ∧ SatS (body e st) (fun e s => SatS (sForL tg body ok r e s) N R) R) : SatS (sForL tg body ok (v :: r) env st) N R := by
  obtain ⟨e, h1, h2⟩ := h
  unfold sForL
  rw [if_pos ho, h1]
  show SatS (match body e st with
      | .nx e s => sForL tg body ok r e s
      | .ct e s => sForL tg body ok r e s
      | .bk e s => .nx e s
      | .rt v s => .rt v s
      | .err e n fs s => .err e n fs s
      | .stuck => .stuck) N R
  cases q : body e st with
  | nx e' s => rw [q, ss_nx] at h2; exact h2
  | rt v s => rw [q, ss_rt] at h2; exact .rt _ _ rfl h2
  | bk e' s => rw [q, ss_bk] at h2; exact False.elim h2
  | ct e' s => rw [q, ss_ct] at h2; exact False.elim h2
  | err e' n f s => rw [q, ss_err] at h2; exact False.elim h2
  | stuck => rw [q, ss_stuck] at h2; exact False.elim h2
/-- a for by an invariant of the number of items done -/
theorem for_invC {tg : Tg} {body : SM} {ok : Store → Prop} (I : Nat → PEnv → Store → Prop) : ∀ {xs : List PV} {k : Nat} {env : PEnv} {st : Store}, I k env st →
    (∀ i v env st, xs[i]? = some v → I (k + i) env st → ∃ e, setTg tg v env = some e ∧ SatS (body e st) (I (k + i + 1)) R) →
    (∀ env st, I (k + xs.length) env st → N env st) → (∀ i env st, I i env st → ok st) → SatS (sForL tg body ok xs env st) N R
  | [], k, env, st, h0, _, hd, ho => by rw [ss_forL_nil (ho _ _ _ h0)]; exact hd env st (by simpa using h0)
  | v :: r, k, env, st, h0, hs, hd, ho => by
    obtain ⟨e, h1, h2⟩ := hs 0 v env st (by simp) (by simpa using h0)
    refine ss_forL_cons (ho _ _ _ h0) ⟨e, h1, h2.mono (fun e' s' h' => ?_) fun _ _ z => z⟩
    refine for_invC I (k := k + 1) (by simpa using h') (fun i w e s m q => ?_) (fun e s q => hd e s (by simpa [Nat.add_assoc, Nat.add_comm 1] using q)) ho
    have := hs (i + 1) w e s (by simpa using m) (by simpa [Nat.add_assoc, Nat.add_comm 1] using q)
    simpa [Nat.add_assoc, Nat.add_comm 1] using this
theorem for_invN {tg : Tg} {body : SM} {ok : Store → Prop} (I : Nat → PEnv → Store → Prop) {xs : List PV} {k : Nat} {env : PEnv} {st : Store} (h0 : I k env st)
    (hs : ∀ i v env st, xs[i]? = some v → I (k + i) env st → ∃ e, setTg tg v env = some e ∧ SatS (body e st) (I (k + i + 1)) R)
    (hd : ∀ env st, I (k + xs.length) env st → N env st) (ho : ∀ i env st, I i env st → ok st := by intros; exact True.intro) : SatS (sForL tg body ok xs env st) N R := for_invC I h0 hs hd ho
/-- a for whose invariant doesn't tell the items -/
theorem for_inv0 {tg : Tg} {body : SM} {ok : Store → Prop} (I : PEnv → Store → Prop) {xs : List PV} {env : PEnv} {st : Store} (h0 : I env st)
    (hs : ∀ v env st, v ∈ xs → I env st → ∃ e, setTg tg v env = some e ∧ SatS (body e st) I R) (hd : ∀ env st, I env st → N env st) (ho : ∀ env st, I env st → ok st := by intros; exact True.intro) : SatS (sForL tg body ok xs env st) N R :=
  for_invN (fun _ => I) (k := 0) h0 (fun i v e s m q => hs v e s (List.mem_of_getElem? m) q) (fun e s i => hd e s i) (fun _ => ho)
/-! comprehensions -/
theorem sat_comp {loc own it tg test elt} {Q : PV → Store → Prop} : Sat (eCompG loc own it tg test elt env st) Q = Sat (it env st) fun p s => Sat (compL tg test elt p.ok p.xs (wipeP env own) s []) fun ys s => Sat (fin loc ys s) Q := by
  unfold eCompG; rw [sat_bind]; simp only [sat_bind]
/-- a comprehension by an invariant: what is made so far -/
theorem comp_invC {tg : Tg} {test : TM} {elt : EM} {ok : Store → Prop} {Q : List PV → Store → Prop} (I : Nat → List PV → Store → Prop) : ∀ {xs : List PV} {k : Nat} {env : PEnv} {st : Store} {acc : List PV}, I k acc st →
    (∀ i v st acc, xs[i]? = some v → I (k + i) acc st → ∃ e, setTg tg v env = some e ∧ Sat (test e st) fun b s => if b = true then Sat (elt e s) fun y s => acc.length < sizeLine ∧ I (k + i + 1) (acc ++ [y]) s else I (k + i + 1) acc s) →
    (∀ acc st, I (k + xs.length) acc st → Q acc st) → (∀ i acc st, I i acc st → ok st) → Sat (compL tg test elt ok xs env st acc) Q
  | [], k, env, st, acc, h0, _, hd, ho => by
    unfold compL
    rw [if_pos (ho _ _ _ h0)]
    exact ⟨_, _, rfl, hd acc st (by simpa using h0)⟩
  | v :: r, k, env, st, acc, h0, hs, hd, ho => by
    obtain ⟨e, h1, h2⟩ := hs 0 v st acc (by simp) (by simpa using h0)
    unfold compL
    rw [if_pos (ho _ _ _ h0), h1]
    show Sat ((noErr (test e st)).bind _) Q
    rw [sat_bind, sat_noErr]
    have nxt : ∀ acc' s, I (k + 0 + 1) acc' s → Sat (compL tg test elt ok r env s acc') Q := fun acc' s h' => by
      refine comp_invC I (k := k + 1) (by simpa using h') (fun i w s a m q => ?_) (fun a s q => hd a s (by simpa [Nat.add_assoc, Nat.add_comm 1] using q)) ho
      have := hs (i + 1) w s a (by simpa using m) (by simpa [Nat.add_assoc, Nat.add_comm 1] using q)
      simpa [Nat.add_assoc, Nat.add_comm 1] using this
    refine h2.mono fun b s h3 => ?_
    cases b with
    | false => simpa using nxt _ _ (by simpa using h3)
    | true =>
      have h3 : Sat (elt e s) fun y s => acc.length < sizeLine ∧ I (k + 0 + 1) (acc ++ [y]) s := by simpa using h3
      show Sat (if true = true then _ else _) Q
      rw [if_pos rfl, sat_bind, sat_noErr]
      refine h3.mono fun y s2 h4 => ?_
      rw [if_pos h4.1]
      exact nxt _ _ h4.2
theorem comp_inv {tg : Tg} {test : TM} {elt : EM} {ok : Store → Prop} {Q : List PV → Store → Prop} (I : Nat → List PV → Store → Prop) {xs : List PV} {k : Nat} {env : PEnv} {st : Store} {acc : List PV} (h0 : I k acc st)
    (hs : ∀ i v st acc, xs[i]? = some v → I (k + i) acc st → ∃ e, setTg tg v env = some e ∧ Sat (test e st) fun b s => if b = true then Sat (elt e s) fun y s => acc.length < sizeLine ∧ I (k + i + 1) (acc ++ [y]) s else I (k + i + 1) acc s)
    (hd : ∀ acc st, I (k + xs.length) acc st → Q acc st) (ho : ∀ i acc st, I i acc st → ok st := by intros; exact True.intro) : Sat (compL tg test elt ok xs env st acc) Q := comp_invC I h0 hs hd ho
/-- a def -/
theorem sat_body {n : Nat} {f : SM} {args : List PV} {Q : PV → Store → Prop} (h : SatS (f (args.map some ++ List.replicate (n - args.length) none) st) (fun _ s => Q .non s) Q) : Sat (runBody n f args st) Q := by
  unfold runBody
  rcases h with ⟨a, s, e, q⟩ | ⟨a, s, e, q⟩
  · rw [e]; exact ⟨_, _, rfl, q⟩
  · rw [e]; exact ⟨_, _, rfl, q⟩
theorem Sat.elim {r : Res α} (h : Sat r Q) : ∃ a s, r = .ok a s ∧ Q a s := by
  obtain ⟨a, s, e, q⟩ := h
  exact ⟨a, s, e, q⟩
end
end PL
/-! PL, part o: what the operators are worth at given kinds. -/
namespace PL
open PySem PySem.Spec PyProof.Rows L2
theorem nabs {n : Nat} : Int.natAbs (no_index (OfNat.ofNat n)) = n := rfl
section
variable {Q : PV → Store → Prop} {st : Store} {i j : Int} {x y : Str} {a b : Bool} {xs ys : List PV}
theorem eq_if {α : Type} {c : Prop} [Decidable c] {r : Res α} {Q : α → Store → Prop} : Sat (if c then r else .stuck) Q = (c ∧ Sat r Q) := by
  by_cases h : c
  · rw [if_pos h, eq_iff_iff]; simp [h]
  · rw [if_neg h, sat_stuck]; simp [h]
theorem o_addI : Sat (pAdd (.int i) (.int j) st) Q = Q (.int (i + j)) st := sat_of rfl
theorem o_addS : Sat (pAdd (.str x) (.str y) st) Q = (x.length + y.length ≤ sizeLine ∧ Q (.str (x ++ y)) st) := by show Sat (if _ then _ else _) Q = _; rw [eq_if, sat_ok]
theorem o_addT : Sat (pAdd (.tup xs) (.tup ys) st) Q = (xs.length + ys.length ≤ sizeLine ∧ Q (.tup (xs ++ ys)) st) := by show Sat (if _ then _ else _) Q = _; rw [eq_if, sat_ok]
theorem o_addL : Sat (pAdd (.lst xs) (.lst ys) st) Q = (xs.length + ys.length ≤ sizeLine ∧ Q (.lst (xs ++ ys)) st) := by show Sat (if _ then _ else _) Q = _; rw [eq_if, sat_ok]
theorem o_subI : Sat (pSub (.int i) (.int j) st) Q = Q (.int (i - j)) st := sat_of rfl
theorem o_mulI : Sat (pMul (.int i) (.int j) st) Q = (((i.natAbs < 2 ^ 64 ∨ j.natAbs < 2 ^ 64) ∨ i.natAbs.log2 + j.natAbs.log2 < 1000000) ∧ Q (.int (i * j)) st) := by show Sat (if _ then _ else _) Q = _; rw [eq_if, sat_ok]
theorem o_fdivI : Sat (pFdiv (.int i) (.int j) st) Q = ((0 < j ∧ j.natAbs.log2 < 9000) ∧ Q (.int (i / j)) st) := by show Sat (if _ then _ else _) Q = _; rw [eq_if, sat_ok]
theorem o_modI : Sat (pMod (.int i) (.int j) st) Q = (0 < j ∧ Q (.int (i % j)) st) := by show Sat (if _ then _ else _) Q = _; rw [eq_if, sat_ok]
theorem o_powI : Sat (pPow (.int i) (.int j) st) Q = ((0 ≤ j ∧ j ≤ 1000000 ∧ i.natAbs < 2 ^ 64) ∧ Q (.int (i ^ j.toNat)) st) := by show Sat (if _ then _ else _) Q = _; rw [eq_if, sat_ok]
theorem o_negI : Sat (pNeg (.int i) st) Q = Q (.int (-i)) st := sat_of rfl
theorem o_eqI : Sat (pEq (.int i) (.int j) st) Q = Q (.bl (decide (i = j))) st := by
  unfold pEq
  rw [if_pos (by simp [isD, toD, PyData.depth])]
  simp only [toD, PyData.eqv, sat_ok]
  first | rfl | (congr 2; simp [beq_eq_decide])
theorem o_neI : Sat (pNe (.int i) (.int j) st) Q = Q (.bl (!decide (i = j))) st := by
  unfold pNe
  rw [if_pos (by simp [isD, toD, PyData.depth])]
  simp only [toD, PyData.eqv, sat_ok]
  first | rfl | (congr 2; simp [beq_eq_decide])
theorem o_eqS : Sat (pEq (.str x) (.str y) st) Q = Q (.bl (decide (x = y))) st := by
  unfold pEq
  rw [if_pos (by simp [isD, toD, PyData.depth])]
  simp only [toD, PyData.eqv, sat_ok]
  first | rfl | (congr 2; simp [beq_eq_decide])
theorem o_neS : Sat (pNe (.str x) (.str y) st) Q = Q (.bl (!decide (x = y))) st := by
  unfold pNe
  rw [if_pos (by simp [isD, toD, PyData.depth])]
  simp only [toD, PyData.eqv, sat_ok]
  first | rfl | (congr 2; simp [beq_eq_decide])
theorem dlt_int : PySem.W.dataLt (.int i) (.int j) = decide (i < j) := by
  unfold PySem.W.dataLt
  simp only [PySem.W.keyToks]
  rw [PySem.W.lex_one]
  first | rfl | simp [PySem.W.itemLt]
theorem ord_int : OrdOk (.int i) (.int j) := by
  refine ⟨by simp [isD], by simp [isD], by simp [toD, PySem.W.alike], rfl, by simp [toD, PyData.depth]⟩
theorem ord_str : OrdOk (.str x) (.str y) := by
  refine ⟨by simp [isD], by simp [isD], by simp [toD, PySem.W.alike], rfl, by simp [toD, PyData.depth]⟩
theorem o_ltI : Sat (pLt (.int i) (.int j) st) Q = Q (.bl (decide (i < j))) st := by
  unfold pLt; rw [if_pos ord_int]; simp only [toD, dlt_int, sat_ok]
theorem o_gtI : Sat (pGt (.int i) (.int j) st) Q = Q (.bl (decide (j < i))) st := by
  unfold pGt; rw [if_pos ord_int]; simp only [toD, dlt_int, sat_ok]
theorem o_leI : Sat (pLe (.int i) (.int j) st) Q = Q (.bl (!decide (j < i))) st := by
  unfold pLe; rw [if_pos ord_int]; simp only [toD, dlt_int, sat_ok]
theorem o_geI : Sat (pGe (.int i) (.int j) st) Q = Q (.bl (!decide (i < j))) st := by
  unfold pGe; rw [if_pos ord_int]; simp only [toD, dlt_int, sat_ok]
def strLt (x y : Str) : Bool := PySem.W.dataLt (.str x) (.str y)
theorem o_ltS : Sat (pLt (.str x) (.str y) st) Q = Q (.bl (strLt x y)) st := by
  unfold pLt; rw [if_pos ord_str]; simp only [toD, strLt, sat_ok]
theorem o_geS : Sat (pGe (.str x) (.str y) st) Q = Q (.bl (!strLt x y)) st := by
  unfold pGe; rw [if_pos ord_str]; simp only [toD, strLt, sat_ok]
theorem o_inS : Sat (pIn (.str x) (.str y) st) Q = Q (.bl (inStr x y)) st := sat_of rfl
theorem o_notInS : Sat (pNotIn (.str x) (.str y) st) Q = Q (.bl (!inStr x y)) st := sat_of rfl
theorem o_isN : Sat (pIs .non .non st) Q = Q (.bl true) st := sat_of rfl
theorem o_isNotN : Sat (pIsNot .non .non st) Q = Q (.bl false) st := sat_of rfl
theorem o_isT : Sat (pIs (.tup xs) .non st) Q = Q (.bl false) st := sat_of rfl
theorem o_isNotT : Sat (pIsNot (.tup xs) .non st) Q = Q (.bl true) st := sat_of rfl
theorem o_isS : Sat (pIs (.str x) .non st) Q = Q (.bl false) st := sat_of rfl
theorem o_isNotS : Sat (pIsNot (.str x) .non st) Q = Q (.bl true) st := sat_of rfl
theorem o_int : Sat (pInt (.int i) st) Q = Q (.int i) st := sat_of rfl
theorem o_intB : Sat (pInt (.bl a) st) Q = Q (.int (if a then 1 else 0)) st := sat_of rfl
theorem o_abs : Sat (pAbs (.int i) st) Q = Q (.int (if i < 0 then -i else i)) st := sat_of rfl
theorem o_str : Sat (pStr (.int i) st) Q = (i.natAbs.log2 < 1920 ∧ Q (.str (strInt i)) st) := by show Sat (if _ then _ else _) Q = _; rw [eq_if, sat_ok]
theorem o_lenT : Sat (pLen (.tup xs) st) Q = Q (.int xs.length) st := sat_of rfl
theorem o_lenL : Sat (pLen (.lst xs) st) Q = Q (.int xs.length) st := sat_of rfl
theorem o_lenF : Sat (pLen (.frz xs) st) Q = Q (.int xs.length) st := sat_of rfl
theorem o_lenS : Sat (pLen (.str x) st) Q = (x.length ≤ sizeLine ∧ Q (.int x.length) st) := by show Sat (if _ then _ else _) Q = _; rw [eq_if, sat_ok]
/-- what an index gives -/
def ixW (xs : List PV) (i : Int) (Q : PV → Prop) : Prop := match atI xs i with
  | some y => Q y
  | none => False
theorem o_ixT : Sat (pIx (.tup xs) (.int i) st) Q = ixW xs i fun y => Q y st := by
  show Sat (match atI xs i with | some y => .ok y st | none => .stuck) Q = _
  unfold ixW; cases atI xs i with
  | none => exact sat_stuck
  | some y => exact sat_ok
theorem o_ixL : Sat (pIx (.lst xs) (.int i) st) Q = ixW xs i fun y => Q y st := by
  show Sat (match atI xs i with | some y => .ok y st | none => .stuck) Q = _
  unfold ixW; cases atI xs i with
  | none => exact sat_stuck
  | some y => exact sat_ok
theorem o_ixF : Sat (pIx (.frz xs) (.int i) st) Q = ixW xs i fun y => Q y st := by
  show Sat (match atI xs i with | some y => .ok y st | none => .stuck) Q = _
  unfold ixW; cases atI xs i with
  | none => exact sat_stuck
  | some y => exact sat_ok
theorem o_ixP {l : Nat} (h : st[l]? = some (.lst xs)) : Sat (pIx (.loc l) (.int i) st) Q = ixW xs i fun y => Q y st := by
  have e : seqOf st (.loc l) = some (false, xs) := by unfold seqOf; simp only [h]
  show Sat (match seqOf st (.loc l) with | some (_, xs) => (match atI xs i with | some y => .ok y st | none => .stuck) | none => .stuck) Q = _
  rw [e]
  unfold ixW; show Sat (match atI xs i with | some y => .ok y st | none => .stuck) Q = _; cases atI xs i with
  | none => exact sat_stuck
  | some y => exact sat_ok
theorem ixW_of {k : Nat} {y : PV} {P : PV → Prop} (h : xs[k]? = some y) (p : P y) : ixW xs (k : Int) P := by
  have hk : k < xs.length := (List.getElem?_eq_some_iff.mp h).1
  unfold ixW atI ixN
  rw [if_pos (by omega), if_pos (by omega)]
  simp only [Int.toNat_natCast, Option.bind_some, h]
  exact p
theorem ixW_in {i : Int} {P : PV → Prop} (h0 : 0 ≤ i) (h1 : i < xs.length) (p : ∀ y, xs[i.toNat]? = some y → P y) : ixW xs i P := by
  obtain ⟨k, rfl⟩ := Int.eq_ofNat_of_zero_le h0
  have hk : k < xs.length := by omega
  exact ixW_of (List.getElem?_eq_getElem hk) (p _ (by simp [List.getElem?_eq_getElem hk]))
theorem ixW_0 {P : PV → Prop} {v : PV} : ixW (v :: xs) 0 P = P v := by
  have : (0 : Int) < ((v :: xs).length : Int) := by simp only [List.length_cons]; omega
  unfold ixW atI ixN
  rw [if_pos (by omega), if_pos this]
  rfl
theorem ixW_1 {P : PV → Prop} {v w : PV} : ixW (v :: w :: xs) 1 P = P w := by
  have : (1 : Int) < ((v :: w :: xs).length : Int) := by simp; omega
  unfold ixW atI ixN
  rw [if_pos (by omega), if_pos this]
  rfl
theorem ixW_2 {P : PV → Prop} {v w u : PV} : ixW (v :: w :: u :: xs) 2 P = P u := by
  have : (2 : Int) < ((v :: w :: u :: xs).length : Int) := by simp; omega
  unfold ixW atI ixN
  rw [if_pos (by omega), if_pos this]
  rfl
theorem o_set {l : Nat} {v : PV} {Q : Unit → Store → Prop} (h : st[l]? = some (.lst xs)) : Sat (pSet (.loc l) (.int i) v st) Q = match ixN xs.length i with
    | some j => Q () (st.set l (.lst (xs.set j v)))
    | none => False := by
  unfold pSet
  simp only
  rw [h]
  simp only
  cases ixN xs.length i with
  | none => exact sat_stuck
  | some y => exact sat_ok
theorem o_app {l : Nat} {v : PV} (h : st[l]? = some (.lst xs)) : Sat (pAppend (.loc l) [v] st) Q = (xs.length < sizeLine ∧ Q .non (st.set l (.lst (xs ++ [v])))) := by
  unfold pAppend
  simp only
  rw [h]
  simp only
  rw [eq_if, sat_ok]
theorem o_isL {l : Nat} (h : st[l]? = some (.lst xs)) : isListP (.loc l) st = true := by
  unfold isListP; simp only [h]
theorem o_isStr : isStrP (.str x) st = true := rfl
theorem o_lenP {l : Nat} (h : st[l]? = some (.lst xs)) : Sat (pLen (.loc l) st) Q = Q (.int xs.length) st := by
  have e : seqOf st (.loc l) = some (false, xs) := by unfold seqOf; simp only [h]
  unfold pLen
  simp only
  rw [e]; exact sat_ok
theorem o_tupL : Sat (pTuple (.lst xs) st) Q = Q (.tup xs) st := sat_of rfl
theorem o_tupT : Sat (pTuple (.tup xs) st) Q = Q (.tup xs) st := sat_of rfl
theorem o_tupP {l : Nat} (h : st[l]? = some (.lst xs)) : Sat (pTuple (.loc l) st) Q = Q (.tup xs) st := by
  have e : seqOf st (.loc l) = some (false, xs) := by unfold seqOf; simp only [h]
  unfold pTuple
  rw [e]; exact sat_ok
theorem o_listT : Sat (pList (.tup xs) st) Q = Q (.lst xs) st := sat_of rfl
theorem o_listL : Sat (pList (.lst xs) st) Q = Q (.lst xs) st := sat_of rfl
theorem o_listLocT : Sat (pListLoc (.tup xs) st) Q = Q (.loc st.length) (st ++ [.lst xs]) := sat_of rfl
theorem o_gcd : Sat (pGcd [.int i, .int j] st) Q = Q (.int ((Nat.gcd i.natAbs j.natAbs : Nat) : Int)) st := sat_of rfl
theorem o_bits : Sat (pBits (.int i) st) Q = Q (.int (Builtin.Int.intBits i : Nat)) st := sat_of rfl
theorem o_finF : Sat (fin false xs st) Q = Q (.lst xs) st := sat_of rfl
theorem o_finT : Sat (fin true xs st) Q = Q (.loc st.length) (st ++ [.lst xs]) := sat_of rfl
/-! walks -/
variable {Qx : Itms → Store → Prop}
theorem sat_iVal {f : EM} {env : PEnv} : Sat (iVal f env st) Qx = Sat (f env st) fun v s => Sat (pIter v s) Qx := by unfold iVal; rw [sat_bind]
theorem sat_iEnum {f : EM} {env : PEnv} : Sat (iEnumM f env st) Qx = Sat (f env st) fun v s => Sat (pEnum v s) Qx := by unfold iEnumM; rw [sat_bind]
theorem sat_iRange1 {f : EM} {env : PEnv} : Sat (iRange1 f env st) Qx = Sat (f env st) fun v s => Sat (pRange1 [v] s) Qx := by
  unfold iRange1; rw [sat_bind, sat_cons]; simp only [sat_nil]
theorem sat_iRange2 {f g : EM} {env : PEnv} : Sat (iRange2 f g env st) Qx = Sat (f env st) fun v s => Sat (g env s) fun w s => Sat (pRange2 [v, w] s) Qx := by
  unfold iRange2; rw [sat_bind, sat_cons]; simp only [sat_cons, sat_nil]
theorem o_itT : Sat (pIter (.tup xs) st) Qx = Qx ⟨xs, none⟩ st := sat_of rfl
theorem o_itL : Sat (pIter (.lst xs) st) Qx = Qx ⟨xs, none⟩ st := sat_of rfl
theorem o_itF : Sat (pIter (.frz xs) st) Qx = Qx ⟨xs, none⟩ st := sat_of rfl
theorem o_itS : Sat (pIter (.str x) st) Qx = Qx ⟨signs x, none⟩ st := sat_of rfl
theorem o_itP {l : Nat} (h : st[l]? = some (.lst xs)) : Sat (pIter (.loc l) st) Qx = Qx ⟨xs, some (l, .lst xs)⟩ st := by
  unfold pIter
  simp only
  rw [h]
  exact sat_ok
theorem o_enT : Sat (pEnum (.tup xs) st) Qx = Qx ⟨enums xs, none⟩ st := sat_of rfl
theorem o_rng : Sat (pRange1 [.int j] st) Qx = ((-(2 ^ 62) ≤ j ∧ j < 2 ^ 62) ∧ Qx ⟨rngs 0 j.toNat, none⟩ st) := by show Sat (if _ then _ else _) Qx = _; rw [eq_if, sat_ok]
end
end PL
/-! PL, part i: more of exceptions: classes without fields, several clauses; what is never reached; list.index. -/
namespace PL
open PySem PySem.Spec PyProof.Rows L2
/-! ### what is never reached -/
def sStuckM : SM := fun _ _ => .stuck
theorem ms_stuck {X : Cx} {W : WX} {s : Stmt} : MS X W s sStuckM := ⟨fun _ _ _ _ _ _ ⟨_, _, _, _, _, h⟩ => False.elim h⟩
def eStuckM : EM := fun _ _ => .stuck
theorem me_stuck {X : Cx} {W : WX} {e : Expr} : ME X W e eStuckM := ⟨fun _ _ _ _ _ _ ⟨_, _, _, _, _, h⟩ => False.elim h⟩
/-! ### raise of an own class without an __init__ -/
structure X0 (K : PySem.W.Frag) (mg : Str → Option Value) (x : Str) (C : Addr) : Prop where
  gC : mg x = some (.ref C)
  q : PySem.W.excIn K C [.type "ValueError", .type "Exception", .type "BaseException", .type "object"] "ValueError.__new__" = true
  kC : PySem.W.keepIn K (.ref C) = true
  exC : PySem.W.subIn K (.ref C) (.type "BaseException") = some true
  tyC : PySem.W.typeIn K (.ref C) = some (.type "type")
def sRaise0 (x : Str) (fs : AM) : SM := fun env st => sOf (fs env st) env fun vs st1 => if vs.length ≤ sizeLine then .err env x none st1 else .stuck
section
variable {X : Cx} {W : WX} {C : Addr} {x : Str} {e : Expr} {es : List Expr} {fs : AM} {p pos pos2 : Pos}
theorem ms_raise0 (hc : X.calm = true) (tk : Takes X W) (T : X0 X.K X.mg x C) (ha : MA X W (e :: es) fs) (hg : Gl X x := by rfl) (hdb : (x == ("__debug__" : Str)) = false := by decide)
    (he : starEach (e :: es) X.env = (false, eval e X.env) :: starEach es X.env := by rfl) (hpl : (backTo pos (starEach es X.env)).any (·.1) = false := by rfl) :
    MS X W (.Raise (some (.Call (.Name x p) (e :: es) [] pos)) none pos2) (sRaise0 x fs) := by
  refine psI (ps_raise hc tk (pmk_ownA PySem.F.excBase_ValueError T.q T.gC T.kC (raises_own T.exC T.tyC) hg ha (hdb := hdb) (he := he) (hpl := hpl))) ?_
  rintro D σ H ⟨ω, st, env, wd, re, h⟩
  refine ⟨ω, st, env, wd, re, (h.bind (Rel := RL X.K) re).mono ?_⟩
  rintro y H1 ⟨ω1, st1, vs, e1, wd1, r1, h1⟩
  split at h1
  · rename_i hz
    exact ⟨by rw [← r1.length]; exact hz, h1 ω1 H1 σ none (.ref C) (.refl _ _) wd1 (re.mono e1.le) T.gC rfl⟩
  · exact False.elim h1
end
/-! ### try with clauses, each `except x as n` -/
/-- a clause: the class's name, the slot of the name, the suite (a: the error, d: its dict) -/
structure Cl where
  x : Str
  i : Nat
  fs : Nat → Option Nat → SM
def excV (a : Nat) (d : Option Nat) : Option (List (Str × PV)) → PV
  | some fl => .exc a (d.getD 0) (fl.map (·.1)) (fl.map (·.2))
  | none => .con (.ref a)
def hasF : Option (List (Str × PV)) → Nat → Option Nat
  | some _, d => some d
  | none, _ => none
def clRun (c : Cl) (fl : Option (List (Str × PV))) (env : PEnv) (st : Store) : Nat → Nat → SR := fun a d => unsetR c.i (c.fs a (hasF fl d) (env.set c.i (some (excV a (hasF fl d) fl))) st)
noncomputable def clPick (n : Str) (fl : Option (List (Str × PV))) (env : PEnv) (st : Store) : List Cl → SR
  | [] => .stuck
  | c :: r => if n = c.x then anyAd (clRun c fl env st) else clPick n fl env st r
noncomputable def sTryM (cs : List Cl) (fb : SM) : SM := fun env st => match fb env st with
  | .err env' n fl st' => clPick n fl env' st' cs
  | r => r
abbrev DEnd (D : Ends) (i : Nat) : Ends := { nx := fun σ' H' => D.nx (σ'.set i none) H', rt := D.rt, bk := fun σ' H' => D.bk (σ'.set i none) H', ct := fun σ' H' => D.ct (σ'.set i none) H' }
/-- what the clauses wish of an error of the body -/
def wAsM (K : PySem.W.Frag) (Wo : WX) (D : Ends) : List (Value × Nat × (Addr → Value → Option Addr → TS)) → WX
  | [] => Wo
  | (c, i, ts) :: r => fun cls d σ H => ∃ b, PySem.W.exmOne K cls c = some b ∧ (b = true → ∀ a, H a = none → ts a cls d (DEnd D i) (σ.set i (some (.ref a))) H) ∧ (b = false → wAsM K Wo D r cls d σ H)
inductive HdAs (X : Cx) : List ExceptHandler → List (Value × Nat × (Addr → Value → Option Addr → TS)) → Prop
  | nil : HdAs X [] []
  | cons {x n : Str} {c : Value} {i : Nat} {ts : Addr → Value → Option Addr → TS} {b₀ : Stmt} {suite : List Stmt} {np hp : Pos} {hds : List ExceptHandler} {l : List (Value × Nat × (Addr → Value → Option Addr → TS))} (hi : X.N[i]? = some n) (hln : X.env.kindOf n = some .local) (hc : Names X x c)
      (su : ∀ (a : Addr) (oe : Obj) (cls : Value) (d : Option Addr) (pn : List (Addr × Obj)), Zc cls d oe → (∃ vs, oe.data = .fields vs) → PSs (X.suite a ((a, oe) :: pn)) (b₀ :: suite) (ts a cls d)) (r : HdAs X hds l) :
      HdAs X (.ExceptHandler (some (.Name x np)) (some n) (b₀ :: suite) hp :: hds) ((c, i, ts) :: l)
section
variable {X : Cx} {body : List Stmt} {h₀ : ExceptHandler} {hds : List ExceptHandler} {l : List (Value × Nat × (Addr → Value → Option Addr → TS))} {pos : Pos} {tb : WX → TS} {Wo : WX}
theorem ps_try_asM (st : X.stack = X.env :: X.outer) (fr : X.env.frame = some X.env.locals) (nd : X.N.Nodup) (tk : Takes X Wo)
    (bd : ∀ (W : WX) (pn : List (Addr × Obj)) (xe : Value → Shared → Prop), Takes (X.tr pn xe) W → PassesOwn (model X.prog X.w) X.A X.env xe → PSs (X.tr pn xe) body (tb W))
    (cl : HdAs X (h₀ :: hds) l) : PS X (.Try body (h₀ :: hds) [] [] pos) (fun D σ H => tb (wAsM X.K Wo D l) D σ H) := by
  constructor
  intro pins s σ H D I h
  have ok := I.ok
  have fr2 : X.A.frames = some (X.env :: X.outer) := ok.frames.trans (by rw [st])
  refine wpAny_Try_except (wpAny_mono ((bd (wAsM X.K Wo D l) (X.pn ++ pins) (fun e t1 => wpAny (model X.prog X.w) X.A (noteFrame e X.env) (fun _ t2 => wpAny (model X.prog X.w) X.A (setFlight e none) (fun _ t3 => wpAny (model X.prog X.w) X.A (handleBy e X.env (h₀ :: hds)) (SP X pins D) X.xe t3) X.xe t2) X.xe t1) (fun u s' xx => ?_) PassesOwn.looking).run [] s σ H D (I.toTry _) h) (fun f s1 q => ?_) fun _ _ z => z)
  · obtain ⟨a, B, sI, pins', σ1, H1, cls, d, rfl, J0, nb, up, sky, na, os, ag, w⟩ := xx
    have J : Inv X pins σ1 H1 sI := J0.ofTry ok
    have sky1 : Sky B (X.env :: X.outer) a (Zc cls d) X.env.locals s'.heap := by have q := sky; rw [st] at q; exact q
    refine (show wpAny (model X.prog X.w) X.A (noteFrame (.ref a) X.env) _ _ _ from Sky.land Zc.steady fr2 fr sky1 fun h3 fl up3 => ?_)
    have J3 : Inv X pins σ1 H1 { s' with heap := h3 } := J.landed nb fl.1 (up.trans up3) os ag
    obtain ⟨oe, vs, ge, ze, de⟩ := fl.there
    have far : ∀ {h : Heap} {o : Obj} {vs : Array Value}, h.FunFrames B (X.env :: X.outer) → h.get? a = some o → o.data = .fields vs → a ∉ frs (X.env :: X.outer) := by
      intro h o vs ff e dd m
      obtain ⟨_, o2, e2, z⟩ := ff.mem m
      cases e.symm.trans e2
      exact z _ dd
    have na2 := far fl.2.2.1 ge de
    have nL : a ≠ X.env.locals := by
      intro z
      exact na2 (List.mem_filterMap.mpr ⟨X.env, List.mem_cons_self, fr.trans (by rw [z])⟩)
    have nF : a ∉ X.fs := by
      intro m
      obtain ⟨e, me, q⟩ := List.mem_filterMap.mp m
      exact na2 (List.mem_filterMap.mpr ⟨e, .tail _ me, q⟩)
    have S3 := J3.suite ge de na nL nF
    have each : ∀ {hd2 : List ExceptHandler} {l2 : List (Value × Nat × (Addr → Value → Option Addr → TS))}, HdAs X hd2 l2 → wAsM X.K Wo D l2 cls d σ1 H1 → wpAny (model X.prog X.w) X.A (handleBy (.ref a) X.env hd2) (SP X pins D) X.xe { s' with heap := h3 } := by
      intro hd2 l2 k
      induction k with
      | nil =>
        intro w
        refine wpAny_handleBy_nil ?_
        have out : wpAny (model X.prog X.w) X.A (setFlight (.ref a) X.env.frame) (fun _ t4 => wpAny (model X.prog X.w) X.A (throw (.ref a) : Sem Flow) (SP X pins D) X.xe t4) X.xe { s' with heap := h3 } := by
          rw [fr]
          exact HandSPX.setFlight_upZ fl fun h4 q4 up4 => wpAny_throw (tk _ _ ⟨a, B, sI, pins, σ1, H1, cls, d, rfl, J, nb, (up.trans up3).trans up4, .inr (.inr (by rw [st]; exact q4)), na, os, ag, w⟩)
        obtain ⟨_, _, _, oe1, vs1, T, _, _, g1, _, d1, v1, _⟩ := id fl
        unfold PySem.passOn
        refine wpAny_bind (wpAny_field g1 d1 v1 ?_)
        rw [if_neg (show ¬ ((Value.ref T == Value.none) = true) by simp)]
        first | exact wpAny_bind (wpAny_pure (wpAny_bind out)) | exact wpAny_bind out
      | @cons x n c i ts b₀ suite np hp hd3 l3 hi hln hc su r ih =>
        rintro ⟨b, eb, yes, no⟩
        refine wpAny_handleBy_cons (codeAny_handlers_test ?_) (by intro q; cases q)
        have kind : PySem.W.Looks (model X.prog X.w) h3 (typeOf (.ref a)) cls := fun _ _ _ _ k q => wpAny_typeOf_ref (k _ _ ge) (by rw [ze.1]; exact q)
        have look := PySem.W.exm_one (M := model X.prog X.w) (J3.kIn) kind eb
        have named : ∀ {Q : Value → Shared → Prop} {E : Value → Shared → Prop}, Q c { s' with heap := h3 } → wpAny (model X.prog X.w) (X.A.mark (some (.ref a))) (eval (.Name x np) X.env) Q E { s' with heap := h3 } := by
          intro Q E q
          rcases hc with ⟨g, db, hm | ⟨hm, hv, hn⟩⟩
          · exact ld_glob (X := X.suite a ((a, oe) :: (X.pn ++ pins))) S3 g hm q db
          · exact ld_blt (X := X.suite a ((a, oe) :: (X.pn ++ pins))) S3 g hm hv q hn db
        refine named (look.here ?_)
        cases b with
        | false => exact (show wpAny _ X.A (handleBy (.ref a) X.env hd3) _ _ _ from ih (no rfl))
        | true =>
          refine codeAny_handlers_suite_as (HandSPX.lands_againZ fl fun h4 fl4 up4 => ?_)
          have J4 : Inv X pins σ1 H1 { s' with heap := h4 } := J.landed nb fl4.1 ((up.trans up3).trans up4) os ag
          obtain ⟨oe4, vs4, g4, z4, d4⟩ := fl4.there
          refine store_ok (X := X.suite a ((a, oe4) :: (X.pn ++ pins))) (v := .ref a) (J4.suite g4 d4 na nL nF) nd hi (.inl hln) rfl (fun s5 S5 => ?_) (.inr hln)
          refine wpAny_mono ((su a oe4 cls d (X.pn ++ pins) z4 ⟨_, d4⟩).run [] s5 _ H1 _ S5 (yes rfl a na)) (fun f s6 q => ?_) (fun _ _ z => False.elim z)
          have done : ∀ {σ6 : L2.St} {H6 : Hp} {Q : Shared → Prop}, Inv (X.suite a ((a, oe4) :: (X.pn ++ pins))) [] σ6 H6 s6 → (∀ s7, Inv X pins (σ6.set i none) H6 s7 → Q s7) → wpAny (model X.prog X.w) X.A (do bindName X.env n .none; unbindBehindTheSuite X.env n hp) (fun _ s7 => Q s7) X.xe s6 :=
            fun {_ _ _} S6 hq => gone_ok (S6.unsuite ok) nd hi hln hq
          cases f with
          | ret u =>
            obtain ⟨v6, σ6, H6, S6, r6, q6⟩ := q
            exact done S6 fun _ J7 => ⟨_, _, _, J7, r6, q6⟩
          | next => obtain ⟨_, _, S6, q6⟩ := q; exact done S6 fun _ J7 => ⟨_, _, J7, q6⟩
          | brk => obtain ⟨_, _, S6, q6⟩ := q; exact done S6 fun _ J7 => ⟨_, _, J7, q6⟩
          | cont => obtain ⟨_, _, S6, q6⟩ := q; exact done S6 fun _ J7 => ⟨_, _, J7, q6⟩
    exact each cl w
  · cases f with
    | ret u => obtain ⟨v, σ1, H1, J, r, q⟩ := q; exact ⟨v, σ1, H1, J.ofTry ok, r, q⟩
    | next => obtain ⟨σ1, H1, J, q⟩ := q; exact wpAny_execs_nil ⟨σ1, H1, J.ofTry ok, q⟩
    | brk => obtain ⟨σ1, H1, J, q⟩ := q; exact ⟨σ1, H1, J.ofTry ok, q⟩
    | cont => obtain ⟨σ1, H1, J, q⟩ := q; exact ⟨σ1, H1, J.ofTry ok, q⟩
end
/-- the clauses of the text, and what they are worth -/
inductive ClOk (X : Cx) : List ExceptHandler → List (Cl × Addr) → Prop
  | nil : ClOk X [] []
  | cons {x n : Str} {C : Addr} {i : Nat} {fs : Nat → Option Nat → SM} {b₀ : Stmt} {suite : List Stmt} {np hp : Pos} {hds : List ExceptHandler} {l : List (Cl × Addr)} (hi : X.N[i]? = some n) (hln : X.env.kindOf n = some .local) (hc : Names X x (.ref C)) (hm : X.mg x = some (.ref C)) (te : PySem.W.exmOne X.K (.ref C) (.ref C) = some true)
      (sep : ∀ q ∈ l, PySem.W.exmOne X.K (.ref q.2) (.ref C) = some false)
      (su : ∀ (a : Addr) (oe : Obj) (d : Option Addr) (pn : List (Addr × Obj)), Zc (.ref C) d oe → (∃ vs, oe.data = .fields vs) → MB (X.suite a ((a, oe) :: pn)) W0 (b₀ :: suite) (fs a d)) (r : ClOk X hds l) :
      ClOk X (.ExceptHandler (some (.Name x np)) (some n) (b₀ :: suite) hp :: hds) ((⟨x, i, fs⟩, C) :: l)
abbrev tsOf (X : Cx) (q : Cl × Addr) : Value × Nat × (Addr → Value → Option Addr → TS) := (.ref q.2, q.1.i, fun a cls d D σ H => cls = .ref q.2 ∧ tS X W0 (q.1.fs a d) D σ H)
theorem ClOk.hd {X : Cx} {hds : List ExceptHandler} {l : List (Cl × Addr)} (h : ClOk X hds l) : HdAs X hds (l.map (tsOf X)) := by
  induction h with
  | nil => exact .nil
  | cons hi hln hc hm te sep su r ih =>
    refine .cons hi hln hc (fun a oe cls d pn hz hf => ⟨fun pins s σ H D I h => ?_⟩) ih
    obtain ⟨rfl, h⟩ := h
    exact (su a oe d pn hz hf).run pins s σ H D I h
section
variable {X : Cx} {W : WX} {body : List Stmt} {h₀ : ExceptHandler} {hds : List ExceptHandler} {l : List (Cl × Addr)} {pos : Pos} {fb : SM}
/-- one clause that takes the error -/
theorem cl_take {c : Cl} {C : Addr} {ω ω' : Wo} {H H' : Hp} {env : PEnv} {σ : L2.St} {st : Store} {fl : Option (List (Str × PV))} {d : Option Addr} {D : Ends} (x1 : Ext ω H ω' H') (w1 : Wd X.K ω' st H') (r1 : REnv X.K ω' env σ) (xr : XRep X.K ω' H H' fl d)
    (h : AfterS X W ω H (anyAd (clRun c fl env st)) D) : ∀ a : Addr, H' a = none → tS X W0 (c.fs a d) (DEnd D c.i) (σ.set c.i (some (.ref a))) H' := by
  intro a na
  unfold anyAd at h
  split at h
  case isFalse => exact False.elim h
  rename_i all
  have key : ∀ (dd : Nat) (ω2 : Wo), Ext ω H ω2 H' → Wd X.K ω2 st H' → REnv X.K ω2 (env.set c.i (some (excV a (hasF fl dd) fl))) (σ.set c.i (some (.ref a))) → hasF fl dd = d → tS X W0 (c.fs a d) (DEnd D c.i) (σ.set c.i (some (.ref a))) H' := by
    intro dd ω2 x2 w2 r2 ed
    subst ed
    refine ⟨ω2, st, _, w2, r2, ?_⟩
    have h : AfterS X W ω H (clRun c fl env st a dd) D := by rw [all a dd]; exact h
    unfold clRun at h
    cases q : c.fs a (hasF fl dd) (env.set c.i (some (excV a (hasF fl dd) fl))) st with
    | nx e2 s2 => rw [q] at h; exact fun ω3 H3 σ3 x w r => h ω3 H3 (σ3.set c.i none) (x2.trans x) w (r.unset c.i)
    | bk e2 s2 => rw [q] at h; exact fun ω3 H3 σ3 x w r => h ω3 H3 (σ3.set c.i none) (x2.trans x) w (r.unset c.i)
    | ct e2 s2 => rw [q] at h; exact fun ω3 H3 σ3 x w r => h ω3 H3 (σ3.set c.i none) (x2.trans x) w (r.unset c.i)
    | rt v s2 => rw [q] at h; exact fun ω3 H3 y x w r => h ω3 H3 y (x2.trans x) w r
    | err e2 n2 f2 s2 => rw [q] at h; exact False.elim h
    | stuck => rw [q] at h; exact False.elim h
  cases fl with
  | none =>
    have ed : d = none := xr
    subst ed
    exact key 0 ω' x1 w1 (r1.set (.con _) c.i) rfl
  | some f =>
    obtain ⟨p, vs, rfl, n0, ep, nF, nρ, ens, rv⟩ := xr
    have le := Wo.fz_le (o := .xd vs) nF
    exact key p (ω'.fz p (.xd vs)) (Wd.freezeX (K := X.K) x1 n0 ep nF) (w1.freeze ep nF nρ) ((r1.mono le).set (.exc upd_same ens.symm (rv.mono le)) c.i) rfl
theorem cl_pick {n : Str} {cls : Value} {ω ω' : Wo} {H H' : Hp} {env : PEnv} {σ : L2.St} {st : Store} {fl : Option (List (Str × PV))} {d : Option Addr} {D : Ends} {Wo : WX} (x1 : Ext ω H ω' H') (w1 : Wd X.K ω' st H') (r1 : REnv X.K ω' env σ) (xr : XRep X.K ω' H H' fl d) (m1 : X.mg n = some cls) {hds : List ExceptHandler} {l : List (Cl × Addr)} (k : ClOk X hds l) :
    AfterS X W ω H (clPick n fl env st (l.map (·.1))) D → (∃ q ∈ l, cls = .ref q.2) ∧ wAsM X.K Wo D (l.map (tsOf X)) cls d σ H' := by
  induction k with
  | nil => exact False.elim
  | @cons x nn C i fs b₀ suite np hp hds l hi hln hc hm te sep su r ih =>
    intro h
    have h : AfterS X W ω H (if n = x then anyAd (clRun ⟨x, i, fs⟩ fl env st) else clPick n fl env st (l.map (·.1))) D := h
    by_cases en : n = x
    · subst en
      cases hm.symm.trans m1
      rw [if_pos rfl] at h
      exact ⟨⟨_, List.mem_cons_self, rfl⟩, true, te, fun _ a na => ⟨rfl, cl_take (c := ⟨n, i, fs⟩) (C := C) x1 w1 r1 xr h a na⟩, (fun z => nomatch z)⟩
    · rw [if_neg en] at h
      obtain ⟨⟨q, mq, e⟩, w⟩ := ih h
      exact ⟨⟨q, .tail _ mq, e⟩, false, by rw [e]; exact sep q mq, (fun z => nomatch z), fun _ => w⟩
theorem ms_tryM {cs : List Cl} (hs : X.stack = X.env :: X.outer) (hf : X.env.frame = some X.env.locals) (hN : X.N.Nodup) (k : ClOk X (h₀ :: hds) l) (ec : l.map (·.1) = cs)
    (hb : ∀ (W : WX) (pn : List (Addr × Obj)) (xe : Value → Shared → Prop), Takes (X.tr pn xe) W → MB (X.tr pn xe) W body fb) : MS X W (.Try body (h₀ :: hds) [] [] pos) (sTryM cs fb) := by
  subst ec
  refine psI (ps_try_asM (tb := fun W => tS X W fb) (Wo := fun _ _ _ _ => False) hs hf hN takes0 (fun W pn xe tk _ => hb W pn xe tk) k.hd) ?_
  rintro D σ H ⟨ω, st, env, wd, re, h⟩
  refine ⟨ω, st, env, wd, re, ?_⟩
  unfold sTryM at h
  cases q3 : fb env st with
  | err e2 n2 f2 s2 =>
    rw [q3] at h
    intro ω' H' σ' d cls x1 w1 r1 m1 xr
    exact (cl_pick x1 w1 r1 xr m1 k h).2
  | nx e2 s2 => rw [q3] at h; exact h
  | bk e2 s2 => rw [q3] at h; exact h
  | ct e2 s2 => rw [q3] at h; exact h
  | rt v s2 => rw [q3] at h; exact h
  | stuck => rw [q3] at h; exact False.elim h
end
/-- the suites of errors without fields, and with them -/
def clNone (f : Nat → SM) : Nat → Option Nat → SM := fun a d => match d with
  | none => f a
  | some _ => sStuckM
def clSome (f : Nat → Nat → SM) : Nat → Option Nat → SM := fun a d => match d with
  | some d => f a d
  | none => sStuckM
theorem mb_stuck {X : Cx} {W : WX} {s : List Stmt} : MB X W s sStuckM := ⟨fun _ _ _ _ _ _ ⟨_, _, _, _, _, h⟩ => False.elim h⟩
theorem su_none {X : Cx} {C : Addr} {s : List Stmt} {f : Nat → SM} (h : ∀ (a : Addr) (oe : Obj) (pn : List (Addr × Obj)), Zc (.ref C) none oe → (∃ vs, oe.data = .fields vs) → MB (X.suite a ((a, oe) :: pn)) W0 s (f a)) :
    ∀ (a : Addr) (oe : Obj) (d : Option Addr) (pn : List (Addr × Obj)), Zc (.ref C) d oe → (∃ vs, oe.data = .fields vs) → MB (X.suite a ((a, oe) :: pn)) W0 s (clNone f a d)
  | a, oe, none, pn, hz, hf => h a oe pn hz hf
  | _, _, some _, _, _, _ => mb_stuck
theorem su_some {X : Cx} {C : Addr} {s : List Stmt} {f : Nat → Nat → SM} (h : ∀ (a : Addr) (oe : Obj) (d : Addr) (pn : List (Addr × Obj)), Zc (.ref C) (some d) oe → (∃ vs, oe.data = .fields vs) → MB (X.suite a ((a, oe) :: pn)) W0 s (f a d)) :
    ∀ (a : Addr) (oe : Obj) (d : Option Addr) (pn : List (Addr × Obj)), Zc (.ref C) d oe → (∃ vs, oe.data = .fields vs) → MB (X.suite a ((a, oe) :: pn)) W0 s (clSome f a d)
  | a, oe, some d, pn, hz, hf => h a oe d pn hz hf
  | _, _, none, _, _, _ => mb_stuck
/-! ### isinstance of an error without fields -/
def eIsE0 (a : Nat) (b : Bool) (fe : EM) : EM := fun env st => (fe env st).bind fun v st1 => match v with
  | .con (.ref a') => if a' = a then .ok (.bl b) st1 else .stuck
  | _ => .stuck
def rIs0 (K : PySem.W.Frag) (C a : Addr) : List V → Hp → VK → Prop := fun xs H Q => ∃ (c : V) (cv : Value) (b : Bool), xs = [.ref a, c] ∧ (∀ u, RelV c u → u = cv) ∧ PySem.W.kitOne K (.ref C) cv = some b ∧ Q (.bl b) H
section
variable {X : Cx} {W : WX} {a C : Addr} {oe : Obj} {pn : List (Addr × Obj)} {e : Expr} {fe : EM} {y : Str} {p p2 pos : Pos} {b : Bool}
theorem call_is0 (T : IsC X.K C) (hz : Zc (.ref C) none oe) (hf : ∃ vs, oe.data = .fields vs) : CallR (X.suite a ((a, oe) :: pn)) (.builtin "isinstance") (rIs0 X.K C a) := by
  intro pins s σ H xs us Q I r h
  obtain ⟨c, cv, b, rfl, hcv, e, q⟩ := h
  obtain ⟨u1, u2, rfl, r1, r2⟩ := vals2 r
  cases (show u1 = Value.ref a from r1)
  have ec := hcv _ r2
  subst ec
  have J : PySem.W.InstAt s.heap a oe C none := by
    obtain ⟨hget, _⟩ := I.pin (a, oe) (List.mem_append.mpr (.inl List.mem_cons_self))
    obtain ⟨vs, hv⟩ := hf
    exact ⟨hget, hz.1, by unfold PySem.W.notCls; rw [hv] <;> rfl, by rw [hz.2]; trivial⟩
  exact PySem.W.kia_one (PySem.W.kitx_exc T.hcl T.hg T.hk T.hs T.ha T.hn T.ht T.hm) I.kIn J e (fun z => nomatch z) fun tk => ⟨.bl b, H, I.kept (t' := tk) fun _ _ z => z, rfl, q⟩
theorem me_isE0 {u : Value} {v : V} (T : IsC X.K C) (hz : Zc (.ref C) none oe) (hf : ∃ vs, oe.data = .fields vs) (hi : X.mg "isinstance" = none) (hv : bootBuiltins "isinstance" = some (.builtin "isinstance"))
    (hk : PySem.W.kitOne X.K (.ref C) u = some b) (hR : ∀ u', RelV v u' → u' = u) {c : Expr} (hcl : ∀ W, ME (X.suite a ((a, oe) :: pn)) W c (eC (.con v))) (he : ME (X.suite a ((a, oe) :: pn)) W e fe) (hg : Gl (X.suite a ((a, oe) :: pn)) "isinstance" := by rfl)
    (hs1 : starEach (e :: [c]) X.env = (false, eval e X.env) :: starEach [c] X.env := by rfl) (hs2 : starEach (c :: []) X.env = (false, eval c X.env) :: starEach [] X.env := by rfl) (hpl : (backTo pos (starEach [c] X.env)).any (·.1) = false := by rfl) :
    ME (X.suite a ((a, oe) :: pn)) W (.Call (.Name "isinstance" p) [e, c] [] pos) (eIsE0 a b fe) := by
  refine peI (pe_callB (call_is0 T hz hf) hg hi hv (pa_cons he (pa_cons (hcl W) pa_nil hs2) hs1) (by decide) (by decide) hs1 hpl) ?_
  rintro σ H Q ⟨ω, st, env, wd, re, h⟩
  refine ⟨ω, st, env, wd, re, (After.bind (Rel := RV X.K) h).mono ?_⟩
  rintro x H1 ⟨ω1, st1, pv, e1, wd1, r1, h1⟩
  split at h1
  · rename_i a'
    split at h1
    · rename_i hh
      subst hh
      cases r1
      refine ⟨ω1, st1, env, wd1, re.mono e1.le, ?_⟩
      intro ω2 H2 z e2 wd2 r2
      cases r2
      exact ⟨v, u, b, rfl, hR, hk, After.shift h1 e2 ω2 H2 (.bl b) (.refl _ _) wd2 (.bl b)⟩
    · exact False.elim h1
  · exact False.elim h1
end
/-! ### xs.index(x), where it stands in xs -/
def ixOf (v : PV) : List PV → Option Nat
  | [] => none
  | y :: r => if PyData.eqv (toD y) (toD v) = true then some 0 else (ixOf v r).map (· + 1)
theorem ixOf_some {v : PV} : ∀ {xs : List PV} {j : Nat}, ixOf v xs = some j → ∃ y, xs[j]? = some y ∧ PyData.eqv (toD y) (toD v) = true ∧ ∀ (m : Nat) (z : PV), m < j → xs[m]? = some z → PyData.eqv (toD z) (toD v) = false
  | [], _, h => by cases h
  | y :: r, j, h => by
    unfold ixOf at h
    by_cases e : PyData.eqv (toD y) (toD v) = true
    · rw [if_pos e] at h; cases h
      exact ⟨y, rfl, e, fun m z hm => absurd hm (Nat.not_lt_zero _)⟩
    · rw [if_neg e] at h
      obtain ⟨k, hk, rfl⟩ := Option.map_eq_some_iff.mp h
      obtain ⟨w, h1, h2, h3⟩ := ixOf_some hk
      refine ⟨w, h1, h2, fun m z hm hz => ?_⟩
      cases m with
      | zero => cases hz; simpa using e
      | succ m => exact h3 m z (by omega) (by simpa using hz)
def isSeqL (v : PV) (st : Store) : Bool := match seqOf st v with
  | some (false, _) => true
  | _ => false
def pIndex (v : PV) (vs : List PV) (st : Store) : Res PV := match vs with
  | [y] => match seqOf st v with
    | some (false, xs) => if isDs xs = true ∧ isD y = true ∧ xs.length ≤ 1000000 ∧ min (PyData.depthAll (toDs xs)) (toD y).depth ≤ 60 then match ixOf y xs with
      | some j => .ok (.int (j : Nat)) st
      | none => .stuck
      else .stuck
    | _ => .stuck
  | _ => .stuck
def rIx (K : PySem.W.Frag) : V → List V → Hp → VK → Prop := fun x xs H Q => ∃ (y : V) (d z : PyData) (ds : List PyData) (j : Nat), xs = [y] ∧ Dp K H x (.list ds) ∧ Dp K H y d ∧ PyData.plainAll ds = true ∧ d.plain = true ∧ min (PyData.depthAll ds) d.depth ≤ 60 ∧ ds.length ≤ 1000000 ∧
  ds[j]? = some z ∧ PyData.eqv z d = true ∧ (∀ (m : Nat) (z' : PyData), m < j → ds[m]? = some z' → PyData.eqv z' d = false) ∧ Q (.int (j : Nat)) H
theorem reads_len {h : Heap} : ∀ {ds : List PyData} {vs : List Value} {as : List Addr}, ReadsAll h vs ds as → vs.length = ds.length
  | [], _, _, .nil => rfl
  | _ :: _, _, _, .cons _ t => by rw [List.length_cons, List.length_cons, reads_len t]
section
variable {X : Cx}
theorem mt_ix (hu : X.A.units + 64 < cLine) : MtR X "list.index" (rIx X.K) := by
  rintro pins s σ H x xs v us Q I rx rxs ⟨y, d, z, ds, j, rfl, hl, hy, p1, p2, dep, len, hz, hit, no, q⟩
  obtain ⟨uy, rfl, ry⟩ : ∃ u, us = [u] ∧ RelV y u := by
    cases rxs with
    | cons r t => cases t; exact ⟨_, rfl, r⟩
  obtain ⟨bs, e1⟩ := Dp.reads I d y uy hy ry
  obtain ⟨as, e2⟩ := Dp.reads I (.list ds) x v hl rx
  cases e2 with
  | @list a o vs n _ as2 g1 g2 g3 g4 =>
    obtain ⟨oc, dd, data, sl⟩ := o
    simp only at g2 g3
    subst g2 g3
    have el := reads_len g4
    obtain ⟨jl, _⟩ := List.getElem?_eq_some_iff.mp hz
    have es : vs.size = ds.length := by rw [← el, Array.length_toList]
    have val : ∀ (m : Nat) (hm : m < vs.size) (w : PyData), ds[m]? = some w → SeqAt.readOf s.heap vs[m] = w := by
      intro m hm w hw
      rw [← SeqAt.readsAll_map_plain ds _ _ p1 g4, List.getElem?_map, List.getElem?_eq_getElem (by simpa using hm)] at hw
      simpa using Option.some.inj hw
    have hj : j < vs.size := by omega
    refine call_meets PySem.F.slot_list_index ⟨_, g1, rfl⟩ PySem.F.entry_list_index (PySem.F.args_list_index_2 _ _) (SeqAt.list_indexAt a vs n dd sl uy (fun u => PyData.eqv (SeqAt.readOf s.heap u) d) j hj (by omega) ?_ fun m hm hmj => ?_)
      ⟨g1, SeqAt.items_plain g4 e1 p1 p2 (by omega), ⟨.int (j : Nat), H, I.tok _, ⟨_, rfl⟩, q⟩⟩
    · show PyData.eqv (SeqAt.readOf s.heap vs[j]) d = true
      rw [val j hj z hz]; exact hit
    · show PyData.eqv (SeqAt.readOf s.heap vs[m]) d = false
      have := List.getElem?_eq_getElem (show m < ds.length by omega)
      rw [val m hm _ this]; exact no m _ hmj this
theorem mts_index (hu : X.A.units + 64 < cLine) : MtS X "list" "list.index" isSeqL pIndex := by
  refine ⟨_, mt_ix hu, fun ω st H v x wd r h => ?_, fun E ω st H v x vs xs Q wd rv rs h => ?_⟩
  · unfold isSeqL at h
    split at h
    · rename_i q
      obtain ⟨a, ws, rfl, _, hq⟩ := seqOf_rep wd r q
      rcases hq with ⟨z, _⟩ | ⟨_, hq⟩
      · cases z
      · exact .inl ⟨rfl, _, hq⟩
    · cases h
  · unfold pIndex at h
    split at h
    · split at h
      · rename_i ys q
        split at h
        · rename_i c
          obtain ⟨c1, c2, c3, c4⟩ := c
          split at h
          · rename_i j hj
            obtain ⟨w, k1, k2, k3⟩ := ixOf_some hj
            obtain ⟨a, ws, rfl, rw', hq⟩ := seqOf_rep wd rv q
            have hq : SqL X.K H a ws := by
              rcases hq with ⟨z, _⟩ | ⟨_, hq⟩
              · cases z
              · exact hq
            cases rs with
            | cons ry t =>
              cases t
              refine ⟨_, toD _, toD w, toDs ys, j, rfl, Dp.lst hq (rw'.dp wd.sub c1), ry.dp wd.sub c2, plain_toDs _, plain_toD _, c4, by rw [toDs_map, List.length_map]; exact c3, ?_, k2, fun m z' hm hz' => ?_, h.ok_here wd (.int _)⟩
              · rw [toDs_map, List.getElem?_map, k1]; rfl
              · rw [toDs_map, List.getElem?_map] at hz'
                cases e : ys[m]? with
                | none => rw [e] at hz'; cases hz'
                | some y => rw [e] at hz'; cases hz'; exact k3 m y hm e
          · exact False.elim h
        · exact False.elim h
      · exact False.elim h
    · exact False.elim h
end
end PL
/-! PL, part j: sorted of a tuple. -/
namespace PLT
open PySem PySem.Calls PyProof.Rows PySem.W
section
variable {prog : Program} {w : World} {A : Around} {E : Value → Shared → Prop} {s : Shared} {β : Type} {vs : List Value} {bs : List β} {enc : β → PyData} {R : Value → β → Prop} {κ : PyProof.Rows.KeyKind}
theorem collect_tup {l : Addr} {o : Obj} {n : Nat} {Q : List Value → Shared → Prop} (g : s.heap.get? l = some o) (c : o.cls = .type "tuple") (d : o.data = .seq vs.toArray n) (z : vs.length ≤ sizeLine)
    (h : Q vs { s with heap := (s.heap.push (seqObj "list" #[] 0)).update s.heap.objs.size (Obj.mapSeq (· ++ vs.toArray)) }) : wpAny (model prog w) A (collect (.ref l)) Q E s := by
  unfold collect
  refine wpAny_bind (wpAny_runValue (codeAny_builtin entry_proto_collect' ?_))
  refine (show wpAny _ _ (do again (.builtin "list.__iadd__" ⟨[← newList [], .ref l], []⟩)) _ _ s from wpAny_bind (wpAny_newList (wpAny_pure ⟨Code.quiet_builtin _ (by decide +kernel), codeAny_builtin entry_list_iadd' ?_⟩)))
  refine (show wpAny _ _ (Builtin.List.listExtendWith (.ref s.heap.objs.size) (.ref l) (.ref s.heap.objs.size)) _ _ { s with heap := s.heap.push (seqObj "list" #[] 0) } from ?_)
  have g2 : (s.heap.push (seqObj "list" #[] 0)).get? l = some o := Heap.get?_push_of_some _ g
  unfold Builtin.List.listExtendWith
  refine wpAny_bind (wpAny_typeOf (T := "tuple") ⟨o, g2, c⟩ ?_)
  rw [if_pos (by rw [show (Value.type "tuple" == Value.type "tuple") = true by rfl]; simp)]
  refine wpAny_bind (listItems_at g2 d (wpAny_bind (listItems_at (xs := #[]) (n := 0) (Heap.get?_push_size _ rfl) rfl ?_)))
  rw [if_neg (by simp)]
  refine wpAny_bind (listUpdate_at (xs := #[]) (n := 0) (Heap.get?_push_size _ rfl) rfl ?_ (Nat.zero_le _) (by show (#[] ++ vs.toArray).size ≤ sizeLine + 1; simp only [Array.size_append, List.size_toArray, List.length_nil]; omega))
  refine wpAny_pure (wpAny_bind (wpAny_load (get?_update_seq (Heap.get?_push_size _ rfl) _) ?_))
  have e : ((#[] : Array Value) ++ vs.toArray).toList = vs := by simp
  exact (show wpAny _ _ (pure ((#[] : Array Value) ++ vs.toArray).toList) Q E _ from by rw [e]; exact wpAny_pure h)
theorem sorted_tupV {l : Addr} {o : Obj} {n : Nat} {Q : Value → Shared → Prop} (g : s.heap.get? l = some o) (c : o.cls = .type "tuple") (d : o.data = .seq vs.toArray n) (z : vs.length ≤ sizeLine)
    (S : SortsAt prog w A.in1.in1 { s with heap := sortingHeap (copyHeap s.heap vs) (s.heap.objs.size + 1) vs } κ vs)
    (h : Q (.ref (s.heap.objs.size + 1)) { s with heap := sortedAll s.heap vs (sortVals κ false vs vs).toArray }) : wpAny (model prog w) A (call (.builtin "sorted") [.ref l]) Q E s := by
  refine call_function_entry_kw kind_sorted plain_sorted entry_sorted (args_sorted1 _) ?_
  unfold Builtin.«sorted»
  have sz : ((s.heap.push (seqObj "list" #[] 0)).update s.heap.objs.size (Obj.mapSeq (· ++ vs.toArray))).objs.size = s.heap.objs.size + 1 := (Heap.size_update _ _ _).trans (size_push' _ _)
  refine wpAny_bind (m := checkCount "sorted" 1 1 _) (wpAny_pure (wpAny_bind (collect_tup g c d z (wpAny_bind (wpAny_newList ?_ z)))))
  refine (show wpAny _ _ _ _ _ { s with heap := copyHeap s.heap vs } from ?_)
  rw [sz]
  refine wpAny_bind (wpAny_holding (wpAny_call_entry_kw slot_list_sort ⟨_, copyHeap_at s.heap vs, rfl⟩ entry_list_sort ?body (args_list_sort _)))
  case body =>
    refine (show wpAny (model prog w) A.in1.in1 (Builtin.«list.sort» ⟨[.ref (s.heap.objs.size + 1)], []⟩) _ _ _ from wpAny_mono (list_sort_vals (s := { s with heap := copyHeap s.heap vs }) (P := fun f s' => f = .done (.ret .none) ∧ Q (.ref (s.heap.objs.size + 1)) s') (copyHeap_at s.heap vs) S z ⟨rfl, h⟩) (fun f s' hf => ?_) fun _ _ e => e)
    rcases hf with ⟨rfl, q⟩
    exact ⟨_, rfl, wpAny_pure ⟨_, rfl, q⟩⟩
theorem sorted_tupD {l : Addr} {o : Obj} {n : Nat} {Q : Value → Shared → Prop} (g : s.heap.get? l = some o) (c : o.cls = .type "tuple") (d : o.data = .seq vs.toArray n) (e : EachIs R vs bs) (er : EachIs (fun v b => ∃ as, Reads s.heap v (enc b) as) vs bs) (al : AllAlike (bs.map enc)) (so : Sortable (bs.map enc)) (z : bs.length ≤ sizeLine)
    (hu : ∀ b, b ∈ bs → A.units + 2 + (enc b).depth < cLine) (h : ∀ out, out.length = bs.length → EachIs R out (bs.mergeSort (dataLe false enc)) → Q (.ref (s.heap.objs.size + 1)) { s with heap := sortedAll s.heap vs (List.toArray out) }) :
    wpAny (model prog w) A (call (.builtin "sorted") [.ref l]) Q E s := by
  have er2 : EachIs (fun v b => ∃ as, Reads (sortingHeap (copyHeap s.heap vs) (s.heap.objs.size + 1) vs) v (enc b) as) vs bs := er.mono fun _ _ x => x.elim fun as r => ⟨as, PyProof.Rows.Reads.keeps (fun _ _ => sorting_copy_old) r⟩
  have S := SortsAt.data (prog := prog) (w := w) (A := A.in1.in1) (s := { s with heap := sortingHeap (copyHeap s.heap vs) (s.heap.objs.size + 1) vs }) (each_map (R := fun v d => ∃ as, Reads (sortingHeap (copyHeap s.heap vs) (s.heap.objs.size + 1) vs) v d as) enc er2) al so (bound_map hu)
  exact sorted_tupV g c d (by rw [e.length]; exact z) S (h _ (by rw [sortVals_length false rfl]; exact e.length) (sortVals_data false e er2 al))
end
end PLT
namespace PL
open PySem PySem.Spec PyProof.Rows L2
open Classical in
/-- sorted of any list or tuple -/
noncomputable def pSortedA (v : PV) (st : Store) : Res PV := match seqOf st v with
  | some (_, xs) => if SortOk xs ∧ xs.length ≤ 1000000 then .ok (.lst (xs.mergeSort (PySem.W.dataLe false toD))) st else .stuck
  | _ => .stuck
section
variable {X : Cx}
theorem cs_sortedA (hu : X.A.units + 64 < cLine) : CallS X (.builtin "sorted") (one pSortedA) := .one fun pins s σ H x u Q E ω st a I rx wd ra h => by
  unfold pSortedA at h
  split at h
  · rename_i t xs q
    split at h
    · rename_i hz
      obtain ⟨⟨h1, h2, h3, h4⟩, hlen⟩ := hz
      obtain ⟨p, ws, e, rs, ht⟩ := seqOf_rep wd ra q
      subst e
      cases rx
      rw [toDs_map] at h2 h3 h4
      rcases ht with ⟨_, hq⟩ | ⟨_, hq⟩
      · obtain ⟨bs, r2⟩ := Dp.reads I _ _ _ (Dp.tup hq (rs.dp wd.sub h1)) (show RelV (.ref p) (.ref p) from rfl)
        obtain ⟨its, rv, ⟨o, ho, hc, n, hdt⟩, hlen2⟩ := I.tuple hq
        have ei := each_of rv rs
        refine PLT.sorted_tupD (R := Stands X.K ω) (enc := toD) ho hc hdt ei (each_reads I wd ei h1) h2 h3 (by rw [sizeLine_eq]; omega) (fun b hb => ?_) fun out ho hr => ?_
        · have := h4 _ (List.mem_map.mpr ⟨b, hb, rfl⟩)
          omega
        · obtain ⟨os, v1, v2⟩ := each_back hr
          obtain ⟨ep, he'⟩ := PyProof.Rows.sortedAll_at s.heap its out.toArray
          refine ⟨.ref _, upd H (s.heap.objs.size + 1) (.lst os), I.laid (t' := s.toks) (fun _ _ => PyProof.Rows.sortedAll_old) (Nat.le_succ _) ⟨?_, out, ep, v1, he'⟩, rfl, new_lst wd v2 h _ (I.hok.fresh (Nat.le_succ _))⟩
          rw [v1.length, ho, sizeLine_eq]
          omega
      · obtain ⟨its, rv, hl, hz⟩ := I.list hq
        have ei := each_of rv rs
        refine PySem.W.sorted_data (R := Stands X.K ω) (enc := toD) hl.isList ei (each_reads I wd ei h1) h2 h3 (by rw [rs.length]; exact hz) (fun b hb => ?_) fun out ho hr => ?_
        · have := h4 _ (List.mem_map.mpr ⟨b, hb, rfl⟩)
          omega
        · obtain ⟨os, v1, v2⟩ := each_back hr
          obtain ⟨ep, he'⟩ := PyProof.Rows.sortedAll_at s.heap its out.toArray
          refine ⟨.ref _, upd H (s.heap.objs.size + 1) (.lst os), I.laid (t' := s.toks) (fun _ _ => PyProof.Rows.sortedAll_old) (Nat.le_succ _) ⟨?_, out, ep, v1, he'⟩, rfl, new_lst wd v2 h _ (I.hok.fresh (Nat.le_succ _))⟩
          rw [v1.length, ho, rs.length]
          exact hz
    · exact False.elim h
  · exact False.elim h
end
end PL
/-! PL, part k: dicts, texts cut at a sign. -/
namespace PL
open PySem PySem.Spec PyProof.Rows L2
/-! ### dicts whose keys are ints and texts -/
def keyPV : Key → PV
  | .inl i => .int i
  | .inr x => .str x
def keyOf : PV → Option Key
  | .int i => some (.inl i)
  | .str x => some (.inr x)
  | _ => none
def dget : List (Key × PV) → Key → Option PV
  | [], _ => none
  | (j, x) :: r, k => if j = k then some x else dget r k
def dput : List (Key × PV) → Key → PV → List (Key × PV)
  | [], k, x => [(k, x)]
  | (j, y) :: r, k, x => if j = k then (j, x) :: r.map (fun p => if p.1 = k then (p.1, x) else p) else (j, y) :: dput r k x
section
variable {K : PySem.W.Frag} {ω : Wo} {H : Hp} {st : Store}
theorem RepD.length {xs : List (Key × PV)} {vs : List (Key × V)} (r : RepD K ω xs vs) : xs.length = vs.length := by
  induction r with
  | nil => rfl
  | cons _ _ ih => simp [ih]
theorem RepD.keys {xs : List (Key × PV)} {vs : List (Key × V)} (r : RepD K ω xs vs) : xs.map (·.1) = vs.map (·.1) := by
  induction r with
  | nil => rfl
  | cons _ _ ih => simp [ih]
theorem RepD.get {xs : List (Key × PV)} {vs : List (Key × V)} (r : RepD K ω xs vs) {k : Key} {x : PV} (h : dget xs k = some x) : ∃ v, valV vs k = some v ∧ Rep K ω x v := by
  induction r with
  | nil => cases h
  | @cons j y v xs vs r0 _ ih =>
    unfold dget at h
    by_cases e : j = k
    · rw [if_pos e] at h
      cases h
      exact ⟨v, valV_pos (p := (j, v)) e, r0⟩
    · rw [if_neg e] at h
      obtain ⟨w, e1, r1⟩ := ih h
      exact ⟨w, by rw [valV_neg (p := (j, v)) e]; exact e1, r1⟩
theorem RepD.putAll {xs : List (Key × PV)} {vs : List (Key × V)} (r : RepD K ω xs vs) {k : Key} {x : PV} {v : V} (rv : Rep K ω x v) :
    RepD K ω (xs.map fun p => if p.1 = k then (p.1, x) else p) (vs.map fun kv => if kv.1 = k then (kv.1, v) else kv) := by
  induction r with
  | nil => exact .nil
  | @cons j y w xs vs r0 _ ih =>
    rw [List.map_cons, List.map_cons]
    by_cases e : j = k
    · rw [if_pos e, if_pos e]; exact .cons rv ih
    · rw [if_neg e, if_neg e]; exact .cons r0 ih
theorem RepD.put {xs : List (Key × PV)} {vs : List (Key × V)} (r : RepD K ω xs vs) {k : Key} {x : PV} {v : V} (rv : Rep K ω x v) : RepD K ω (dput xs k x) (putK vs k v) := by
  induction r with
  | nil => unfold dput putK; simp; exact .cons rv .nil
  | @cons j y w xs vs r0 r1 ih =>
    unfold dput
    by_cases e : j = k
    · rw [if_pos e]
      have : putK ((j, w) :: vs) k v = (j, v) :: vs.map (fun kv => if kv.1 = k then (kv.1, v) else kv) := by
        unfold putK
        rw [if_pos (by simp [e]), List.map_cons, if_pos e]
      rw [this]
      exact .cons rv (r1.putAll rv)
    · rw [if_neg e]
      have : putK ((j, w) :: vs) k v = (j, w) :: putK vs k v := by
        unfold putK
        by_cases a : (vs.any fun kv => decide (kv.1 = k)) = true
        · rw [if_pos a, if_pos (by rw [List.any_cons, a, Bool.or_true]), List.map_cons, if_neg e]
        · rw [if_neg a, if_neg (by rw [List.any_cons, decide_eq_false e, Bool.false_or]; exact a), List.cons_append]
      rw [this]
      exact .cons r0 ih
theorem key_rep {w : PV} {k : Key} {y : V} (h : keyOf w = some k) (r : Rep K ω w y) : y = kV k := by
  cases w with
  | int i => cases h; cases r; rfl
  | str z => cases h; cases r; rfl
  | _ => cases h
theorem keyPV_rep (k : Key) : Rep K ω (keyPV k) (kV k) := by
  cases k with
  | inl i => exact .int i
  | inr z => exact .str z
def dicOf (st : Store) : PV → Option (List (Key × PV))
  | .loc l => match st[l]? with
    | some (.dic kvs) => some kvs
    | some (.fdic kvs) => some kvs
    | _ => none
  | _ => none
theorem dicOf_rep (wd : Wd K ω st H) {v : PV} {x : V} (r : Rep K ω v x) {kvs : List (Key × PV)} (e : dicOf st v = some kvs) : ∃ a vs, x = .ref a ∧ Rd H a (.dK vs) ∧ RepD K ω kvs vs := by
  unfold dicOf at e
  split at e
  · split at e
    · rename_i q
      cases e
      cases r with
      | loc ea =>
        obtain ⟨vs, h, rd⟩ := wd.obj _ _ _ ea q
        exact ⟨_, vs, rfl, .inl h, rd⟩
    · rename_i q
      cases e
      cases r with
      | loc ea =>
        obtain ⟨vs, od, _, h, rd⟩ := wd.obj _ _ _ ea q
        exact ⟨_, vs, rfl, .inr ⟨od, h⟩, rd⟩
    · cases e
  · cases e
end
/-- {} -/
def eDict0 : EM := fun _ st => .ok (.loc st.length) (st ++ [.dic []])
/-- a[i] of a dict, or of a list, tuple, text -/
def pIxD (v w : PV) (st : Store) : Res PV := match dicOf st v with
  | some kvs => match keyOf w with
    | some k => match dget kvs k with
      | some x => .ok x st
      | none => .stuck
    | none => .stuck
  | none => pIx v w st
def pSetD (o i v : PV) (st : Store) : Res Unit := match o with
  | .loc l => match st[l]? with
    | some (.dic kvs) => match keyOf i with
      | some k => if kvs.length < sizeLine then .ok () (st.set l (.dic (dput kvs k v))) else .stuck
      | none => .stuck
    | _ => pSet o i v st
  | _ => pSet o i v st
section
variable {X : Cx} {W : WX} {pos : Pos}
theorem me_dict0 : ME X W (.Dict [] [] pos) eDict0 := by
  refine peI pe_dnewK ?_
  rintro σ H Q ⟨ω, st, env, wd, re, h⟩ p hp
  have h : After (gd X) (wx W σ) ω H (.ok (.loc st.length) (st ++ [.dic []])) (RV X.K) Q := h
  obtain ⟨w, x⟩ := wd.nwO hp (.dic []) (.dK []) fun _ _ => ⟨[], upd_same, .nil⟩
  refine h _ _ _ x w (.loc ?_)
  show (ω.ρ ++ [p])[st.length]? = some p
  rw [← wd.len]
  simp
theorem ix_dict (hu : X.A.units + 1 < cLine) : IxR X (fun x y H Q => ∃ a v, x = .ref a ∧ DGet H a y (some v) ∧ Q v H) := by
  intro value slice pins s σ H x y v u Q I rx ry h hs
  obtain ⟨a, v', rfl, g, q⟩ := h
  cases rx
  exact tail_any (dict_typeIs I g) PySem.F.slot_dict_getitem.lookup (d_getItem hu I g ry fun w' s3 I3 rw' => ⟨v', H, I3, rw', q⟩) hs
theorem is_ixD (hu : X.A.units + 64 < cLine) : IxS X pIxD := by
  obtain ⟨r, hr, hi⟩ := is_ix (X := X)
  refine ⟨_, (ix_dict (X := X) (by omega)).or hr, fun E ω st H v w x y Q wd rv rw' h => ?_⟩
  unfold pIxD at h
  split at h
  · rename_i kvs hd
    split at h
    · rename_i k hk
      split at h
      · rename_i z hz
        obtain ⟨a, vs, rfl, rd, rp⟩ := dicOf_rep wd rv hd
        obtain ⟨u, e, ru⟩ := rp.get hz
        refine .inl ⟨a, u, rfl, .inl ⟨vs, k, rd, key_rep hk rw', e.symm⟩, h.ok_here wd ru⟩
      · exact False.elim h
    · exact False.elim h
  · exact .inr (hi E ω st H v w x y Q wd rv rw' h)
theorem pset_or {t t' : TSet} (h : PSet X t) (h' : PSet X t') : PSet X (fun o i v H Q => t o i v H Q ∨ t' o i v H Q) := by
  intro pins s σ H o i v ov iv u Q I r1 r2 r3 q
  rcases q with q | q
  · exact h pins s σ H o i v ov iv u Q I r1 r2 r3 q
  · exact h' pins s σ H o i v ov iv u Q I r1 r2 r3 q
theorem sts_setD (hu : X.A.units + 64 < cLine) : StS X pSetD := by
  obtain ⟨r, hr, hi⟩ := sts_set (X := X)
  refine ⟨_, pset_or (set_dict (X := X) (by omega)) hr, fun E ω st H o i v xo xi x Q wd ro ri rv h => ?_⟩
  unfold pSetD at h
  split at h
  · split at h
    · rename_i kvs q
      split at h
      · rename_i k hk
        split at h
        · rename_i hz
          cases ro with
          | loc ea =>
            obtain ⟨vs, e, rd⟩ := wd.obj _ _ _ ea q
            obtain ⟨w, ex⟩ := wd.wrO ea e (fun _ _ z => nomatch z) (.dic (dput kvs k v)) (.dK (putK vs k x)) ⟨_, upd_same, rd.put rv⟩
            exact .inl ⟨_, _, rfl, .inl ⟨vs, k, e, key_rep hk ri, by rw [← rd.length]; exact hz, rfl⟩, h _ _ () ex w trivial⟩
        · exact False.elim h
      · exact False.elim h
    · exact .inr (hi E ω st H _ i v xo xi x Q wd ro ri rv h)
  · exact .inr (hi E ω st H _ i v xo xi x Q wd ro ri rv h)
end
/-! ### x.split(sep) -/
def pSplit (v : PV) (vs : List PV) (st : Store) : Res PV := match v, vs with
  | .str a, [.str b] => if (b.length == 0) = false ∧ a.length + 2 ≤ sizeLine then .ok (.lst ((Txt.split a b).map .str)) st else .stuck
  | _, _ => .stuck
theorem reps_of_strs {K : PySem.W.Frag} {ω : Wo} : ∀ ys : List Str, Reps K ω (ys.map PV.str) (ys.map V.str)
  | [] => .nil
  | y :: ys => .cons (.str y) (reps_of_strs ys)
section
variable {X : Cx}
theorem mts_split : MtS X "str" "str.split" isStrP pSplit := by
  refine ⟨_, mt_split, fun ω st H v x wd r h => ?_, fun E ω st H v x vs xs Q wd rv rs h => ?_⟩
  · unfold isStrP at h
    split at h
    · cases r
      rfl
    · cases h
  · unfold pSplit at h
    split at h
    · split at h
      · rename_i hz
        cases rv
        cases rs with
        | cons ry tl =>
          cases tl
          cases ry
          exact ⟨_, _, rfl, rfl, hz.1, hz.2, new_lst wd (reps_of_strs _) h⟩
      · exact False.elim h
    · exact False.elim h
end
/-! ### sorted of a dict of texts -/
def keyStrs : List (Key × PV) → Option (List Str)
  | [] => some []
  | (.inr z, _) :: r => (keyStrs r).map (z :: ·)
  | _ :: _ => none
theorem keyStrs_map : ∀ {kvs : List (Key × PV)} {ks : List Str}, keyStrs kvs = some ks → kvs.map (·.1) = ks.map Sum.inr
  | [], ks, e => by cases e; rfl
  | (.inr z, x) :: r, ks, e => by
    unfold keyStrs at e
    rw [Option.map_eq_some_iff] at e
    obtain ⟨ms, e1, rfl⟩ := e
    rw [List.map_cons, List.map_cons, keyStrs_map e1]
  | (.inl _, _) :: _, _, e => by cases e
/-- texts in order -/
def leS (a b : Str) : Bool := !decide (b.cps.toList < a.cps.toList)
theorem leS_iff {a b : Str} : leS a b = true ↔ a.cps.toList ≤ b.cps.toList := by
  unfold leS
  rw [Bool.not_eq_true', decide_eq_false_iff_not]
  exact List.not_lt
theorem str_ext' {x y : Str} (h : x.cps.toList = y.cps.toList) : x = y := by
  cases x; cases y
  congr 1
  exact Array.toList_inj.mp h
theorem leS_trans (a b c : Str) (h : leS a b = true) (h' : leS b c = true) : leS a c = true := leS_iff.mpr (List.le_trans (leS_iff.mp h) (leS_iff.mp h'))
theorem leS_total (a b : Str) : (leS a b || leS b a) = true := by
  rcases List.le_total a.cps.toList b.cps.toList with h | h
  · rw [leS_iff.mpr h]; rfl
  · rw [leS_iff.mpr h, Bool.or_true]
theorem leS_anti {a b : Str} (h : leS a b = true) (h' : leS b a = true) : a = b := str_ext' (List.le_antisymm (leS_iff.mp h) (leS_iff.mp h'))
theorem rising_le : ∀ {ys : List Str} {p : Str}, risingS p ys = true → (p :: ys).Pairwise fun a b => leS a b = true
  | [], p, _ => List.pairwise_singleton _ _
  | x :: r, p, h => by
    unfold risingS at h
    rw [Bool.and_eq_true] at h
    have ih := rising_le h.2
    have h1 : leS p x = true := by
      unfold leS
      rw [← PyProof.Rows.ltCps_eq]
      exact h.1
    refine List.pairwise_cons.mpr ⟨fun y m => ?_, ih⟩
    rcases List.mem_cons.mp m with rfl | m
    · exact h1
    · exact leS_trans _ _ _ h1 ((List.pairwise_cons.mp ih).1 y m)
theorem sortedS_le : ∀ {ys : List Str}, sortedS ys = true → ys.Pairwise fun a b => leS a b = true
  | [], _ => .nil
  | _ :: _, h => rising_le h
theorem sortedS_eq {ks ys : List Str} (p : ys.Perm ks) (h : sortedS ys = true) : ys = ks.mergeSort leS :=
  List.Perm.eq_of_pairwise (le := fun a b => leS a b = true) (fun a b _ _ h1 h2 => leS_anti h1 h2) (sortedS_le h) (List.pairwise_mergeSort (fun a b c h h' => leS_trans a b c h h') (fun a b => leS_total a b) ks) (p.trans (List.mergeSort_perm ..).symm)
/-- sorted of a list, a tuple, a dict of fewer than 64 texts -/
noncomputable def pSortedD (v : PV) (st : Store) : Res PV := match dicOf st v with
  | some kvs => match keyStrs kvs with
    | some ks => if ks.length < 64 then .ok (.lst ((ks.mergeSort leS).map .str)) st else .stuck
    | none => .stuck
  | none => pSortedA v st
theorem CallR.or' {X : Cx} {f : Value} {r r' : List V → Hp → VK → Prop} (h : CallR X f r) (h' : CallR X f r') : CallR X f (fun xs H Q => r xs H Q ∨ r' xs H Q) := by
  intro pins s σ H xs us Q I rx q
  rcases q with q | q
  · exact h pins s σ H xs us Q I rx q
  · exact h' pins s σ H xs us Q I rx q
theorem cs_sortedD {X : Cx} (hc : X.calm = true) (hu : X.A.units + 64 < cLine) : CallS X (.builtin "sorted") (one pSortedD) := by
  obtain ⟨r, hr, hi⟩ := cs_sortedA (X := X) hu
  refine ⟨_, CallR.or' (call_sortedD hc) hr, fun E ω st H vs xs Q wd rs h => ?_⟩
  unfold one at h
  split at h
  · rename_i v
    unfold pSortedD at h
    split at h
    · rename_i kvs hd
      split at h
      · rename_i ks hk
        split at h
        · rename_i hz
          cases rs with
          | cons r1 t =>
            cases t
            obtain ⟨a, ws, rfl, rd, rp⟩ := dicOf_rep wd r1 hd
            refine .inl ⟨a, ws, ks, rfl, rd, by rw [← rp.keys]; exact keyStrs_map hk, hz, fun ys p hp hs hn => ?_⟩
            rw [sortedS_eq hp hs]
            exact new_lst wd (reps_of_strs _) h p hn
        · exact False.elim h
      · exact False.elim h
    · exact .inr (hi E ω st H [v] xs Q wd rs h)
  · exact False.elim h
/-! ### a walk over a dict that is locked meanwhile -/
def pIterD (v : PV) (st : Store) : Res Itms := match v with
  | .loc l => match st[l]? with
    | some (.fdic kvs) => .ok ⟨kvs.map fun p => keyPV p.1, some (l, .fdic kvs)⟩ st
    | _ => .stuck
  | _ => .stuck
def iDict (f : EM) : IM := fun env st => (f env st).bind pIterD
section
variable {X : Cx} {W : WX} {tg e : Expr} {f : EM}
theorem itr_dict {K : PySem.W.Frag} {ω : Wo} {a : Addr} {l : Nat} {o : Obj} {kvs : List (Key × PV)} {vs : List (Key × V)} (e : ω.F a = some (.frz o (.dK vs))) (rp : RepD K ω kvs vs) :
    ItR K ω ⟨kvs.map fun p => keyPV p.1, some (l, .fdic kvs)⟩ (Itk a o vs) where
  goes := fun i ω1 st H hi le wd ok => ⟨wd.sub _ _ (le.fz _ _ e), by rw [← rp.length]; simpa using hi⟩
  stops := fun ω1 st H le wd ok => ⟨wd.sub _ _ (le.fz _ _ e), by rw [← rp.length]; simp⟩
  yields := fun i ω1 st H x H' hi le wd ok y => by
    obtain ⟨rfl, k, v, hk, rfl⟩ := y
    have hk' : (kvs.map (·.1))[i]? = some k := by rw [rp.keys, List.getElem?_map, hk]; rfl
    refine ⟨ω1, keyPV k, .refl _ _, wd, ?_, keyPV_rep k⟩
    show (kvs.map fun p => keyPV p.1)[i]? = some (keyPV k)
    rw [List.getElem?_map] at hk' ⊢
    cases q : kvs[i]? with
    | none => rw [q] at hk'; cases hk'
    | some p => rw [q] at hk'; cases hk'; rfl
theorem mi_dict (he : ME X W e f) : MI X W tg e (iDict f) := by
  refine piI (pi_keys he) ?_
  rintro σ H R ⟨ω, st, env, wd, re, h⟩
  refine ⟨ω, st, env, wd, re, (After.bind (Rel := RV X.K) h).mono ?_⟩
  rintro x H1 ⟨ω1, st1, v, e1, wd1, r1, h1⟩
  unfold pIterD at h1
  split at h1
  · split at h1
    · rename_i kvs q
      cases r1 with
      | loc ea =>
        obtain ⟨vs, od, hF, hH, rp⟩ := wd1.obj _ _ _ ea q
        exact ⟨_, od, rfl, .inl ⟨vs, hH, h1.ok_here wd1 (itr_dict hF rp)⟩⟩
    · exact False.elim h1
  · exact False.elim h1
/-- the dict at the variable in slot i is locked while f runs -/
def eLock (i : Nat) (f : EM) : EM := fun env st => match env[i]? with
  | some (some (.loc l)) => match st[l]? with
    | some (.dic kvs) => match f env (st.set l (.fdic kvs)) with
      | .ok v st' => .ok v (st'.set l (.dic kvs))
      | _ => .stuck
    | _ => .stuck
  | _ => .stuck
/-- what is frozen but for the thing at d -/
def Wo.cutF (ω : Wo) (d : Addr) : Wo := ⟨fun b => if b = d then none else ω.F b, ω.ρ⟩
section
variable {K : PySem.W.Frag} {ω : Wo} {d : Addr} {od : Obj} {vs : List (Key × V)}
theorem cutF_eq {b : Addr} {u : HO} (hd : ω.F d = some (.frz od (.dK vs))) (h : ω.F b = some u) (n : u ≠ .frz od (.dK vs)) : (ω.cutF d).F b = some u := by
  have : b ≠ d := fun z => by subst z; rw [hd] at h; cases h; exact n rfl
  show (if b = d then none else ω.F b) = _
  rw [if_neg this, h]
mutual
theorem Rep.cutF (hd : ω.F d = some (.frz od (.dK vs))) : ∀ {x : PV} {v : V}, Rep K ω x v → Rep K (ω.cutF d) x v
  | _, _, .non => .non
  | _, _, .bl b => .bl b
  | _, _, .int i => .int i
  | _, _, .str x => .str x
  | _, _, .tup e r => .tup (cutF_eq hd e (fun z => nomatch z)) (Reps.cutF hd r)
  | _, _, .lst e r => .lst (cutF_eq hd e (fun z => nomatch z)) (Reps.cutF hd r)
  | _, _, .frz e r => by
    refine .frz ?_ (Reps.cutF hd r)
    rcases e with (e | ⟨o, e⟩) | e
    · exact .inl (.inl (cutF_eq hd e (fun z => nomatch z)))
    · exact .inl (.inr ⟨o, cutF_eq hd e (fun z => nomatch z)⟩)
    · exact .inr e
  | _, _, .loc e => .loc e
  | _, _, .con v => .con v
  | _, _, .exc e n r => .exc (cutF_eq hd e (fun z => nomatch z)) n (Reps.cutF hd r)
theorem Reps.cutF (hd : ω.F d = some (.frz od (.dK vs))) : ∀ {xs : List PV} {vs' : List V}, Reps K ω xs vs' → Reps K (ω.cutF d) xs vs'
  | _, _, .nil => .nil
  | _, _, .cons r t => .cons (Rep.cutF hd r) (Reps.cutF hd t)
end
theorem RepD.cutF (hd : ω.F d = some (.frz od (.dK vs))) {xs : List (Key × PV)} {ws : List (Key × V)} (r : RepD K ω xs ws) : RepD K (ω.cutF d) xs ws := by
  induction r with
  | nil => exact .nil
  | cons r _ ih => exact .cons (r.cutF hd) ih
theorem ObjR.cutF (hd : ω.F d = Option.some (HO.frz od (HO.dK vs))) {H : Hp} {a : Addr} (n : a ≠ d) : ∀ {o : PO}, ObjR K ω H a o → ObjR K (ω.cutF d) H a o
  | .lst _, ⟨ws, h, r⟩ => ⟨ws, h, r.cutF hd⟩
  | .dic _, ⟨ws, h, r⟩ => ⟨ws, h, r.cutF hd⟩
  | .fdic _, ⟨ws, o, hF, h, r⟩ => ⟨ws, o, by show (if a = d then none else ω.F a) = _; rw [if_neg n]; exact hF, h, r.cutF hd⟩
end
theorem me_lock {i : Nat} (h : ME X W e f) : ME X W e (eLock i f) := by
  refine peI (pe_lock h) ?_
  rintro σ H Q ⟨ω, st, env, wd, re, hq⟩
  unfold eLock at hq
  split at hq
  · rename_i l he
    split at hq
    · rename_i kvs hs
      obtain ⟨x, hx, rx⟩ := re.at' _ _ he
      cases rx with
      | loc ea =>
        rename_i d
        obtain ⟨vs, hd, rp⟩ := wd.obj _ _ _ ea hs
        have md := List.mem_of_getElem? ea
        have hl := wd.lt ea
        have nF : ω.F d = none := by
          rcases wd.sep d md with n | ⟨o, u, n⟩
          · exact n
          · have := wd.sub _ _ n
            rw [hd] at this; cases this
        refine ⟨d, .dK vs, hd, trivial, fun od => ?_⟩
        let ω1 : Wo := ⟨upd ω.F d (.frz od (.dK vs)), ω.ρ⟩
        have le1 : ω.Le ω1 := Wo.fz_le nF
        have hF1 : ω1.F d = some (.frz od (.dK vs)) := upd_same
        have nd : ∀ {l' : Nat} {a : Addr}, ω.ρ[l']? = some a → l' ≠ l → a ≠ d := fun {l' a} e1 hne z => by
          subst z
          exact hne ((List.getElem?_inj (by rw [wd.len]; exact wd.lt e1) wd.nd).mp (e1.trans ea.symm))
        have wd1 : Wd X.K ω1 (st.set l (.fdic kvs)) (upd H d (.frz od (.dK vs))) := by
          refine ⟨fun b u q => ?_, by rw [List.length_set]; exact wd.len, wd.nd, fun a m => ?_, fun l' a o e1 e2 => ?_⟩
          · have q : upd ω.F d (.frz od (.dK vs)) b = some u := q
            by_cases hb : b = d
            · subst hb; rw [upd_same] at q ⊢; exact q
            · rw [upd_ne hb] at q ⊢; exact wd.sub b u q
          · show upd ω.F d (.frz od (.dK vs)) a = none ∨ ∃ od' u, upd ω.F d (.frz od (.dK vs)) a = some (.frz od' u)
            by_cases ha : a = d
            · subst ha; rw [upd_same]; exact .inr ⟨_, _, rfl⟩
            · rw [upd_ne ha]; exact wd.sep a m
          · by_cases hll : l' = l
            · subst hll
              rw [ea] at e1; cases e1
              rw [List.getElem?_set_self hl] at e2; cases e2
              exact ⟨vs, od, hF1, upd_same, rp.mono le1⟩
            · rw [List.getElem?_set_ne (Ne.symm hll)] at e2
              exact (wd.obj l' a o e1 e2).tr le1 (upd_ne (nd e1 hll))
        refine ⟨ω1, st.set l (.fdic kvs), env, wd1, re.mono le1, ?_⟩
        cases hr : f env (st.set l (.fdic kvs)) with
        | ok v st' =>
          rw [hr] at hq
          have hq : ∀ ω' H' x, Ext ω H ω' H' → Wd X.K ω' (st'.set l (.dic kvs)) H' → Rep X.K ω' v x → Q x H' := hq
          intro ω' H' y ex wd' ry
          have hF' : ω'.F d = some (.frz od (.dK vs)) := ex.le.fz _ _ hF1
          have hH' : H' d = some (.frz od (.dK vs)) := wd'.sub _ _ hF'
          have eρ : ω'.ρ[l]? = some d := ex.le.at ea
          have leC : ω.Le (ω'.cutF d) := by
            refine ⟨fun b u q => ?_, ex.le.pre⟩
            have hb : b ≠ d := fun z => by subst z; rw [nF] at q; cases q
            show (if b = d then none else ω'.F b) = _
            rw [if_neg hb]
            exact ex.le.fz _ _ (by show upd ω.F d (.frz od (.dK vs)) b = some u; rw [upd_ne hb]; exact q)
          have hl' : l < st'.length := wd'.lt eρ
          have nd' : ∀ {l' : Nat} {a : Addr}, ω'.ρ[l']? = some a → l' ≠ l → a ≠ d := fun {l' a} e1 hne z => by
            subst z
            exact hne ((List.getElem?_inj (by rw [wd'.len]; exact wd'.lt e1) wd'.nd).mp (e1.trans eρ.symm))
          refine ⟨hH', hq (ω'.cutF d) _ y ⟨leC, fun b o q n => ?_, fun b q => ?_, fun b q => ?_, fun b m => ?_, fun b o u q => ?_⟩ ⟨fun b u q => ?_, by rw [List.length_set]; exact wd'.len, wd'.nd, fun a m => ?_, fun l' a o e1 e2 => ?_⟩ (ry.cutF hF')⟩
          · have hb : b ≠ d := fun z => n (z ▸ md)
            rw [upd_ne hb]
            exact ex.oth b o (by rw [upd_ne hb]; exact q) n
          · by_cases hb : b = d
            · subst hb; rw [upd_same]; simp
            · rw [upd_ne hb]; exact ex.live b (by rw [upd_ne hb]; exact q)
          · have q : (if b = d then none else ω'.F b) ≠ none := q
            by_cases hb : b = d
            · rw [if_pos hb] at q; exact absurd rfl q
            · rw [if_neg hb] at q
              rcases ex.nF b q with z | z
              · have z : upd ω.F d (.frz od (.dK vs)) b ≠ none := z
                rw [upd_ne hb] at z; exact .inl z
              · rw [upd_ne hb] at z; exact .inr z
          · rcases ex.nρ b m with z | z
            · exact .inl z
            · by_cases hb : b = d
              · exact .inl (hb ▸ md)
              · rw [upd_ne hb] at z; exact .inr z
          · have hb : b ≠ d := fun z => by subst z; rw [hd] at q; cases q
            rw [upd_ne hb]
            exact ex.fr b o u (by rw [upd_ne hb]; exact q)
          · have q : (if b = d then none else ω'.F b) = some u := q
            by_cases hb : b = d
            · rw [if_pos hb] at q; cases q
            · rw [if_neg hb] at q
              rw [upd_ne hb]; exact wd'.sub b u q
          · show (if a = d then none else ω'.F a) = none ∨ ∃ o u, (if a = d then none else ω'.F a) = some (.frz o u)
            by_cases ha : a = d
            · rw [if_pos ha]; exact .inl rfl
            · rw [if_neg ha]; exact wd'.sep a m
          · by_cases hll : l' = l
            · subst hll
              have e1 : ω'.ρ[l']? = some a := e1
              rw [eρ] at e1; cases e1
              rw [List.getElem?_set_self hl'] at e2; cases e2
              exact ⟨vs, upd_same, rp.mono leC⟩
            · rw [List.getElem?_set_ne (Ne.symm hll)] at e2
              have na := nd' e1 hll
              exact ((wd'.obj l' a o e1 e2).cutF hF' na).tr (.refl _) (upd_ne na)
        | err n fs st' => rw [hr] at hq; exact False.elim hq
        | stuck => rw [hr] at hq; exact False.elim hq
    · exact False.elim hq
  · exact False.elim hq
end
/-! ### a text, several times -/
def repS (a : Str) (n : Nat) : Str := ⟨(List.replicate n a.cps).foldl (· ++ ·) #[]⟩
theorem fold_size (a : Array Nat) : ∀ (n : Nat) (z : Array Nat), ((List.replicate n a).foldl (· ++ ·) z).size = z.size + n * a.size
  | 0, z => by simp
  | n + 1, z => by
    rw [List.replicate_succ, List.foldl_cons, fold_size a n, Array.size_append, Nat.add_mul, Nat.one_mul]
    omega
theorem repS_len (a : Str) (n : Nat) : (repS a n).length = n * a.length := by
  unfold repS Str.length
  rw [fold_size]
  simp
def pMulS (v w : PV) (st : Store) : Res PV := match v, w with
  | .str a, .int k => if 2 ≤ k ∧ k ≤ 1000 ∧ 1 ≤ a.length ∧ a.length ≤ 1000 then .ok (.str (repS a k.toNat)) st else .stuck
  | v, w => pMul v w st
section
variable {X : Cx}
theorem op_mulStr : OpR X (binaryOp .Mult) (fun x y H Q => ∃ (a : Str) (k : Int), x = .str a ∧ y = .int k ∧ 2 ≤ k ∧ k ≤ 1000 ∧ 1 ≤ a.length ∧ a.length ≤ 1000 ∧ Q (.str (repS a k.toNat)) H) := by
  intro pins s σ H x y v u Q I rx ry h
  obtain ⟨a, k, rfl, rfl, h1, h2, h3, h4, q⟩ := h
  obtain ⟨t, rfl⟩ := rx
  obtain ⟨t', rfl⟩ := ry
  have hz : a.length * k.toNat ≤ 1000000 := by
    have : k.toNat ≤ 1000 := by omega
    exact Nat.le_trans (Nat.mul_le_mul h4 this) (by decide)
  refine P.mul_str (by rw [decide_eq_false (by omega), decide_eq_false (by omega)]; rfl) (fun _ _ => ?_) (fun _ _ => ?_) ?_
  · have : (1000 : Int) ≤ (2 ^ 63 - 1) / k := by
      rw [Int.le_ediv_iff_mul_le (by omega)]; omega
    omega
  · have e : ¬ (a.length * k.toNat > sizeLine) := by rw [sizeLine_eq]; omega
    exact decide_eq_false e
  · rw [if_neg (by omega), if_neg (by simp; omega)]
    refine ⟨?_, ⟨.str (repS a k.toNat), H, I.tok _, ⟨_, rfl⟩, q⟩⟩
    have e := repS_len a k.toNat
    unfold repS at e
    rw [e, Nat.mul_comm, sizeLine_eq]
    omega
theorem os_mulS : OpS X (binaryOp .Mult) pMulS := by
  obtain ⟨r, hr, hi⟩ := os_mul (X := X)
  refine ⟨fun x y H Q => (∃ (a : Str) (k : Int), x = .str a ∧ y = .int k ∧ 2 ≤ k ∧ k ≤ 1000 ∧ 1 ≤ a.length ∧ a.length ≤ 1000 ∧ Q (.str (repS a k.toNat)) H) ∨ r x y H Q, fun pins s σ H x y v u Q I rx ry h => ?_, fun E ω st H v w x y Q wd rv rw' h => ?_⟩
  · rcases h with h | h
    · exact op_mulStr pins s σ H x y v u Q I rx ry h
    · exact hr pins s σ H x y v u Q I rx ry h
  · unfold pMulS at h
    split at h
    · split at h
      · rename_i hz
        cases rv; cases rw'
        exact .inl ⟨_, _, rfl, rfl, hz.1, hz.2.1, hz.2.2.1, hz.2.2.2, h.ok_here wd (.str _)⟩
      · exact False.elim h
    · exact .inr (hi E ω st H _ _ x y Q wd rv rw' h)
end
/-! ### a def that is given as an argument -/
/-- the defs that a slot may hold, by their addresses -/
abbrev FTab := Addr → Option (List PV → Store → Res PV)
noncomputable def eCallA (n : Nat) (T : FTab) (i : Nat) (fs : AM) : EM := fun env st => match env[i]? with
  | some (some (.con (.ref f))) => match T f with
    | some m => (fs env st).bind (guardN n (nE m))
    | none => .stuck
  | _ => .stuck
/-- each def of the table stands at its address -/
def TabOk (P : Program) (w : World) (K : PySem.W.Frag) (mg : Str → Option Value) (base : Heap) (n k : Nat) (T : FTab) : Prop :=
  ∀ f m, T f = some m → ∃ x ps, Has P w K mg base x ps k m ∧ ps.length = n ∧ mg x = some (.ref f)
section
variable {X : Cx} {W : WX} {x : Str} {p pos : Pos} {e : Expr} {es : List Expr} {fs : AM} {k n i : Nat} {T : FTab}
theorem me_callA (h : TabOk X.prog X.w X.K X.mg X.base n k T) (hr : Room k X.A) (hN : X.N[i]? = some x) (hv : Vis X.env.scope x) (ha : MA X W (e :: es) fs) (hdb : (x == ("__debug__" : Str)) = false := by decide) (hcd : (x == ("__classdict__" : Str)) = false := by decide)
    (he : starEach (e :: es) X.env = (false, eval e X.env) :: starEach es X.env := by rfl) (hpl : (backTo pos (starEach es X.env)).any (·.1) = false := by rfl) :
    ME X W (.Call (.Name x p) (e :: es) [] pos) (eCallA n T i fs) := by
  refine peI (pe_callA (i := i) (S := fun f => (T f).map fun m => spP (gd X) n (nE m)) (fun f sp hf => ?_) hr hN hv ha hdb hcd he hpl) ?_
  · rw [Option.map_eq_some_iff] at hf
    obtain ⟨m, hm, rfl⟩ := hf
    obtain ⟨y, ps, hh, hn, hy⟩ := h f m hm
    obtain ⟨f', fd, F, hm', hk, hb, _⟩ := hh.ex
    rw [hy] at hm'
    cases hm'
    rw [hn] at F
    exact ⟨fd, ps, F, hk, hb⟩
  · rintro σ H Q ⟨ω, st, env, wd, re, h1⟩
    unfold eCallA at h1
    split at h1
    · rename_i f hf
      split at h1
      · rename_i m hm
        obtain ⟨y, hy, ry⟩ := re.at' _ _ hf
        cases ry
        refine ⟨f, spP (gd X) n (nE m), hy, by simp only [hm, Option.map_some], ω, st, env, wd, re, (After.bind (Rel := RL X.K) h1).mono ?_⟩
        rintro xs H1 ⟨ω1, st1, vs, e1, wd1, r1, h2⟩
        exact ⟨ω1, st1, vs, wd1, r1, guard_noErr h2⟩
      · exact False.elim h1
    · exact False.elim h1
end
end PL
/-! PL, part l: a call, that does not raise, of a def that may. -/
namespace PL
open PySem PySem.Spec PyProof.Rows L2
theorem takes0 {X : Cx} : Takes X W0 := fun u s' ⟨a, B, sI, pins, σ, H, cls, d, e, I, nb, up, sky, na, os, ag, w⟩ => w.elim
section
variable {X : Cx} {W : WX} {x : Str} {p pos : Pos} {e : Expr} {es : List Expr} {fs : AM} {ps : List Str} {k : Nat} {m : List PV → Store → Res PV}
theorem me_callX0 {n : Nat} (h : HasX X.prog X.w X.K X.mg X.base x ps k m) (hr : Room k X.A) (ha : MA X W (e :: es) fs) (hn : ps.length = n := by rfl) (hg : Gl X x := by rfl) (hdb : (x == ("__debug__" : Str)) = false := by decide)
    (he : starEach (e :: es) X.env = (false, eval e X.env) :: starEach es X.env := by rfl) (hpl : (backTo pos (starEach es X.env)).any (·.1) = false := by rfl) :
    ME X W (.Call (.Name x p) (e :: es) [] pos) (eCall n m fs) := by
  subst hn
  obtain ⟨f, fd, F, hm, hk, hb, _⟩ := h.ex
  refine peI (pe_callS F hr hg hm hk hb (fun σ => passAt takes0 σ) ha hdb he hpl) ?_
  rintro σ H Q ⟨ω, st, env, wd, re, h⟩
  refine ⟨ω, st, env, wd, re, (After.bind (Rel := RL X.K) h).mono ?_⟩
  rintro xs H1 ⟨ω1, st1, vs, e1, wd1, r1, h1⟩
  refine ⟨ω1, st1, vs, wd1, r1, ?_⟩
  unfold guardN at h1 ⊢
  split
  · rename_i q
    rw [if_pos q] at h1
    exact After.noErr h1
  · rename_i q
    rw [if_neg q] at h1
    exact False.elim h1
end
theorem Has.mono {P : Program} {w : World} {K : PySem.W.Frag} {mg : Str → Option Value} {base : Heap} {x : Str} {ps : List Str} {k k' : Nat} {m : List PV → Store → Res PV} (h : Has P w K mg base x ps k m) (hk : k ≤ k') : Has P w K mg base x ps k' m := by
  obtain ⟨f, fd, F, r⟩ := h.ex
  exact ⟨f, fd, F.mono hk, r⟩
end PL
/-! printed by gen.py: the plain evaluators -/
namespace PL
open PySem PySem.Spec PyProof.Rows L2
noncomputable section
/-- the defs that are given as arguments: a table, and where they stand -/
structure Fv where
  T : FTab
  fraction_in : Addr
  integer_in : Addr
  number_in : Addr
abbrev N_is_name : List Str := ["word", "char"]
def f_is_name : SM :=
  (sSeq (sIf (tOrM (tNotM (eTest (eChain pLe pLe (eC (.int 1)) (eArgs (one pLen) (aCons (eVar 0) aNil)) (eC (.int 12))))) (eTest (eBin pNotIn (eBin pIx (eVar 0) (eC (.int 0))) (eC (.str "abcdefghijklmnopqrstuvwxyz"))))) (sRet (eC (.bl false))) sNil)
    (sSeq (sFor (iVal (eVar 0)) (.one 1)
    (sIf (tAndM (eTest (eBin pNotIn (eVar 1) (eC (.str "abcdefghijklmnopqrstuvwxyz")))) (eTest (eBin pNotIn (eVar 1) (eC (.str "0123456789"))))) (sRet (eC (.bl false))) sNil))
    (sRet (eC (.bl true)))))
def m_is_name : List PV → Store → Res PV := runBody 2 f_is_name
abbrev N_number_in : List Str := ["word", "char"]
def f_number_in : SM :=
  (sSeq (sIf (tNotM (eTest (eChain pLe pLe (eC (.int 1)) (eArgs (one pLen) (aCons (eVar 0) aNil)) (eC (.int 40))))) (sRet (eC .non)) sNil)
    (sSeq (sFor (iVal (eVar 0)) (.one 1)
    (sIf (eTest (eBin pNotIn (eVar 1) (eC (.str "0123456789")))) (sRet (eC .non)) sNil))
    (sSeq (sIf (tAndM (eTest (eBin pEq (eBin pIx (eVar 0) (eC (.int 0))) (eC (.str "0")))) (eTest (eBin pGt (eArgs (one pLen) (aCons (eVar 0) aNil)) (eC (.int 1))))) (sRet (eC .non)) sNil)
    (sRet (eArgs (one pInt) (aCons (eVar 0) aNil))))))
def m_number_in : List PV → Store → Res PV := runBody 2 f_number_in
abbrev N_integer_in : List Str := ["word", "number"]
def f_integer_in : SM :=
  (sSeq (sIf (eTest (eBin pNe (eSl pSl (eVar 0) oNone (oSome (eC (.int 1)))) (eC (.str "-")))) (sRet (eCall 1 m_number_in (aCons (eVar 0) aNil))) sNil)
    (sSeq (sSet 1 (eCall 1 m_number_in (aCons (eSl pSl (eVar 0) (oSome (eC (.int 1))) oNone) aNil)))
    (sSeq (sIf (tOrM (eTest (eBin pIs (eVar 1) (eC .non))) (eTest (eBin pEq (eVar 1) (eC (.int 0))))) (sRet (eC .non)) sNil)
    (sRet (eUn pNeg (eVar 1))))))
def m_integer_in : List PV → Store → Res PV := runBody 2 f_integer_in
abbrev N_fraction_in : List Str := ["word", "parts", "top", "bottom"]
def f_fraction_in : SM :=
  (sSeq (sSet 1 (eMeth isStrP pSplit (eVar 0) (aCons (eC (.str "/")) aNil)))
    (sSeq (sIf (eTest (eBin pNe (eArgs (one pLen) (aCons (eVar 1) aNil)) (eC (.int 2)))) (sRet (eC .non)) sNil)
    (sSeq (sSet 2 (eCall 1 m_integer_in (aCons (eBin pIx (eVar 1) (eC (.int 0))) aNil)))
    (sSeq (sSet 3 (eCall 1 m_number_in (aCons (eBin pIx (eVar 1) (eC (.int 1))) aNil)))
    (sSeq (sIf (tOrM (eTest (eBin pIs (eVar 2) (eC .non))) (tOrM (eTest (eBin pIs (eVar 3) (eC .non))) (tOrM (eTest (eBin pEq (eVar 3) (eC (.int 0)))) (eTest (eBin pNe (eArgs pGcd (aCons (eVar 2) (aCons (eVar 3) aNil))) (eC (.int 1))))))) (sRet (eC .non)) sNil)
    (sRet (eArgs mkTup (aCons (eVar 2) (aCons (eVar 3) aNil)))))))))
def m_fraction_in : List PV → Store → Res PV := runBody 4 f_fraction_in
abbrev N_format_fraction : List Str := ["part"]
def f_format_fraction : SM :=
  (sRet (eBin pAdd (eBin pAdd (eArgs (one pStr) (aCons (eBin pIx (eVar 0) (eC (.int 0))) aNil)) (eC (.str "/"))) (eArgs (one pStr) (aCons (eBin pIx (eVar 0) (eC (.int 1))) aNil))))
def m_format_fraction : List PV → Store → Res PV := runBody 1 f_format_fraction
abbrev N_read_words : List Str := ["words", "reader", "found", "word"]
def f_read_words (V : Fv) : SM :=
  (sSeq (sSet 2 (eComp [3] (iVal (eVar 0)) (.one 3) tYesM (eCallA 1 V.T 1 (aCons (eVar 3) aNil))))
    (sSeq (sIf (eTest (eBin pIn (eC .non) (eVar 2))) (sRet (eC .non)) sNil)
    (sRet (eArgs (one pTuple) (aCons (eVar 2) aNil)))))
def m_read_words (V : Fv) : List PV → Store → Res PV := runBody 4 (f_read_words V)
abbrev N_format_gains : List Str := ["gains", "lines", "outcome", "first", "second"]
def f_format_gains : SM :=
  (sSeq (sSet 1 (eArgs mkLoc aNil))
    (sSeq (sFor (iVal (eArgs (one pSortedD) (aCons (eVar 0) aNil))) (.one 2)
    (sSeq (sTg (.tup [3, 4]) (eBin pIxD (eVar 0) (eVar 2)))
    (sExpr (eMeth isListP pAppend (eVar 1) (aCons (eBin pAdd (eBin pAdd (eBin pAdd (eBin pAdd (eBin pAdd (eC (.str "gain ")) (eVar 2)) (eC (.str " "))) (eArgs (one pStr) (aCons (eVar 3) aNil))) (eC (.str " "))) (eArgs (one pStr) (aCons (eVar 4) aNil))) aNil)))))
    (sRet (eMeth isStrP pJoin (eC (.str "\n")) (aCons (eVar 1) aNil)))))
def m_format_gains : List PV → Store → Res PV := runBody 5 f_format_gains
abbrev N_read_gain : List Str := ["line", "words", "pair"]
def f_read_gain (V : Fv) : SM :=
  (sSeq (sSet 1 (eMeth isStrP pSplit (eVar 0) (aCons (eC (.str " ")) aNil)))
    (sSeq (sIf (tOrM (eTest (eBin pNe (eArgs (one pLen) (aCons (eVar 1) aNil)) (eC (.int 4)))) (tOrM (eTest (eBin pNe (eBin pIx (eVar 1) (eC (.int 0))) (eC (.str "gain")))) (tNotM (eTest (eCall 1 m_is_name (aCons (eBin pIx (eVar 1) (eC (.int 1))) aNil)))))) (sRet (eC .non)) sNil)
    (sSeq (sSet 2 (eCall 2 (m_read_words V) (aCons (eSl pSl (eVar 1) (oSome (eC (.int 2))) oNone) (aCons (eC (.con (.ref V.integer_in))) aNil))))
    (sSeq (sIf (eTest (eBin pIs (eVar 2) (eC .non))) (sRet (eC .non)) sNil)
    (sRet (eArgs mkTup (aCons (eBin pIx (eVar 1) (eC (.int 1))) (aCons (eVar 2) aNil))))))))
def m_read_gain (V : Fv) : List PV → Store → Res PV := runBody 3 (f_read_gain V)
abbrev N_read_gains : List Str := ["text", "gains", "last", "index", "line", "found"]
def f_read_gains (V : Fv) : SM :=
  (sSeq (sSet 1 eDict0)
    (sSeq (sIf (eTest (eBin pEq (eVar 0) (eC (.str "")))) (sRet (eVar 1)) sNil)
    (sSeq (sSet 2 (eC (.str "")))
    (sSeq (sFor (iEnumM (eMeth isStrP pSplit (eVar 0) (aCons (eC (.str "\n")) aNil))) (.tup [3, 4])
    (sSeq (sSet 5 (eCall 1 (m_read_gain V) (aCons (eVar 4) aNil)))
    (sSeq (sIf (tOrM (eTest (eBin pIs (eVar 5) (eC .non))) (tNotM (eTest (eBin pLt (eVar 2) (eBin pIxD (eVar 5) (eC (.int 0))))))) (sRaiseP cInt "BadText" "line" (eBin pAdd (eVar 3) (eC (.int 1)))) sNil)
    (sSeq (sSet 2 (eBin pIxD (eVar 5) (eC (.int 0))))
    (sSub pSetD (eVar 1) (eVar 2) (eBin pIxD (eVar 5) (eC (.int 1))))))))
    (sRet (eVar 1))))))
def m_read_gains (V : Fv) : List PV → Store → Res PV := runBody 6 (f_read_gains V)
abbrev N_format_lot : List Str := ["lot", "weight"]
def f_format_lot : SM :=
  (sRet (eMeth isStrP pJoin (eC (.str " ")) (aCons (eBin pAdd (eArgs mkLst (aCons (eC (.str "lot")) aNil)) (eComp [1] (iVal (eVar 0)) (.one 1) tYesM (eArgs (one pStr) (aCons (eVar 1) aNil)))) aNil)))
def m_format_lot : List PV → Store → Res PV := runBody 2 f_format_lot
abbrev N_read_lot : List Str := ["line", "words", "lot"]
def f_read_lot (V : Fv) : SM :=
  (sSeq (sSet 1 (eMeth isStrP pSplit (eVar 0) (aCons (eC (.str " ")) aNil)))
    (sSeq (sIf (tOrM (eTest (eBin pNe (eBin pIx (eVar 1) (eC (.int 0))) (eC (.str "lot")))) (eTest (eBin pLt (eArgs (one pLen) (aCons (eVar 1) aNil)) (eC (.int 2))))) (sRet (eC .non)) sNil)
    (sSeq (sSet 2 (eCall 2 (m_read_words V) (aCons (eSl pSl (eVar 1) (oSome (eC (.int 1))) oNone) (aCons (eC (.con (.ref V.number_in))) aNil))))
    (sSeq (sIf (tOrM (eTest (eBin pIs (eVar 2) (eC .non))) (eTest (eBin pEq (eArgs (one pMax) (aCons (eVar 2) aNil)) (eC (.int 0))))) (sRet (eC .non)) sNil)
    (sRet (eVar 2))))))
def m_read_lot (V : Fv) : List PV → Store → Res PV := runBody 3 (f_read_lot V)
abbrev N_format_parts : List Str := ["word", "parts", "part"]
def f_format_parts : SM :=
  (sRet (eMeth isStrP pJoin (eC (.str " ")) (aCons (eBin pAdd (eArgs mkLst (aCons (eVar 0) aNil)) (eComp [2] (iVal (eVar 1)) (.one 2) tYesM (eCall 1 m_format_fraction (aCons (eVar 2) aNil)))) aNil)))
def m_format_parts : List PV → Store → Res PV := runBody 3 f_format_parts
abbrev N_read_parts : List Str := ["word", "line", "words"]
def f_read_parts (V : Fv) : SM :=
  (sSeq (sSet 2 (eMeth isStrP pSplit (eVar 1) (aCons (eC (.str " ")) aNil)))
    (sSeq (sIf (eTest (eBin pNe (eBin pIx (eVar 2) (eC (.int 0))) (eVar 0))) (sRet (eC .non)) sNil)
    (sRet (eCall 2 (m_read_words V) (aCons (eSl pSl (eVar 2) (oSome (eC (.int 1))) oNone) (aCons (eC (.con (.ref V.fraction_in))) aNil))))))
def m_read_parts (V : Fv) : List PV → Store → Res PV := runBody 3 (f_read_parts V)
abbrev N_law_source : List Str := ["script", "mixed", "cell"]
def f_law_source : SM :=
  (sSeq (sSet 1 (eC (.int 20011)))
    (sSeq (sFor (iVal (eVar 0)) (.one 2)
    (sSet 1 (eBin pMod (eArgs (one pInt) (aCons (eBin pAdd (eBin pAdd (eBin pMul (eVar 1) (eC (.int 48271))) (eBin pMul (eVar 2) (eC (.int 7919)))) (eC (.int 12345))) aNil)) (eC (.int 2147483647)))))
    (sRet (eArgs mkLoc (aCons (eC (.int 0)) (aCons (eC (.int 0)) (aCons (eVar 1) aNil)))))))
def m_law_source : List PV → Store → Res PV := runBody 3 f_law_source
abbrev N_law_draw : List Str := ["script", "source", "limit", "cell", "found"]
def f_law_draw : SM :=
  (sSeq (sIf (tAndM (eTest (eBin pEq (eBin pIx (eVar 1) (eC (.int 1))) (eC (.int 0)))) (eTest (eBin pLt (eBin pIx (eVar 1) (eC (.int 0))) (eArgs (one pLen) (aCons (eVar 0) aNil))))) (sSeq (sSet 3 (eArgs (one pAbs) (aCons (eBin pIx (eVar 0) (eBin pIx (eVar 1) (eC (.int 0)))) aNil)))
    (sSeq (sSub pSet (eVar 1) (eC (.int 0)) (eBin pAdd (eBin pIx (eVar 1) (eC (.int 0))) (eC (.int 1))))
    (sSeq (sIf (eTest (eBin pLt (eVar 3) (eBin pPow (eC (.int 10)) (eC (.int 18))))) (sSeq (sSet 3 (eBin pMod (eArgs (one pInt) (aCons (eBin pAdd (eBin pAdd (eBin pMul (eVar 3) (eC (.int 48271))) (eBin pMul (eBin pIx (eVar 1) (eC (.int 0))) (eC (.int 69621)))) (eBin pIx (eVar 1) (eC (.int 2)))) aNil)) (eC (.int 2147483647))))
    (sSet 3 (eBin pMod (eArgs (one pInt) (aCons (eBin pAdd (eBin pAdd (eBin pMul (eVar 3) (eVar 3)) (eBin pMul (eVar 3) (eC (.int 30011)))) (eBin pIx (eVar 1) (eC (.int 0)))) aNil)) (eC (.int 1000000007))))) sNil)
    (sSub pSet (eVar 1) (eC (.int 1)) (eVar 3))))) sNil)
    (sSeq (sIf (eTest (eBin pGt (eBin pIx (eVar 1) (eC (.int 1))) (eC (.int 0)))) (sSeq (sSet 4 (eBin pMod (eArgs (one pInt) (aCons (eBin pIx (eVar 1) (eC (.int 1))) aNil)) (eVar 2)))
    (sSeq (sSub pSet (eVar 1) (eC (.int 1)) (eBin pFdiv (eBin pIx (eVar 1) (eC (.int 1))) (eVar 2)))
    (sRet (eVar 4)))) sNil)
    (sSeq (sSub pSet (eVar 1) (eC (.int 2)) (eBin pMod (eArgs (one pInt) (aCons (eBin pAdd (eBin pMul (eBin pIx (eVar 1) (eC (.int 2))) (eC (.int 69621))) (eC (.int 4321))) aNil)) (eC (.int 2147483647))))
    (sRet (eBin pMod (eArgs (one pInt) (aCons (eBin pFdiv (eBin pIx (eVar 1) (eC (.int 2))) (eC (.int 97))) aNil)) (eVar 2))))))
def m_law_draw : List PV → Store → Res PV := runBody 5 f_law_draw
abbrev N_law_name : List Str := ["script", "source", "used", "letters", "signs", "name", "k", "base"]
def f_law_name : SM :=
  (sSeq (sSet 3 (eC (.str "abcdefghijklmnopqrstuvwxyz")))
    (sSeq (sSet 4 (eBin pAdd (eVar 3) (eC (.str "0123456789"))))
    (sSeq (sSet 5 (eBin pIx (eVar 3) (eCall 3 m_law_draw (aCons (eVar 0) (aCons (eVar 1) (aCons (eC (.int 26)) aNil))))))
    (sSeq (sFor (iRange1 (eCall 3 m_law_draw (aCons (eVar 0) (aCons (eVar 1) (aCons (eC (.int 3)) aNil))))) (.one 6)
    (sSet 5 (eBin pAdd (eVar 5) (eBin pIx (eVar 4) (eCall 3 m_law_draw (aCons (eVar 0) (aCons (eVar 1) (aCons (eC (.int 36)) aNil))))))))
    (sSeq (sIf (eTest (eBin pEq (eCall 3 m_law_draw (aCons (eVar 0) (aCons (eVar 1) (aCons (eC (.int 6)) aNil)))) (eC (.int 1)))) (sSet 5 (eBin pIx (eArgs mkLst (aCons (eC (.str "p0")) (aCons (eC (.str "p1")) (aCons (eC (.str "p2")) (aCons (eC (.str "m0")) (aCons (eC (.str "m1")) (aCons (eC (.str "m2")) aNil))))))) (eCall 3 m_law_draw (aCons (eVar 0) (aCons (eVar 1) (aCons (eC (.int 6)) aNil)))))) sNil)
    (sSeq (sSet 7 (eVar 5))
    (sSeq (sFor (iRange1 (eBin pAdd (eArgs (one pLen) (aCons (eVar 2) aNil)) (eC (.int 1)))) (.one 6)
    (sIf (eTest (eBin pIn (eVar 5) (eVar 2))) (sSet 5 (eBin pAdd (eVar 7) (eArgs (one pStr) (aCons (eVar 6) aNil)))) sNil))
    (sRet (eVar 5)))))))))
def m_law_name : List PV → Store → Res PV := runBody 8 f_law_name
abbrev N_law_gcd : List Str := ["a", "b", "k"]
def f_law_gcd : SM :=
  (sSeq (sFor (iRange1 (eBin pAdd (eBin pMul (eC (.int 2)) (eUn pBits (eArgs (one pInt) (aCons (eVar 1) aNil)))) (eC (.int 2)))) (.one 2)
    (sSeq (sIf (eTest (eBin pEq (eVar 1) (eC (.int 0)))) (sRet (eVar 0)) sNil)
    (sPar 0 1 (aCons (eVar 1) (aCons (eBin pMod (eArgs (one pInt) (aCons (eVar 0) aNil)) (eVar 1)) aNil)))))
    (sRet (eVar 0)))
def m_law_gcd : List PV → Store → Res PV := runBody 3 f_law_gcd
abbrev N_law_is_name : List Str := ["word", "letters", "sign"]
def f_law_is_name : SM :=
  (sSeq (sSet 1 (eC (.str "abcdefghijklmnopqrstuvwxyz")))
    (sSeq (sIf (tOrM (tNotM (eTest (eChain pLe pLe (eC (.int 1)) (eArgs (one pLen) (aCons (eVar 0) aNil)) (eC (.int 12))))) (eTest (eBin pNotIn (eBin pIx (eVar 0) (eC (.int 0))) (eVar 1)))) (sRet (eC (.bl false))) sNil)
    (sRet (eBin pEq (eArgs (one pLen) (aCons (eComp [2] (iVal (eVar 0)) (.one 2) (tAndM (eTest (eBin pNotIn (eVar 2) (eVar 1))) (eTest (eBin pNotIn (eVar 2) (eC (.str "0123456789"))))) (eVar 2)) aNil)) (eC (.int 0))))))
def m_law_is_name : List PV → Store → Res PV := runBody 3 f_law_is_name
abbrev N_law_told : List Str := ["answer", "due", "k", "name"]
def f_law_told (self : List PV → Store → Res PV) : SM :=
  (sSeq (sIf (eTest (eBin pIs (eVar 1) (eC .non))) (sRet (eBin pIs (eVar 0) (eC .non))) sNil)
    (sSeq (sIf (tOrM (eTest (eArgs (pIsi) (aCons (eVar 1) (aCons (eC (.con (.ty "bool"))) aNil)))) (eTest (eArgs (pIsi) (aCons (eVar 0) (aCons (eC (.con (.ty "bool"))) aNil))))) (sRet (eAndV (eArgs (pIsi) (aCons (eVar 1) (aCons (eC (.con (.ty "bool"))) aNil))) (eAndV (eArgs (pIsi) (aCons (eVar 0) (aCons (eC (.con (.ty "bool"))) aNil))) (eBin pEq (eVar 0) (eVar 1))))) sNil)
    (sSeq (sIf (eTest (eArgs (pIsi) (aCons (eVar 1) (aCons (eC (.con (.ty "int"))) aNil)))) (sRet (eAndV (eArgs (pIsi) (aCons (eVar 0) (aCons (eC (.con (.ty "int"))) aNil))) (eBin pEq (eVar 0) (eVar 1)))) sNil)
    (sSeq (sIf (eTest (eArgs (pIsi) (aCons (eVar 1) (aCons (eC (.con (.ty "str"))) aNil)))) (sRet (eAndV (eArgs (pIsi) (aCons (eVar 0) (aCons (eC (.con (.ty "str"))) aNil))) (eBin pEq (eVar 0) (eVar 1)))) sNil)
    (sSeq (sIf (eTest (eArgs (pIsi) (aCons (eVar 1) (aCons (eC (.con (.ty "dict"))) aNil)))) (sSeq (sIf (tOrM (tNotM (eTest (eArgs (pIsi) (aCons (eVar 0) (aCons (eC (.con (.ty "dict"))) aNil))))) (eTest (eBin pNe (eArgs (one pSortedD) (aCons (eVar 0) aNil)) (eArgs (one pSortedD) (aCons (eVar 1) aNil))))) (sRet (eC (.bl false))) sNil)
    (sRet (eBin pEq (eArgs (one pLen) (aCons (eLock 1 (eComp [3] (iDict (eVar 1)) (.one 3) (tNotM (eTest (eCall 2 self (aCons (eBin pIxD (eVar 0) (eVar 3)) (aCons (eBin pIxD (eVar 1) (eVar 3)) aNil))))) (eVar 3))) aNil)) (eC (.int 0))))) sNil)
    (sSeq (sIf (tOrM (eTest (eBin pNe (eArgs (pIsi) (aCons (eVar 1) (aCons (eC (.con (.ty "tuple"))) aNil))) (eArgs (pIsi) (aCons (eVar 0) (aCons (eC (.con (.ty "tuple"))) aNil))))) (eTest (eBin pNe (eArgs (pIsi) (aCons (eVar 1) (aCons (eC (.con (.ty "list"))) aNil))) (eArgs (pIsi) (aCons (eVar 0) (aCons (eC (.con (.ty "list"))) aNil)))))) (sRet (eC (.bl false))) sNil)
    (sSeq (sIf (tOrM (tNotM (eTest (eArgs (pIsi) (aCons (eVar 0) (aCons (eArgs mkTup (aCons (eC (.con (.ty "tuple"))) (aCons (eC (.con (.ty "list"))) aNil))) aNil))))) (eTest (eBin pNe (eArgs (one pLen) (aCons (eVar 0) aNil)) (eArgs (one pLen) (aCons (eVar 1) aNil))))) (sRet (eC (.bl false))) sNil)
    (sSeq (sFor (iRange1 (eArgs (one pLen) (aCons (eVar 1) aNil))) (.one 2)
    (sIf (tNotM (eTest (eCall 2 self (aCons (eBin pIxD (eVar 0) (eVar 2)) (aCons (eBin pIxD (eVar 1) (eVar 2)) aNil))))) (sRet (eC (.bl false))) sNil))
    (sRet (eC (.bl true)))))))))))
def m_law_told : List PV → Store → Res PV := fuelF 4 f_law_told 60
abbrev N_law_fraction : List Str := ["top", "bottom", "common"]
def f_law_fraction : SM :=
  (sSeq (sIf (eTest (eBin pLt (eVar 1) (eC (.int 0)))) (sPar 0 1 (aCons (eUn pNeg (eVar 0)) (aCons (eUn pNeg (eVar 1)) aNil))) sNil)
    (sSeq (sSet 2 (eCall 2 m_law_gcd (aCons (eArgs (one pAbs) (aCons (eVar 0) aNil)) (aCons (eVar 1) aNil))))
    (sRet (eArgs mkTup (aCons (eBin pFdiv (eVar 0) (eVar 2)) (aCons (eBin pFdiv (eVar 1) (eVar 2)) aNil))))))
def m_law_fraction : List PV → Store → Res PV := runBody 3 f_law_fraction
abbrev N_law_gain : List Str := ["script", "source", "style", "number"]
def f_law_gain : SM :=
  (sSeq (sIf (eTest (eBin pEq (eVar 2) (eC (.int 0)))) (sRet (eBin pSub (eCall 3 m_law_draw (aCons (eVar 0) (aCons (eVar 1) (aCons (eC (.int 13)) aNil)))) (eC (.int 6)))) sNil)
    (sSeq (sIf (eTest (eBin pEq (eVar 2) (eC (.int 1)))) (sRet (eBin pSub (eCall 3 m_law_draw (aCons (eVar 0) (aCons (eVar 1) (aCons (eC (.int 3)) aNil)))) (eC (.int 1)))) sNil)
    (sSeq (sSet 3 (eBin pAdd (eBin pMul (eCall 3 m_law_draw (aCons (eVar 0) (aCons (eVar 1) (aCons (eBin pPow (eC (.int 10)) (eC (.int 9))) aNil)))) (eBin pPow (eC (.int 10)) (eC (.int 20)))) (eCall 3 m_law_draw (aCons (eVar 0) (aCons (eVar 1) (aCons (eBin pPow (eC (.int 10)) (eC (.int 9))) aNil))))))
    (sSeq (sIf (eTest (eBin pEq (eCall 3 m_law_draw (aCons (eVar 0) (aCons (eVar 1) (aCons (eC (.int 2)) aNil)))) (eC (.int 0)))) (sRet (eUn pNeg (eVar 3))) sNil)
    (sRet (eVar 3))))))
def m_law_gain : List PV → Store → Res PV := runBody 4 f_law_gain
abbrev N_law_lot : List Str := ["script", "source", "count", "style", "lot", "k", "weight"]
def f_law_lot : SM :=
  (sSeq (sSet 3 (eCall 3 m_law_draw (aCons (eVar 0) (aCons (eVar 1) (aCons (eC (.int 4)) aNil)))))
    (sSeq (sSet 4 (eArgs mkLoc aNil))
    (sSeq (sFor (iRange1 (eVar 2)) (.one 5)
    (sSeq (sSet 6 (eCall 3 m_law_draw (aCons (eVar 0) (aCons (eVar 1) (aCons (eC (.int 5)) aNil)))))
    (sSeq (sIf (tAndM (eTest (eBin pEq (eVar 3) (eC (.int 0)))) (eTest (eBin pLt (eVar 6) (eC (.int 3))))) (sSet 6 (eC (.int 0))) sNil)
    (sExpr (eMeth isListP pAppend (eVar 4) (aCons (eVar 6) aNil))))))
    (sSeq (sIf (tOrM (eTest (eBin pEq (eVar 3) (eC (.int 1)))) (eTest (eBin pEq (eArgs (one pSum) (aCons (eVar 4) aNil)) (eC (.int 0))))) (sSeq (sSet 4 (eCompLoc [5] (iRange1 (eVar 2)) (.one 5) tYesM (eC (.int 0))))
    (sSub pSet (eVar 4) (eCall 3 m_law_draw (aCons (eVar 0) (aCons (eVar 1) (aCons (eVar 2) aNil)))) (eC (.int 1)))) sNil)
    (sRet (eArgs (one pTuple) (aCons (eVar 4) aNil)))))))
def m_law_lot : List PV → Store → Res PV := runBody 7 f_law_lot
abbrev N_law_own_number : List Str := ["word", "sign"]
def f_law_own_number : SM :=
  (sSeq (sIf (tOrM (eTest (eBin pLt (eArgs (one pLen) (aCons (eVar 0) aNil)) (eC (.int 1)))) (tOrM (eTest (eBin pGt (eArgs (one pLen) (aCons (eVar 0) aNil)) (eC (.int 40)))) (eTest (eBin pGt (eArgs (one pLen) (aCons (eComp [1] (iVal (eVar 0)) (.one 1) (eTest (eBin pNotIn (eVar 1) (eC (.str "0123456789")))) (eVar 1)) aNil)) (eC (.int 0)))))) (sRet (eC .non)) sNil)
    (sSeq (sIf (tAndM (eTest (eBin pEq (eBin pIx (eVar 0) (eC (.int 0))) (eC (.str "0")))) (eTest (eBin pGt (eArgs (one pLen) (aCons (eVar 0) aNil)) (eC (.int 1))))) (sRet (eC .non)) sNil)
    (sRet (eArgs (one pInt) (aCons (eVar 0) aNil)))))
def m_law_own_number : List PV → Store → Res PV := runBody 2 f_law_own_number
abbrev N_law_own_integer : List Str := ["word", "number"]
def f_law_own_integer : SM :=
  (sSeq (sIf (eTest (eBin pEq (eSl pSl (eVar 0) oNone (oSome (eC (.int 1)))) (eC (.str "-")))) (sSeq (sSet 1 (eCall 1 m_law_own_number (aCons (eSl pSl (eVar 0) (oSome (eC (.int 1))) oNone) aNil)))
    (sSeq (sIf (tOrM (eTest (eBin pIs (eVar 1) (eC .non))) (eTest (eBin pEq (eVar 1) (eC (.int 0))))) (sRet (eC .non)) sNil)
    (sRet (eUn pNeg (eVar 1))))) sNil)
    (sRet (eCall 1 m_law_own_number (aCons (eVar 0) aNil))))
def m_law_own_integer : List PV → Store → Res PV := runBody 2 f_law_own_integer
abbrev N_law_own_fraction : List Str := ["word", "words", "top", "bottom"]
def f_law_own_fraction : SM :=
  (sSeq (sSet 1 (eMeth isStrP pSplit (eVar 0) (aCons (eC (.str "/")) aNil)))
    (sSeq (sIf (eTest (eBin pNe (eArgs (one pLen) (aCons (eVar 1) aNil)) (eC (.int 2)))) (sRet (eC .non)) sNil)
    (sSeq (sSet 2 (eCall 1 m_law_own_integer (aCons (eBin pIx (eVar 1) (eC (.int 0))) aNil)))
    (sSeq (sSet 3 (eCall 1 m_law_own_number (aCons (eBin pIx (eVar 1) (eC (.int 1))) aNil)))
    (sSeq (sIf (tOrM (eTest (eBin pIs (eVar 2) (eC .non))) (tOrM (eTest (eBin pIs (eVar 3) (eC .non))) (tOrM (eTest (eBin pEq (eVar 3) (eC (.int 0)))) (eTest (eBin pNe (eCall 2 m_law_gcd (aCons (eArgs (one pAbs) (aCons (eVar 2) aNil)) (aCons (eVar 3) aNil))) (eC (.int 1))))))) (sRet (eC .non)) sNil)
    (sRet (eArgs mkTup (aCons (eVar 2) (aCons (eVar 3) aNil)))))))))
def m_law_own_fraction : List PV → Store → Res PV := runBody 4 f_law_own_fraction
abbrev N_law_own_gain : List Str := ["line", "words", "pair"]
def f_law_own_gain : SM :=
  (sSeq (sSet 1 (eMeth isStrP pSplit (eVar 0) (aCons (eC (.str " ")) aNil)))
    (sSeq (sIf (tOrM (eTest (eBin pNe (eArgs (one pLen) (aCons (eVar 1) aNil)) (eC (.int 4)))) (tOrM (eTest (eBin pNe (eBin pIx (eVar 1) (eC (.int 0))) (eC (.str "gain")))) (tNotM (eTest (eCall 1 m_law_is_name (aCons (eBin pIx (eVar 1) (eC (.int 1))) aNil)))))) (sRet (eC .non)) sNil)
    (sSeq (sSet 2 (eArgs mkTup (aCons (eCall 1 m_law_own_integer (aCons (eBin pIx (eVar 1) (eC (.int 2))) aNil)) (aCons (eCall 1 m_law_own_integer (aCons (eBin pIx (eVar 1) (eC (.int 3))) aNil)) aNil))))
    (sSeq (sIf (tOrM (eTest (eBin pIs (eBin pIx (eVar 2) (eC (.int 0))) (eC .non))) (eTest (eBin pIs (eBin pIx (eVar 2) (eC (.int 1))) (eC .non)))) (sRet (eC .non)) sNil)
    (sRet (eArgs mkTup (aCons (eBin pIx (eVar 1) (eC (.int 1))) (aCons (eVar 2) aNil))))))))
def m_law_own_gain : List PV → Store → Res PV := runBody 3 f_law_own_gain
abbrev N_law_own_lot : List Str := ["line", "words", "lot", "word"]
def f_law_own_lot : SM :=
  (sSeq (sSet 1 (eMeth isStrP pSplit (eVar 0) (aCons (eC (.str " ")) aNil)))
    (sSeq (sSet 2 (eArgs (one pTuple) (aCons (eComp [3] (iVal (eSl pSl (eVar 1) (oSome (eC (.int 1))) oNone)) (.one 3) tYesM (eCall 1 m_law_own_number (aCons (eVar 3) aNil))) aNil)))
    (sSeq (sIf (tOrM (eTest (eBin pNe (eBin pIx (eVar 1) (eC (.int 0))) (eC (.str "lot")))) (tOrM (eTest (eBin pEq (eArgs (one pLen) (aCons (eVar 2) aNil)) (eC (.int 0)))) (tOrM (eTest (eBin pIn (eC .non) (eVar 2))) (eTest (eBin pEq (eArgs (one pMax) (aCons (eVar 2) aNil)) (eC (.int 0))))))) (sRet (eC .non)) sNil)
    (sRet (eVar 2)))))
def m_law_own_lot : List PV → Store → Res PV := runBody 4 f_law_own_lot
abbrev N_law_own_parts : List Str := ["word", "line", "words", "parts", "one"]
def f_law_own_parts : SM :=
  (sSeq (sSet 2 (eMeth isStrP pSplit (eVar 1) (aCons (eC (.str " ")) aNil)))
    (sSeq (sSet 3 (eArgs (one pTuple) (aCons (eComp [4] (iVal (eSl pSl (eVar 2) (oSome (eC (.int 1))) oNone)) (.one 4) tYesM (eCall 1 m_law_own_fraction (aCons (eVar 4) aNil))) aNil)))
    (sSeq (sIf (tOrM (eTest (eBin pNe (eBin pIx (eVar 2) (eC (.int 0))) (eVar 0))) (eTest (eBin pIn (eC .non) (eVar 3)))) (sRet (eC .non)) sNil)
    (sRet (eVar 3)))))
def m_law_own_parts : List PV → Store → Res PV := runBody 5 f_law_own_parts
abbrev N_law_bent : List Str := ["script", "source", "line", "words", "at", "odd", "kind", "new"]
def f_law_bent : SM :=
  (sSeq (sSet 3 (eMeth isStrP pSplit (eVar 2) (aCons (eC (.str " ")) aNil)))
    (sSeq (sSet 4 (eCall 3 m_law_draw (aCons (eVar 0) (aCons (eVar 1) (aCons (eArgs (one pLen) (aCons (eVar 3) aNil)) aNil)))))
    (sSeq (sSet 5 (eArgs mkLst (aCons (eC (.str "")) (aCons (eC (.str "-0")) (aCons (eC (.str "00")) (aCons (eC (.str "1/0")) (aCons (eC (.str "2/4")) (aCons (eC (.str "-1/3")) (aCons (eC (.str "gain")) (aCons (eC (.str "lot")) (aCons (eC (.str "A")) (aCons (eC (.str "0")) (aCons (eC (.str "-5")) (aCons (eBin pMulS (eC (.str "9")) (eC (.int 41))) (aCons (eC (.str "1/")) (aCons (eC (.str "a")) aNil))))))))))))))))
    (sSeq (sSet 6 (eCall 3 m_law_draw (aCons (eVar 0) (aCons (eVar 1) (aCons (eC (.int 4)) aNil)))))
    (sSeq (sSet 7 (eBin pIx (eVar 5) (eCall 3 m_law_draw (aCons (eVar 0) (aCons (eVar 1) (aCons (eC (.int 14)) aNil))))))
    (sSeq (sIf (eTest (eBin pEq (eVar 6) (eC (.int 0)))) (sSet 3 (eBin pAdd (eSl pSl (eVar 3) oNone (oSome (eVar 4))) (eSl pSl (eVar 3) (oSome (eBin pAdd (eVar 4) (eC (.int 1)))) oNone))) (sIf (eTest (eBin pEq (eVar 6) (eC (.int 1)))) (sSet 3 (eBin pAdd (eBin pAdd (eSl pSl (eVar 3) oNone (oSome (eVar 4))) (eArgs mkLst (aCons (eVar 7) aNil))) (eSl pSl (eVar 3) (oSome (eVar 4)) oNone))) (sIf (eTest (eBin pEq (eVar 6) (eC (.int 2)))) (sSet 3 (eBin pAdd (eBin pAdd (eSl pSl (eVar 3) oNone (oSome (eVar 4))) (eArgs mkLst (aCons (eVar 7) aNil))) (eSl pSl (eVar 3) (oSome (eBin pAdd (eVar 4) (eC (.int 1)))) oNone))) (sSet 3 (eBin pAdd (eBin pAdd (eSl pSl (eVar 3) oNone (oSome (eVar 4))) (eArgs mkLst (aCons (eBin pAdd (eBin pIx (eVar 3) (eVar 4)) (eBin pIx (eArgs mkLst (aCons (eC (.str "-")) (aCons (eC (.str "0")) (aCons (eC (.str "/")) (aCons (eC (.str "x")) (aCons (eC (.str "")) aNil)))))) (eCall 3 m_law_draw (aCons (eVar 0) (aCons (eVar 1) (aCons (eC (.int 5)) aNil)))))) aNil))) (eSl pSl (eVar 3) (oSome (eBin pAdd (eVar 4) (eC (.int 1)))) oNone))))))
    (sRet (eMeth isStrP pJoin (eC (.str " ")) (aCons (eVar 3) aNil)))))))))
def m_law_bent : List PV → Store → Res PV := runBody 8 f_law_bent
abbrev N_law_lines_fault : List Str := ["lines", "last", "k", "found"]
def f_law_lines_fault : SM :=
  (sSeq (sSet 1 (eC (.str "")))
    (sSeq (sFor (iRange1 (eArgs (one pLen) (aCons (eVar 0) aNil))) (.one 2)
    (sSeq (sSet 3 (eCall 1 m_law_own_gain (aCons (eBin pIx (eVar 0) (eVar 2)) aNil)))
    (sSeq (sIf (tOrM (eTest (eBin pIs (eVar 3) (eC .non))) (tNotM (eTest (eBin pLt (eVar 1) (eBin pIx (eVar 3) (eC (.int 0))))))) (sRet (eBin pAdd (eVar 2) (eC (.int 1)))) sNil)
    (sSet 1 (eBin pIx (eVar 3) (eC (.int 0)))))))
    (sRet (eC (.int 0)))))
def m_law_lines_fault : List PV → Store → Res PV := runBody 4 f_law_lines_fault
abbrev N_law_read_or : List Str := ["text", "e"]
def f_law_read_or (V : Fv) : SM :=
  (sTry 1 "BadText" (sRet (eCallX 1 (m_read_gains V) (aCons (eVar 0) aNil)))
    (fun a d => (sRet (eArgs mkLst (aCons (eXf a d "line" (eVar 1)) (aCons (eIsE a d false (eVar 1)) aNil))))))
def m_law_read_or (V : Fv) : List PV → Store → Res PV := runBody 2 (f_law_read_or V)
abbrev N_law_pairs_dict : List Str := ["lines", "found", "line", "one"]
def f_law_pairs_dict : SM :=
  (sSeq (sSet 1 eDict0)
    (sSeq (sFor (iVal (eVar 0)) (.one 2)
    (sSeq (sSet 3 (eCall 1 m_law_own_gain (aCons (eVar 2) aNil)))
    (sSub pSetD (eVar 1) (eBin pIxD (eVar 3) (eC (.int 0))) (eBin pIxD (eVar 3) (eC (.int 1))))))
    (sRet (eVar 1))))
def m_law_pairs_dict : List PV → Store → Res PV := runBody 4 f_law_pairs_dict
abbrev N_law : List Str := ["script", "source", "gains", "used", "k", "lines", "text", "lot", "parts", "part", "wanted", "name", "word", "line", "at", "spoilt", "fault", "told", "bent", "weight"]
def f_law (V : Fv) : SM :=
  (sSeq (sSet 1 (eCall 1 m_law_source (aCons (eVar 0) aNil)))
    (sSeq (sSet 2 eDict0)
    (sSeq (sSet 3 (eArgs mkLoc aNil))
    (sSeq (sFor (iRange1 (eCall 3 m_law_draw (aCons (eVar 0) (aCons (eVar 1) (aCons (eC (.int 7)) aNil))))) (.one 4)
    (sSeq (sSet 11 (eCall 3 m_law_name (aCons (eVar 0) (aCons (eVar 1) (aCons (eVar 3) aNil)))))
    (sSeq (sExpr (eMeth isListP pAppend (eVar 3) (aCons (eVar 11) aNil)))
    (sSub pSetD (eVar 2) (eVar 11) (eArgs mkTup (aCons (eCall 3 m_law_gain (aCons (eVar 0) (aCons (eVar 1) (aCons (eBin pIxD (eArgs mkLst (aCons (eC (.int 0)) (aCons (eC (.int 2)) aNil))) (eCall 3 m_law_draw (aCons (eVar 0) (aCons (eVar 1) (aCons (eC (.int 2)) aNil))))) aNil)))) (aCons (eCall 3 m_law_gain (aCons (eVar 0) (aCons (eVar 1) (aCons (eC (.int 0)) aNil)))) aNil)))))))
    (sSeq (sSet 5 (eComp [11] (iVal (eArgs (one pSortedD) (aCons (eVar 2) aNil))) (.one 11) tYesM (eBin pAdd (eBin pAdd (eBin pAdd (eBin pAdd (eBin pAdd (eC (.str "gain ")) (eVar 11)) (eC (.str " "))) (eArgs (one pStr) (aCons (eBin pIxD (eBin pIxD (eVar 2) (eVar 11)) (eC (.int 0))) aNil))) (eC (.str " "))) (eArgs (one pStr) (aCons (eBin pIxD (eBin pIxD (eVar 2) (eVar 11)) (eC (.int 1))) aNil)))))
    (sSeq (sSet 6 (eMeth isStrP pJoin (eC (.str "\n")) (aCons (eVar 5) aNil)))
    (sSeq (sIf (tOrM (tNotM (eTest (eCall 2 m_law_told (aCons (eCall 1 m_format_gains (aCons (eVar 2) aNil)) (aCons (eVar 6) aNil))))) (tNotM (eTest (eCall 2 m_law_told (aCons (eCall 1 (m_read_gains V) (aCons (eVar 6) aNil)) (aCons (eVar 2) aNil)))))) (sRet (eC (.bl false))) sNil)
    (sSeq (sSet 7 (eCall 3 m_law_lot (aCons (eVar 0) (aCons (eVar 1) (aCons (eBin pAdd (eC (.int 1)) (eCall 3 m_law_draw (aCons (eVar 0) (aCons (eVar 1) (aCons (eC (.int 8)) aNil))))) aNil)))))
    (sSeq (sSet 8 (eArgs (one pTuple) (aCons (eComp [4] (iRange1 (eC (.int 4))) (.one 4) tYesM (eCall 2 m_law_fraction (aCons (eCall 3 m_law_gain (aCons (eVar 0) (aCons (eVar 1) (aCons (eC (.int 0)) aNil)))) (aCons (eBin pAdd (eC (.int 1)) (eCall 3 m_law_draw (aCons (eVar 0) (aCons (eVar 1) (aCons (eC (.int 30)) aNil))))) aNil)))) aNil)))
    (sSeq (sSet 8 (eSl pSl (eVar 8) oNone (oSome (eCall 3 m_law_draw (aCons (eVar 0) (aCons (eVar 1) (aCons (eC (.int 5)) aNil)))))))
    (sSeq (sFor (iVal (eVar 8)) (.one 9)
    (sSeq (sSet 12 (eBin pAdd (eBin pAdd (eArgs (one pStr) (aCons (eBin pIxD (eVar 9) (eC (.int 0))) aNil)) (eC (.str "/"))) (eArgs (one pStr) (aCons (eBin pIxD (eVar 9) (eC (.int 1))) aNil))))
    (sIf (tOrM (tNotM (eTest (eCall 2 m_law_told (aCons (eCall 1 m_format_fraction (aCons (eVar 9) aNil)) (aCons (eVar 12) aNil))))) (tNotM (eTest (eCall 2 m_law_told (aCons (eCall 1 m_fraction_in (aCons (eVar 12) aNil)) (aCons (eVar 9) aNil)))))) (sRet (eC (.bl false))) sNil)))
    (sSeq (sSet 10 (eArgs mkLoc (aCons (eMeth isStrP pJoin (eC (.str " ")) (aCons (eBin pAdd (eArgs mkLst (aCons (eC (.str "lot")) aNil)) (eComp [19] (iVal (eVar 7)) (.one 19) tYesM (eArgs (one pStr) (aCons (eVar 19) aNil)))) aNil)) aNil)))
    (sSeq (sExpr (eMeth isListP pAppend (eVar 10) (aCons (eMeth isStrP pJoin (eC (.str " ")) (aCons (eBin pAdd (eArgs mkLst (aCons (eC (.str "prices")) aNil)) (eComp [9] (iVal (eVar 8)) (.one 9) tYesM (eBin pAdd (eBin pAdd (eArgs (one pStr) (aCons (eBin pIxD (eVar 9) (eC (.int 0))) aNil)) (eC (.str "/"))) (eArgs (one pStr) (aCons (eBin pIxD (eVar 9) (eC (.int 1))) aNil))))) aNil)) aNil)))
    (sSeq (sIf (tOrM (tNotM (eTest (eCall 2 m_law_told (aCons (eCall 1 m_format_lot (aCons (eVar 7) aNil)) (aCons (eBin pIxD (eVar 10) (eC (.int 0))) aNil))))) (tNotM (eTest (eCall 2 m_law_told (aCons (eCall 2 m_format_parts (aCons (eC (.str "prices")) (aCons (eVar 8) aNil))) (aCons (eBin pIxD (eVar 10) (eC (.int 1))) aNil)))))) (sRet (eC (.bl false))) sNil)
    (sSeq (sIf (tOrM (tNotM (eTest (eCall 2 m_law_told (aCons (eCall 1 (m_read_lot V) (aCons (eBin pIxD (eVar 10) (eC (.int 0))) aNil)) (aCons (eVar 7) aNil))))) (tNotM (eTest (eCall 2 m_law_told (aCons (eCall 2 (m_read_parts V) (aCons (eC (.str "prices")) (aCons (eBin pIxD (eVar 10) (eC (.int 1))) aNil))) (aCons (eVar 8) aNil)))))) (sRet (eC (.bl false))) sNil)
    (sSeq (sFor (iRange1 (eC (.int 3))) (.one 4)
    (sFor (iVal (eBin pAdd (eVar 10) (eArgs mkLst (aCons (eC (.str "gain ab -12 40")) aNil)))) (.one 13)
    (sSeq (sSet 18 (eCall 3 m_law_bent (aCons (eVar 0) (aCons (eVar 1) (aCons (eVar 13) aNil)))))
    (sSeq (sIf (tOrM (tNotM (eTest (eCall 2 m_law_told (aCons (eCall 1 (m_read_lot V) (aCons (eVar 18) aNil)) (aCons (eCall 1 m_law_own_lot (aCons (eVar 18) aNil)) aNil))))) (tNotM (eTest (eCall 2 m_law_told (aCons (eCall 1 (m_read_gain V) (aCons (eVar 18) aNil)) (aCons (eCall 1 m_law_own_gain (aCons (eVar 18) aNil)) aNil)))))) (sRet (eC (.bl false))) sNil)
    (sSeq (sIf (tNotM (eTest (eCall 2 m_law_told (aCons (eCall 2 (m_read_parts V) (aCons (eC (.str "prices")) (aCons (eVar 18) aNil))) (aCons (eCall 2 m_law_own_parts (aCons (eC (.str "prices")) (aCons (eVar 18) aNil))) aNil))))) (sRet (eC (.bl false))) sNil)
    (sFor (iVal (eMeth isStrP pSplit (eVar 18) (aCons (eC (.str " ")) aNil))) (.one 12)
    (sSeq (sIf (tNotM (eTest (eCall 2 m_law_told (aCons (eCall 1 m_integer_in (aCons (eVar 12) aNil)) (aCons (eCall 1 m_law_own_integer (aCons (eVar 12) aNil)) aNil))))) (sRet (eC (.bl false))) sNil)
    (sIf (tNotM (eTest (eCall 2 m_law_told (aCons (eCall 1 m_fraction_in (aCons (eVar 12) aNil)) (aCons (eCall 1 m_law_own_fraction (aCons (eVar 12) aNil)) aNil))))) (sRet (eC (.bl false))) sNil))))))))
    (sSeq (sIf (eTest (eBin pGt (eArgs (one pLen) (aCons (eVar 5) aNil)) (eC (.int 0)))) (sSeq (sSet 14 (eCall 3 m_law_draw (aCons (eVar 0) (aCons (eVar 1) (aCons (eArgs (one pLen) (aCons (eVar 5) aNil)) aNil)))))
    (sSeq (sSet 15 (eBin pAdd (eBin pAdd (eSl pSl (eVar 5) oNone (oSome (eVar 14))) (eArgs mkLst (aCons (eCall 3 m_law_bent (aCons (eVar 0) (aCons (eVar 1) (aCons (eBin pIxD (eVar 5) (eVar 14)) aNil)))) aNil))) (eSl pSl (eVar 5) (oSome (eBin pAdd (eVar 14) (eC (.int 1)))) oNone)))
    (sSeq (sIf (eTest (eBin pEq (eCall 3 m_law_draw (aCons (eVar 0) (aCons (eVar 1) (aCons (eC (.int 3)) aNil)))) (eC (.int 0)))) (sSet 15 (eBin pAdd (eSl pSl (eVar 5) (oSome (eVar 14)) oNone) (eSl pSl (eVar 5) oNone (oSome (eVar 14))))) sNil)
    (sSeq (sSet 16 (eCall 1 m_law_lines_fault (aCons (eVar 15) aNil)))
    (sSeq (sSet 17 (eCall 1 (m_law_read_or V) (aCons (eMeth isStrP pJoin (eC (.str "\n")) (aCons (eVar 15) aNil)) aNil)))
    (sSeq (sIf (eTest (eBin pEq (eVar 15) (eArgs mkLst (aCons (eC (.str "")) aNil)))) (sRet (eCall 2 m_law_told (aCons (eVar 17) (aCons eDict0 aNil)))) sNil)
    (sSeq (sIf (eTest (eBin pGt (eVar 16) (eC (.int 0)))) (sRet (eCall 2 m_law_told (aCons (eVar 17) (aCons (eArgs mkLst (aCons (eVar 16) (aCons (eC (.bl false)) aNil))) aNil)))) sNil)
    (sRet (eCall 2 m_law_told (aCons (eVar 17) (aCons (eCall 1 m_law_pairs_dict (aCons (eVar 15) aNil)) aNil))))))))))) sNil)
    (sRet (eC (.bl true))))))))))))))))))))
def m_law (V : Fv) : List PV → Store → Res PV := runBody 20 (f_law V)
end
end PL
/-! PL, part n: the drawing of scripts. -/
namespace PL
open PySem PySem.Spec PyProof.Rows L2
abbrev scr (ns : List Int) : PV := .frz (ns.map .int)
/-- the source's place -/
def SrcAt (st : Store) (l : Nat) : Prop := ∃ a b c : Int, st[l]? = some (.lst [.int a, .int b, .int c]) ∧ 0 ≤ a
theorem ixN3_0 : ixN 3 0 = some 0 := rfl
theorem ixN3_1 : ixN 3 1 = some 1 := rfl
theorem ixN3_2 : ixN 3 2 = some 2 := rfl
theorem log97 : (Nat.log2 97 < 9000) = True := eq_true (by decide)
theorem draw_ok {ns : List Int} {l : Nat} {lim : Int} {st : Store} (hs : SrcAt st l) (hl : 0 < lim) (hl2 : lim.natAbs.log2 < 9000) :
    Sat (m_law_draw [scr ns, .loc l, .int lim] st) fun v s => ∃ r o, v = .int r ∧ 0 ≤ r ∧ r < lim ∧ s = st.set l o ∧ SrcAt s l := by
  obtain ⟨a, b, c, hs, ha⟩ := hs
  refine sat_body ?_
  unfold f_law_draw
  have hlt : l < st.length := (List.getElem?_eq_some_iff.mp hs).1
  have g : ∀ o, (st.set l o)[l]? = some o := fun o => List.getElem?_set_self hlt
  have ss : ∀ o o', (st.set l o).set l o' = st.set l o' := fun o o' => List.set_set ..
  have fin1 : ∀ a b c : Int, 0 ≤ a → 0 < b → ∃ r o, PV.int (b % lim) = .int r ∧ 0 ≤ r ∧ r < lim ∧ st.set l (.lst [.int a, .int (b / lim), .int c]) = st.set l o ∧ SrcAt (st.set l (.lst [.int a, .int (b / lim), .int c])) l :=
    fun a b c h0 h1 => ⟨_, _, rfl, Int.emod_nonneg _ (by omega), Int.emod_lt_of_pos _ hl, rfl, a, _, c, g _, h0⟩
  have fin2 : ∀ a b c : Int, 0 ≤ a → ∃ r o, PV.int (c % 2147483647 / 97 % lim) = .int r ∧ 0 ≤ r ∧ r < lim ∧ st.set l (.lst [.int a, .int b, .int (c % 2147483647)]) = st.set l o ∧ SrcAt (st.set l (.lst [.int a, .int b, .int (c % 2147483647)])) l :=
    fun a b c h0 => ⟨_, _, rfl, Int.emod_nonneg _ (by omega), Int.emod_lt_of_pos _ hl, rfl, a, b, _, g _, h0⟩
  have p64 : ∀ n : Nat, n < 18446744073709551616 → n < 2 ^ 64 := fun n h => by simpa using h
  have m64 : ∀ x : Int, ((x % 2147483647).natAbs < 18446744073709551616) = True := fun x => eq_true (by
    have := Int.emod_nonneg x (show (2147483647 : Int) ≠ 0 by decide)
    have := Int.emod_lt_of_pos x (show (0 : Int) < 2147483647 by decide)
    omega)
  by_cases hb : b = 0
  · by_cases ha2 : a < (ns.length : Int)
    · obtain ⟨k, rfl⟩ := Int.eq_ofNat_of_zero_le ha
      have hk : k < ns.length := by omega
      have e : (ns.map PV.int)[k]? = some (.int ns[k]) := by rw [List.getElem?_map, List.getElem?_eq_getElem hk]; rfl
      simp only [sat_ok, sat_bind, sat_v, sat_c, sat_bin, sat_un, sat_test, sat_truth, sat_and, sat_or, sat_not, sat_yes, sat_andv, sat_notv, sat_chain, sat_nil, sat_cons, sat_args, sat_call, sat_callX, sat_meth, sat_one, sat_oNone, sat_oSome, sat_sl, sat_tup, sat_lst, sat_loc, ss_nil, ss_seq, ss_set, ss_expr, ss_ret, ss_retN, ss_if, ss_tg, ss_par, ss_sub, ss_for, sat_comp, setTg, setTgs, wipeP, sizeLine_eq, List.map_cons, List.map_nil, List.length_cons, List.length_nil, List.cons_append, List.nil_append, List.set_cons_zero, List.set_cons_succ, List.getElem?_cons_zero, List.getElem?_cons_succ, Nat.reduceAdd, Nat.reduceSub, Nat.reduceLeDiff, List.reduceReplicate, Option.some.injEq, exists_eq_left', true_and, and_true, Nat.zero_add, o_addI, o_addS, o_addT, o_addL, o_subI, o_mulI, o_fdivI, o_modI, o_powI, o_negI, o_eqI, o_neI, o_eqS, o_neS, o_ltI, o_gtI, o_leI, o_geI, o_ltS, o_geS, o_inS, o_notInS, o_isN, o_isNotN, o_isT, o_isNotT, o_isS, o_isNotS, o_int, o_intB, o_abs, o_str, o_lenT, o_lenL, o_lenF, o_lenS, o_ixT, o_ixL, o_ixF, ixW_0, ixW_1, ixW_2, o_isStr, o_tupL, o_tupT, o_listT, o_listL, o_listLocT, o_gcd, o_bits, o_finF, o_finT, sat_iVal, sat_iEnum, sat_iRange1, sat_iRange2, o_itT, o_itL, o_itF, o_itS, o_enT, o_rng, o_ixP hs, o_set hs, hb, decide_true, if_true, List.length_map, decide_eq_true ha2]
      refine ixW_of e ?_
      simp only [sat_ok, sat_bind, sat_v, sat_c, sat_bin, sat_un, sat_test, sat_truth, sat_and, sat_or, sat_not, sat_yes, sat_andv, sat_notv, sat_chain, sat_nil, sat_cons, sat_args, sat_call, sat_callX, sat_meth, sat_one, sat_oNone, sat_oSome, sat_sl, sat_tup, sat_lst, sat_loc, ss_nil, ss_seq, ss_set, ss_expr, ss_ret, ss_retN, ss_if, ss_tg, ss_par, ss_sub, ss_for, sat_comp, setTg, setTgs, wipeP, sizeLine_eq, List.map_cons, List.map_nil, List.length_cons, List.length_nil, List.cons_append, List.nil_append, List.set_cons_zero, List.set_cons_succ, List.getElem?_cons_zero, List.getElem?_cons_succ, Nat.reduceAdd, Nat.reduceSub, Nat.reduceLeDiff, List.reduceReplicate, Option.some.injEq, exists_eq_left', true_and, and_true, Nat.zero_add, o_addI, o_addS, o_addT, o_addL, o_subI, o_mulI, o_fdivI, o_modI, o_powI, o_negI, o_eqI, o_neI, o_eqS, o_neS, o_ltI, o_gtI, o_leI, o_geI, o_ltS, o_geS, o_inS, o_notInS, o_isN, o_isNotN, o_isT, o_isNotT, o_isS, o_isNotS, o_int, o_intB, o_abs, o_str, o_lenT, o_lenL, o_lenF, o_lenS, o_ixT, o_ixL, o_ixF, ixW_0, ixW_1, ixW_2, o_isStr, o_tupL, o_tupT, o_listT, o_listL, o_listLocT, o_gcd, o_bits, o_finF, o_finT, sat_iVal, sat_iEnum, sat_iRange1, sat_iRange2, o_itT, o_itL, o_itF, o_itS, o_enT, o_rng, Int.reduceLE, Int.reduceLT, nabs, Nat.reducePow, Nat.reduceLT, Int.reduceToNat, Int.reducePow, true_and, and_true, or_true, true_or, and_self, if_true, if_false, Bool.false_eq_true, decide_true, decide_false, not_false_eq_true, List.length_map, o_ixP hs, o_set hs, ixN3_0, ixN3_1, ixN3_2, o_ixP (g _), o_set (g _), ss, m64, hl, hl2, log97]
      generalize (if ns[k] < 0 then -ns[k] else ns[k]) = cell
      split
      · split
        · rename_i h
          refine fin1 _ _ _ ?_ (by simpa using h)
          omega
        · refine fin2 _ _ _ ?_
          omega
      · split
        · rename_i h
          refine fin1 _ _ _ ?_ (by simpa using h)
          omega
        · refine fin2 _ _ _ ?_
          omega
    · simp only [sat_ok, sat_bind, sat_v, sat_c, sat_bin, sat_un, sat_test, sat_truth, sat_and, sat_or, sat_not, sat_yes, sat_andv, sat_notv, sat_chain, sat_nil, sat_cons, sat_args, sat_call, sat_callX, sat_meth, sat_one, sat_oNone, sat_oSome, sat_sl, sat_tup, sat_lst, sat_loc, ss_nil, ss_seq, ss_set, ss_expr, ss_ret, ss_retN, ss_if, ss_tg, ss_par, ss_sub, ss_for, sat_comp, setTg, setTgs, wipeP, sizeLine_eq, List.map_cons, List.map_nil, List.length_cons, List.length_nil, List.cons_append, List.nil_append, List.set_cons_zero, List.set_cons_succ, List.getElem?_cons_zero, List.getElem?_cons_succ, Nat.reduceAdd, Nat.reduceSub, Nat.reduceLeDiff, List.reduceReplicate, Option.some.injEq, exists_eq_left', true_and, and_true, Nat.zero_add, o_addI, o_addS, o_addT, o_addL, o_subI, o_mulI, o_fdivI, o_modI, o_powI, o_negI, o_eqI, o_neI, o_eqS, o_neS, o_ltI, o_gtI, o_leI, o_geI, o_ltS, o_geS, o_inS, o_notInS, o_isN, o_isNotN, o_isT, o_isNotT, o_isS, o_isNotS, o_int, o_intB, o_abs, o_str, o_lenT, o_lenL, o_lenF, o_lenS, o_ixT, o_ixL, o_ixF, ixW_0, ixW_1, ixW_2, o_isStr, o_tupL, o_tupT, o_listT, o_listL, o_listLocT, o_gcd, o_bits, o_finF, o_finT, sat_iVal, sat_iEnum, sat_iRange1, sat_iRange2, o_itT, o_itL, o_itF, o_itS, o_enT, o_rng, Int.reduceLE, Int.reduceLT, nabs, Nat.reducePow, Nat.reduceLT, Int.reduceToNat, Int.reducePow, true_and, and_true, or_true, true_or, and_self, if_true, if_false, Bool.false_eq_true, decide_true, decide_false, not_false_eq_true, List.length_map, o_ixP hs, o_set hs, hb, decide_eq_false ha2, ixN3_0, ixN3_1, ixN3_2, o_ixP (g _), o_set (g _), ss, m64, hl, hl2, log97]
      exact fin2 _ _ _ ha
  · simp only [sat_ok, sat_bind, sat_v, sat_c, sat_bin, sat_un, sat_test, sat_truth, sat_and, sat_or, sat_not, sat_yes, sat_andv, sat_notv, sat_chain, sat_nil, sat_cons, sat_args, sat_call, sat_callX, sat_meth, sat_one, sat_oNone, sat_oSome, sat_sl, sat_tup, sat_lst, sat_loc, ss_nil, ss_seq, ss_set, ss_expr, ss_ret, ss_retN, ss_if, ss_tg, ss_par, ss_sub, ss_for, sat_comp, setTg, setTgs, wipeP, sizeLine_eq, List.map_cons, List.map_nil, List.length_cons, List.length_nil, List.cons_append, List.nil_append, List.set_cons_zero, List.set_cons_succ, List.getElem?_cons_zero, List.getElem?_cons_succ, Nat.reduceAdd, Nat.reduceSub, Nat.reduceLeDiff, List.reduceReplicate, Option.some.injEq, exists_eq_left', true_and, and_true, Nat.zero_add, o_addI, o_addS, o_addT, o_addL, o_subI, o_mulI, o_fdivI, o_modI, o_powI, o_negI, o_eqI, o_neI, o_eqS, o_neS, o_ltI, o_gtI, o_leI, o_geI, o_ltS, o_geS, o_inS, o_notInS, o_isN, o_isNotN, o_isT, o_isNotT, o_isS, o_isNotS, o_int, o_intB, o_abs, o_str, o_lenT, o_lenL, o_lenF, o_lenS, o_ixT, o_ixL, o_ixF, ixW_0, ixW_1, ixW_2, o_isStr, o_tupL, o_tupT, o_listT, o_listL, o_listLocT, o_gcd, o_bits, o_finF, o_finT, sat_iVal, sat_iEnum, sat_iRange1, sat_iRange2, o_itT, o_itL, o_itF, o_itS, o_enT, o_rng, Int.reduceLE, Int.reduceLT, nabs, Nat.reducePow, Nat.reduceLT, Int.reduceToNat, Int.reducePow, true_and, and_true, or_true, true_or, and_self, if_true, if_false, Bool.false_eq_true, decide_true, decide_false, not_false_eq_true, List.length_map, o_ixP hs, o_set hs, decide_eq_false hb, ixN3_0, ixN3_1, ixN3_2, o_ixP (g _), o_set (g _), ss, m64, hl, hl2, log97]
    split
    · rename_i h
      exact fin1 _ _ _ ha (by simpa using h)
    · exact fin2 _ _ _ ha
theorem source_ok {ns : List Int} {st : Store} : Sat (m_law_source [scr ns] st) fun v s => v = .loc st.length ∧ ∃ o, s = st ++ [o] ∧ SrcAt s st.length := by
  refine sat_body ?_
  unfold f_law_source
  simp only [sat_ok, sat_bind, sat_v, sat_c, sat_bin, sat_un, sat_test, sat_truth, sat_and, sat_or, sat_not, sat_yes, sat_andv, sat_notv, sat_chain, sat_nil, sat_cons, sat_args, sat_call, sat_callX, sat_meth, sat_one, sat_oNone, sat_oSome, sat_sl, sat_tup, sat_lst, sat_loc, ss_nil, ss_seq, ss_set, ss_expr, ss_ret, ss_retN, ss_if, ss_tg, ss_par, ss_sub, ss_for, sat_comp, setTg, setTgs, wipeP, sizeLine_eq, List.map_cons, List.map_nil, List.length_cons, List.length_nil, List.cons_append, List.nil_append, List.set_cons_zero, List.set_cons_succ, List.getElem?_cons_zero, List.getElem?_cons_succ, Nat.reduceAdd, Nat.reduceSub, Nat.reduceLeDiff, List.reduceReplicate, Option.some.injEq, exists_eq_left', true_and, and_true, Nat.zero_add, o_addI, o_addS, o_addT, o_addL, o_subI, o_mulI, o_fdivI, o_modI, o_powI, o_negI, o_eqI, o_neI, o_eqS, o_neS, o_ltI, o_gtI, o_leI, o_geI, o_ltS, o_geS, o_inS, o_notInS, o_isN, o_isNotN, o_isT, o_isNotT, o_isS, o_isNotS, o_int, o_intB, o_abs, o_str, o_lenT, o_lenL, o_lenF, o_lenS, o_ixT, o_ixL, o_ixF, ixW_0, ixW_1, ixW_2, o_isStr, o_tupL, o_tupT, o_listT, o_listL, o_listLocT, o_gcd, o_bits, o_finF, o_finT, sat_iVal, sat_iEnum, sat_iRange1, sat_iRange2, o_itT, o_itL, o_itF, o_itS, o_enT, o_rng]
  refine for_inv0 (fun e s => s = st ∧ ∃ (m : Int) (z : Option PV), e = [some (scr ns), some (.int m), z]) ⟨rfl, _, _, rfl⟩ ?_ ?_
  · rintro v e s hv ⟨rfl, m, z, rfl⟩
    obtain ⟨c, -, rfl⟩ := List.mem_map.mp hv
    simp only [sat_ok, sat_bind, sat_v, sat_c, sat_bin, sat_un, sat_test, sat_truth, sat_and, sat_or, sat_not, sat_yes, sat_andv, sat_notv, sat_chain, sat_nil, sat_cons, sat_args, sat_call, sat_callX, sat_meth, sat_one, sat_oNone, sat_oSome, sat_sl, sat_tup, sat_lst, sat_loc, ss_nil, ss_seq, ss_set, ss_expr, ss_ret, ss_retN, ss_if, ss_tg, ss_par, ss_sub, ss_for, sat_comp, setTg, setTgs, wipeP, sizeLine_eq, List.map_cons, List.map_nil, List.length_cons, List.length_nil, List.cons_append, List.nil_append, List.set_cons_zero, List.set_cons_succ, List.getElem?_cons_zero, List.getElem?_cons_succ, Nat.reduceAdd, Nat.reduceSub, Nat.reduceLeDiff, List.reduceReplicate, Option.some.injEq, exists_eq_left', true_and, and_true, Nat.zero_add, o_addI, o_addS, o_addT, o_addL, o_subI, o_mulI, o_fdivI, o_modI, o_powI, o_negI, o_eqI, o_neI, o_eqS, o_neS, o_ltI, o_gtI, o_leI, o_geI, o_ltS, o_geS, o_inS, o_notInS, o_isN, o_isNotN, o_isT, o_isNotT, o_isS, o_isNotS, o_int, o_intB, o_abs, o_str, o_lenT, o_lenL, o_lenF, o_lenS, o_ixT, o_ixL, o_ixF, ixW_0, ixW_1, ixW_2, o_isStr, o_tupL, o_tupT, o_listT, o_listL, o_listLocT, o_gcd, o_bits, o_finF, o_finT, sat_iVal, sat_iEnum, sat_iRange1, sat_iRange2, o_itT, o_itL, o_itF, o_itS, o_enT, o_rng, Int.reduceLE, Int.reduceLT, nabs, Nat.reducePow, Nat.reduceLT, Int.reduceToNat, Int.reducePow, true_and, and_true, or_true, true_or, and_self, if_true, if_false, Bool.false_eq_true, decide_true, decide_false, not_false_eq_true, List.length_map]
    exact ⟨_, _, rfl⟩
  · rintro e s ⟨rfl, m, z, rfl⟩
    simp only [sat_ok, sat_bind, sat_v, sat_c, sat_bin, sat_un, sat_test, sat_truth, sat_and, sat_or, sat_not, sat_yes, sat_andv, sat_notv, sat_chain, sat_nil, sat_cons, sat_args, sat_call, sat_callX, sat_meth, sat_one, sat_oNone, sat_oSome, sat_sl, sat_tup, sat_lst, sat_loc, ss_nil, ss_seq, ss_set, ss_expr, ss_ret, ss_retN, ss_if, ss_tg, ss_par, ss_sub, ss_for, sat_comp, setTg, setTgs, wipeP, sizeLine_eq, List.map_cons, List.map_nil, List.length_cons, List.length_nil, List.cons_append, List.nil_append, List.set_cons_zero, List.set_cons_succ, List.getElem?_cons_zero, List.getElem?_cons_succ, Nat.reduceAdd, Nat.reduceSub, Nat.reduceLeDiff, List.reduceReplicate, Option.some.injEq, exists_eq_left', true_and, and_true, Nat.zero_add, o_addI, o_addS, o_addT, o_addL, o_subI, o_mulI, o_fdivI, o_modI, o_powI, o_negI, o_eqI, o_neI, o_eqS, o_neS, o_ltI, o_gtI, o_leI, o_geI, o_ltS, o_geS, o_inS, o_notInS, o_isN, o_isNotN, o_isT, o_isNotT, o_isS, o_isNotS, o_int, o_intB, o_abs, o_str, o_lenT, o_lenL, o_lenF, o_lenS, o_ixT, o_ixL, o_ixF, ixW_0, ixW_1, ixW_2, o_isStr, o_tupL, o_tupT, o_listT, o_listL, o_listLocT, o_gcd, o_bits, o_finF, o_finT, sat_iVal, sat_iEnum, sat_iRange1, sat_iRange2, o_itT, o_itL, o_itF, o_itS, o_enT, o_rng, Int.reduceLE, Int.reduceLT, nabs, Nat.reducePow, Nat.reduceLT, Int.reduceToNat, Int.reducePow, true_and, and_true, or_true, true_or, and_self, if_true, if_false, Bool.false_eq_true, decide_true, decide_false, not_false_eq_true, List.length_map]
    exact ⟨_, rfl, 0, 0, m, by simp, by decide⟩
/-! ### names -/
theorem draw_len {P : PV → Prop} {xs : List PV} {r : Int} (h0 : 0 ≤ r) (h1 : r < xs.length) (p : ∀ y ∈ xs, P y) : ixW xs r P :=
  ixW_in h0 h1 fun y e => p y (List.mem_of_getElem? e)
theorem src_fr {st : Store} {l k : Nat} {o : PO} (h : k ≠ l) : (st.set l o)[k]? = st[k]? := List.getElem?_set_ne (Ne.symm h)
theorem set_self {st : Store} {l : Nat} {o : PO} (h : st[l]? = some o) : st.set l o = st := by
  obtain ⟨h1, h2⟩ := List.getElem?_eq_some_iff.mp h
  rw [← h2]
  exact List.set_getElem_self h1
theorem SrcAt.self {st : Store} {l : Nat} (h : SrcAt st l) : ∃ o, st = st.set l o := by
  obtain ⟨a, b, c, h, _⟩ := h
  exact ⟨_, (set_self h).symm⟩
/-- the texts in use, as a list that's read (of the store, or finished) -/
def Used (st : Store) (v : PV) (l : Nat) (n : Nat) : Prop := ∃ (us : List Str) (b : Bool), us.length ≤ n ∧ ∀ o, seqOf (st.set l o) v = some (b, us.map .str)
theorem Used.set {st : Store} {v : PV} {l n : Nat} {o : PO} (h : Used st v l n) : Used (st.set l o) v l n := by
  obtain ⟨us, b, h1, h2⟩ := h
  exact ⟨us, b, h1, fun o' => by rw [List.set_set]; exact h2 o'⟩
theorem isDs_str (us : List Str) : isDs (us.map .str) = true := by induction us <;> simp_all [isDs, isD]
theorem depth_str (us : List Str) : PyData.depthAll (toDs (us.map .str)) = 0 := by induction us <;> simp_all [toDs, toD, PyData.depthAll, PyData.depth]
theorem o_inUsed {x : Str} {st : Store} {v : PV} {b : Bool} {us : List Str} {Q : PV → Store → Prop} (h : seqOf st v = some (b, us.map .str)) : Sat (pIn (.str x) v st) Q = Q (.bl (decide (x ∈ us))) st := by
  have hv : ∀ z, v ≠ .str z := fun z e => by subst e; cases h
  have e : pIn (.str x) v st = match seqOf st v with
    | some (_, xs) => if isD (.str x) = true ∧ isDs xs = true ∧ min (PyData.depthAll (toDs xs)) (toD (.str x)).depth ≤ 60 then .ok (.bl (inD (.str x) xs)) st else .stuck
    | none => .stuck := by
    unfold pIn
    cases v with
    | str z => exact absurd rfl (hv z)
    | _ => rfl
  rw [e, h]
  show Sat (if _ then _ else _) Q = _
  rw [if_pos ⟨by simp [isD], isDs_str us, by simp [toD, PyData.depth]⟩]
  have : inD (.str x) (us.map .str) = decide (x ∈ us) := by
    unfold inD
    rw [List.any_map]
    rw [Bool.eq_iff_iff]
    simp only [List.any_eq_true, Function.comp, decide_eq_true_eq, toD, PyData.eqv, beq_iff_eq]
    constructor
    · rintro ⟨y, m, rfl⟩; exact m
    · exact fun m => ⟨x, m, rfl⟩
  rw [this, sat_ok]
theorem str_len (i : Int) (h : 0 ≤ i) (h2 : i < 1000) : (strInt i).length ≤ 3 := by
  obtain ⟨k, rfl⟩ := Int.eq_ofNat_of_zero_le h
  have hk : k < 1000 := by omega
  have : ∀ k : Fin 1000, (strInt (k.val : Int)).length ≤ 3 := by decide +kernel
  exact this ⟨k, hk⟩
theorem len_app (x y : Str) : (x ++ y).length = x.length + y.length := by
  show (Array.append _ _).size = _
  first | (simp; done) | (simp [Array.size_append]; rfl)
end PL
/-! PL, part p: drawn names. -/
namespace PL
open PySem PySem.Spec PyProof.Rows L2
theorem ixS_in {z : Str} {i : Int} {st : Store} {Q : PV → Store → Prop} (hz : z.length ≤ sizeLine) (h0 : 0 ≤ i) (h1 : i < z.length) (p : ∀ c ∈ z.cps.toList, Q (.str ⟨#[c]⟩) st) : Sat (pIx (.str z) (.int i) st) Q := by
  obtain ⟨k, rfl⟩ := Int.eq_ofNat_of_zero_le h0
  have hk : k < z.cps.toList.length := by
    have : z.length = z.cps.size := rfl
    rw [Array.length_toList]; omega
  have e : atI z.cps.toList (k : Int) = some z.cps.toList[k] := by
    unfold atI ixN
    rw [if_pos (by omega), if_pos (by omega)]
    simp [List.getElem?_eq_getElem hk]
  show Sat (match (if z.length ≤ sizeLine then atI z.cps.toList (k : Int) else none) with | some c => .ok (.str ⟨#[c]⟩) st | none => .stuck) Q
  rw [if_pos hz, e]
  exact ⟨_, _, rfl, p _ (List.getElem_mem hk)⟩
theorem len1 {c : Nat} : (⟨#[c]⟩ : Str).length = 1 := rfl
theorem lenLet : ("abcdefghijklmnopqrstuvwxyz" : Str).length = 26 := by decide +kernel
theorem lenDig : ("0123456789" : Str).length = 10 := by decide +kernel
theorem rngs_len {n : Nat} {lo : Int} : (rngs lo n).length = n := by simp [rngs]
theorem rngs_get {lo : Int} {n i : Nat} {v : PV} (h : (rngs lo n)[i]? = some v) : i < n ∧ v = .int (lo + i) := by
  unfold rngs at h
  rw [List.getElem?_map] at h
  by_cases hi : i < n
  · rw [List.getElem?_range hi] at h
    cases h
    exact ⟨hi, rfl⟩
  · rw [List.getElem?_eq_none (by simpa using hi)] at h
    cases h
theorem sl16 {n : Nat} (h : n ≤ 16777216) : n ≤ sizeLine := by rw [sizeLine_eq]; exact h
theorem log2_small {n : Nat} (h : n < 1024) : n.log2 < 1920 := by
  by_cases h0 : n = 0
  · rw [h0]; decide
  · exact Nat.lt_trans ((Nat.log2_lt h0).mpr (show n < 2 ^ 10 from h)) (by decide)
/-! the names that are tried -/
def unStr (z : Str) : Nat := z.cps.toList.foldl (fun a c => a * 10 + (c - 48)) 0
theorem unStr_ok : ∀ k : Fin 1000, unStr (strInt (k.val : Int)) = k.val ∧ 1 ≤ (strInt (k.val : Int)).length := by decide +kernel
theorem str_inj {i j : Nat} (hi : i < 1000) (hj : j < 1000) (h : strInt (i : Int) = strInt (j : Int)) : i = j := by
  have a := (unStr_ok ⟨i, hi⟩).1
  have b := (unStr_ok ⟨j, hj⟩).1
  simp only at a b
  rw [← a, ← b, h]
theorem app_list (x y : Str) : (x ++ y).cps.toList = x.cps.toList ++ y.cps.toList := by
  show (Array.append _ _).toList = _
  first | (simp; done) | exact Array.toList_append
theorem str_ext {x y : Str} (h : x.cps.toList = y.cps.toList) : x = y := by
  cases x with
  | mk a => cases y with
    | mk b =>
      have : a = b := Array.toList_inj.mp h
      rw [this]
theorem app_inj {x y z : Str} (h : x ++ y = x ++ z) : y = z := by
  refine str_ext ?_
  have := congrArg (fun s : Str => s.cps.toList) h
  simp only [app_list] at this
  exact List.append_cancel_left this
def isLow (c : Nat) : Bool := decide (97 ≤ c) && decide (c ≤ 122)
def isDg (c : Nat) : Bool := decide (48 ≤ c) && decide (c ≤ 57)
def isLD (c : Nat) : Bool := isLow c || isDg c
/-- a letter, then letters and digits -/
def nmB (z : Str) : Bool := match z.cps.toList with
  | c :: cs => isLow c && (c :: cs).all isLD
  | [] => false
theorem nmB_app {x y : Str} (h : nmB x = true) (h2 : y.cps.toList.all isLD = true) : nmB (x ++ y) = true := by
  unfold nmB at h ⊢
  rw [app_list]
  cases q : x.cps.toList with
  | nil => rw [q] at h; cases h
  | cons c cs =>
    rw [q] at h
    have h : (isLow c && (c :: cs).all isLD) = true := h
    show (isLow c && (c :: (cs ++ y.cps.toList)).all isLD) = true
    rw [Bool.and_eq_true] at h ⊢
    refine ⟨h.1, ?_⟩
    have := h.2
    rw [List.all_cons, Bool.and_eq_true] at this ⊢
    refine ⟨this.1, ?_⟩
    rw [List.all_append, this.2, h2]; rfl
theorem let_low : ∀ c ∈ ("abcdefghijklmnopqrstuvwxyz" : Str).cps.toList, isLow c = true := by decide +kernel
theorem dig_dg : ∀ c ∈ ("0123456789" : Str).cps.toList, isDg c = true := by decide +kernel
theorem num_dg : ∀ k : Fin 1000, (strInt (k.val : Int)).cps.toList.all isLD = true := by decide +kernel
def cand (b : Str) : Nat → Str
  | 0 => b
  | k + 1 => b ++ strInt (k : Int)
theorem cand_inj {b : Str} {i j : Nat} (hi : i ≤ 1000) (hj : j ≤ 1000) (h : cand b i = cand b j) : i = j := by
  cases i with
  | zero =>
    cases j with
    | zero => rfl
    | succ j =>
      have h2 : b = b ++ strInt (j : Int) := h
      have := congrArg Str.length h2
      rw [len_app] at this
      have := (unStr_ok ⟨j, by omega⟩).2
      simp only at this
      omega
  | succ i =>
    cases j with
    | zero =>
      have h2 : b ++ strInt (i : Int) = b := h
      have := congrArg Str.length h2
      rw [len_app] at this
      have := (unStr_ok ⟨i, by omega⟩).2
      simp only at this
      omega
    | succ j =>
      have h2 : b ++ strInt (i : Int) = b ++ strInt (j : Int) := h
      rw [str_inj (by omega) (by omega) (app_inj h2)]
theorem sub_len {α : Type} [DecidableEq α] : ∀ {l m : List α}, l.Nodup → (∀ x ∈ l, x ∈ m) → l.length ≤ m.length
  | [], m, _, _ => Nat.zero_le _
  | x :: l, m, hn, hs => by
    rw [List.nodup_cons] at hn
    have hx := hs x List.mem_cons_self
    have := sub_len (l := l) (m := m.erase x) hn.2 fun y hy => (List.mem_erase_of_ne (fun e : y = x => hn.1 (by rw [← e]; exact hy))).mpr (hs y (List.mem_cons_of_mem _ hy))
    rw [List.length_erase_of_mem hx] at this
    have := List.length_pos_of_mem hx
    simp only [List.length_cons]
    omega
theorem cand_out {b : Str} {us : List Str} (hn : us.length ≤ 900) : ¬ ∀ j, j ≤ us.length → cand b j ∈ us := by
  intro h
  have nd : ((List.range (us.length + 1)).map (cand b)).Nodup := by
    rw [List.nodup_iff_pairwise_ne, List.pairwise_map]
    refine List.Pairwise.imp_of_mem ?_ (List.nodup_iff_pairwise_ne.mp (List.nodup_range (n := us.length + 1)))
    intro i j mi mj hij e
    have := List.mem_range.mp mi
    have := List.mem_range.mp mj
    exact hij (cand_inj (by omega) (by omega) e)
  have := sub_len nd fun x m => by
    obtain ⟨j, mj, rfl⟩ := List.mem_map.mp m
    exact h j (by have := List.mem_range.mp mj; omega)
  simp at this
  omega
theorem name_rest {ns : List Int} {l : Nat} {us : List Str} {used : PV} {st : Store} {w : Option PV} (hu : ∃ b, ∀ o, seqOf (st.set l o) used = some (b, us.map .str)) (hn : us.length ≤ 900) (z : Str) (o : PO) (a b : PV) (hz : z.length ≤ 3) (hnm : nmB z = true) (s5 : SrcAt (st.set l o) l) :
    Sat (pLen used (st.set l o)) fun v s => Sat (pAdd v (.int 1) s) fun v s => Sat (pRange1 [v] s) fun p s =>
        SatS (sForL (.one 6) (sIf (eTest (eBin pIn (eVar 5) (eVar 2))) (sSet 5 (eBin pAdd (eVar 7) (eArgs (one pStr) (aCons (eVar 6) aNil)))) sNil) p.ok p.xs
          [some (scr ns), some (.loc l), some used, some a, some b, some (.str z), w, some (.str z)] s)
          (fun e s => SatS (sRet (eVar 5) e s) (fun _ s => ∃ z o, PV.non = .str z ∧ z.length ≤ 6 ∧ nmB z = true ∧ z ∉ us ∧ s = st.set l o ∧ SrcAt s l) fun v s => ∃ z o, v = .str z ∧ z.length ≤ 6 ∧ nmB z = true ∧ z ∉ us ∧ s = st.set l o ∧ SrcAt s l)
          (fun v s => ∃ z o, v = .str z ∧ z.length ≤ 6 ∧ nmB z = true ∧ z ∉ us ∧ s = st.set l o ∧ SrcAt s l) := by
  obtain ⟨bb, hus⟩ := hu
  have e1 : pLen used (st.set l o) = .ok (.int us.length) (st.set l o) := by
    have q := hus o
    unfold pLen
    cases used with
    | str x => cases q
    | _ => simp only [q, List.length_map]
  rw [e1, sat_ok, o_addI, o_rng]
  refine ⟨by omega, ?_⟩
  refine for_invN (k := 0) (fun i e s => ∃ z' w, e = [some (scr ns), some (.loc l), some used, some a, some b, some (.str z'), w, some (.str z)] ∧ z'.length ≤ 6 ∧ nmB z' = true ∧ s = st.set l o ∧ (z' ∉ us ∨ (z' = cand z i ∧ ∀ j, j < i → cand z j ∈ us)))
    ⟨_, _, rfl, by omega, hnm, rfl, .inr ⟨rfl, fun j hj => absurd hj (Nat.not_lt_zero _)⟩⟩ ?_ ?_
  · rintro i v e s hv ⟨z', w', rfl, hz', hnm', rfl, hc⟩
    obtain ⟨hi, rfl⟩ := rngs_get hv
    rw [Nat.zero_add] at hc ⊢
    refine ⟨_, rfl, ?_⟩
    rw [ss_if, sat_test, sat_bin, sat_var rfl, sat_var rfl, o_inUsed (hus o), sat_truth]
    by_cases hin : z' ∈ us
    · rw [decide_eq_true hin, if_pos rfl]
      have q := str_len (0 + (i : Int)) (by omega) (by omega)
      rw [ss_set, sat_bin, sat_var rfl, sat_args, sat_cons, sat_var rfl, sat_nil, sat_one, o_str, o_addS]
      refine ⟨log2_small (by omega), sl16 (by omega), _, _, rfl, by rw [len_app]; omega, by rw [Int.zero_add]; exact nmB_app hnm (num_dg ⟨i, by omega⟩), rfl, .inr ⟨by rw [Int.zero_add]; rfl, fun j hj => ?_⟩⟩
      rcases hc with hc | ⟨hc1, hc2⟩
      · exact absurd hin hc
      · rcases Nat.lt_succ_iff_lt_or_eq.mp hj with z | z
        · exact hc2 j z
        · rw [z, ← hc1]; exact hin
    · rw [decide_eq_false hin, if_neg (by simp), ss_nil]
      exact ⟨_, _, rfl, hz', hnm', rfl, .inl hin⟩
  · rintro e s ⟨z', w', rfl, hz', hnm', rfl, hc⟩
    rw [ss_ret, sat_var rfl]
    refine ⟨_, _, rfl, hz', hnm', ?_, rfl, s5⟩
    rcases hc with hc | ⟨hc1, hc2⟩
    · exact hc
    · rw [rngs_len] at hc2
      exact absurd (fun j hj => hc2 j (by omega)) (cand_out (b := z) hn)
theorem name_ok {ns : List Int} {l : Nat} {us : List Str} {used : PV} {st : Store} (hs : SrcAt st l) (hu : ∃ b, ∀ o, seqOf (st.set l o) used = some (b, us.map .str)) (hn : us.length ≤ 900) :
    Sat (m_law_name [scr ns, .loc l, used] st) fun v s => ∃ z o, v = .str z ∧ z.length ≤ 6 ∧ nmB z = true ∧ z ∉ us ∧ s = st.set l o ∧ SrcAt s l := by
  refine sat_body ?_
  unfold f_law_name
  simp only [sat_ok, sat_bind, sat_v, sat_c, sat_bin, sat_un, sat_test, sat_truth, sat_and, sat_or, sat_not, sat_yes, sat_andv, sat_notv, sat_chain, sat_nil, sat_cons, sat_args, sat_call, sat_callX, sat_meth, sat_one, sat_oNone, sat_oSome, sat_sl, sat_tup, sat_lst, sat_loc, ss_nil, ss_seq, ss_set, ss_expr, ss_ret, ss_retN, ss_if, ss_tg, ss_par, ss_sub, ss_for, sat_comp, setTg, setTgs, wipeP, sizeLine_eq, List.map_cons, List.map_nil, List.length_cons, List.length_nil, List.cons_append, List.nil_append, List.set_cons_zero, List.set_cons_succ, List.getElem?_cons_zero, List.getElem?_cons_succ, Nat.reduceAdd, Nat.reduceSub, Nat.reduceLeDiff, List.reduceReplicate, Option.some.injEq, exists_eq_left', true_and, and_true, Nat.zero_add, o_addI, o_addS, o_addT, o_addL, o_subI, o_mulI, o_fdivI, o_modI, o_powI, o_negI, o_eqI, o_neI, o_eqS, o_neS, o_ltI, o_gtI, o_leI, o_geI, o_ltS, o_geS, o_inS, o_notInS, o_isN, o_isNotN, o_isT, o_isNotT, o_isS, o_isNotS, o_int, o_intB, o_abs, o_str, o_lenT, o_lenL, o_lenF, o_lenS, o_ixT, o_ixL, o_ixF, ixW_0, ixW_1, ixW_2, o_isStr, o_tupL, o_tupT, o_listT, o_listL, o_listLocT, o_gcd, o_bits, o_finF, o_finT, sat_iVal, sat_iEnum, sat_iRange1, sat_iRange2, o_itT, o_itL, o_itF, o_itS, o_enT, o_rng, lenLet, lenDig]
  refine (draw_ok hs (by decide) (by decide)).mono ?_
  rintro _ _ ⟨r, o1, rfl, h0, h1, rfl, s1⟩
  refine ixS_in (by rw [lenLet]; exact sl16 (by decide)) h0 (by rw [lenLet]; omega) fun c1 mc1 => ?_
  refine (draw_ok s1 (by decide) (by decide)).mono ?_
  rintro _ _ ⟨r2, o2, rfl, g0, g1, rfl, s2⟩
  simp only [sat_ok, sat_bind, sat_v, sat_c, sat_bin, sat_un, sat_test, sat_truth, sat_and, sat_or, sat_not, sat_yes, sat_andv, sat_notv, sat_chain, sat_nil, sat_cons, sat_args, sat_call, sat_callX, sat_meth, sat_one, sat_oNone, sat_oSome, sat_sl, sat_tup, sat_lst, sat_loc, ss_nil, ss_seq, ss_set, ss_expr, ss_ret, ss_retN, ss_if, ss_tg, ss_par, ss_sub, ss_for, sat_comp, setTg, setTgs, wipeP, sizeLine_eq, List.map_cons, List.map_nil, List.length_cons, List.length_nil, List.cons_append, List.nil_append, List.set_cons_zero, List.set_cons_succ, List.getElem?_cons_zero, List.getElem?_cons_succ, Nat.reduceAdd, Nat.reduceSub, Nat.reduceLeDiff, List.reduceReplicate, Option.some.injEq, exists_eq_left', true_and, and_true, Nat.zero_add, o_addI, o_addS, o_addT, o_addL, o_subI, o_mulI, o_fdivI, o_modI, o_powI, o_negI, o_eqI, o_neI, o_eqS, o_neS, o_ltI, o_gtI, o_leI, o_geI, o_ltS, o_geS, o_inS, o_notInS, o_isN, o_isNotN, o_isT, o_isNotT, o_isS, o_isNotS, o_int, o_intB, o_abs, o_str, o_lenT, o_lenL, o_lenF, o_lenS, o_ixT, o_ixL, o_ixF, ixW_0, ixW_1, ixW_2, o_isStr, o_tupL, o_tupT, o_listT, o_listL, o_listLocT, o_gcd, o_bits, o_finF, o_finT, sat_iVal, sat_iEnum, sat_iRange1, sat_iRange2, o_itT, o_itL, o_itF, o_itS, o_enT, o_rng]
  refine ⟨by omega, ?_⟩
  have lS : (("abcdefghijklmnopqrstuvwxyz" : Str) ++ ("0123456789" : Str)).length = 36 := by rw [len_app, lenLet, lenDig]
  refine for_invN (k := 0) (fun i e s => ∃ z o w, e = [some (scr ns), some (.loc l), some used, some (.str "abcdefghijklmnopqrstuvwxyz"), some (.str ("abcdefghijklmnopqrstuvwxyz" ++ "0123456789")), some (.str z), w, none] ∧ z.length ≤ 1 + i ∧ nmB z = true ∧ s = st.set l o ∧ SrcAt s l)
    ⟨_, o2, none, rfl, by rw [len1]; omega, by unfold nmB; simp [let_low c1 mc1, isLD], by rw [List.set_set], s2⟩ ?_ ?_
  · rintro i v e s hv ⟨z, o, w, rfl, hz, hnm, rfl, s3⟩
    obtain ⟨hi, rfl⟩ := rngs_get hv
    simp only [sat_ok, sat_bind, sat_v, sat_c, sat_bin, sat_un, sat_test, sat_truth, sat_and, sat_or, sat_not, sat_yes, sat_andv, sat_notv, sat_chain, sat_nil, sat_cons, sat_args, sat_call, sat_callX, sat_meth, sat_one, sat_oNone, sat_oSome, sat_sl, sat_tup, sat_lst, sat_loc, ss_nil, ss_seq, ss_set, ss_expr, ss_ret, ss_retN, ss_if, ss_tg, ss_par, ss_sub, ss_for, sat_comp, setTg, setTgs, wipeP, sizeLine_eq, List.map_cons, List.map_nil, List.length_cons, List.length_nil, List.cons_append, List.nil_append, List.set_cons_zero, List.set_cons_succ, List.getElem?_cons_zero, List.getElem?_cons_succ, Nat.reduceAdd, Nat.reduceSub, Nat.reduceLeDiff, List.reduceReplicate, Option.some.injEq, exists_eq_left', true_and, and_true, Nat.zero_add, o_addI, o_addS, o_addT, o_addL, o_subI, o_mulI, o_fdivI, o_modI, o_powI, o_negI, o_eqI, o_neI, o_eqS, o_neS, o_ltI, o_gtI, o_leI, o_geI, o_ltS, o_geS, o_inS, o_notInS, o_isN, o_isNotN, o_isT, o_isNotT, o_isS, o_isNotS, o_int, o_intB, o_abs, o_str, o_lenT, o_lenL, o_lenF, o_lenS, o_ixT, o_ixL, o_ixF, ixW_0, ixW_1, ixW_2, o_isStr, o_tupL, o_tupT, o_listT, o_listL, o_listLocT, o_gcd, o_bits, o_finF, o_finT, sat_iVal, sat_iEnum, sat_iRange1, sat_iRange2, o_itT, o_itL, o_itF, o_itS, o_enT, o_rng]
    refine (draw_ok s3 (by decide) (by decide)).mono ?_
    rintro _ _ ⟨r3, o3, rfl, k0, k1, rfl, s4⟩
    refine ixS_in (by rw [lS]; exact sl16 (by decide)) k0 (by rw [lS]; omega) fun c mc => ?_
    have hld : isLD c = true := by
      rw [app_list] at mc
      unfold isLD
      rcases List.mem_append.mp mc with mc | mc
      · rw [let_low c mc]; rfl
      · rw [dig_dg c mc, Bool.or_true]
    simp only [o_addI, o_addS, o_addT, o_addL, o_subI, o_mulI, o_fdivI, o_modI, o_powI, o_negI, o_eqI, o_neI, o_eqS, o_neS, o_ltI, o_gtI, o_leI, o_geI, o_ltS, o_geS, o_inS, o_notInS, o_isN, o_isNotN, o_isT, o_isNotT, o_isS, o_isNotS, o_int, o_intB, o_abs, o_str, o_lenT, o_lenL, o_lenF, o_lenS, o_ixT, o_ixL, o_ixF, ixW_0, ixW_1, ixW_2, o_isStr, o_tupL, o_tupT, o_listT, o_listL, o_listLocT, o_gcd, o_bits, o_finF, o_finT, sat_iVal, sat_iEnum, sat_iRange1, sat_iRange2, o_itT, o_itL, o_itF, o_itS, o_enT, o_rng]
    refine ⟨by rw [len1]; exact sl16 (by omega), _, o3, _, rfl, by rw [len_app, len1]; omega, nmB_app hnm (by simp [hld]), by rw [List.set_set], s4⟩
  · rintro e s ⟨z, o, w, rfl, hz, hnm, rfl, s3⟩
    rw [rngs_len] at hz
    have hz : z.length ≤ 3 := by omega
    simp only [sat_ok, sat_bind, sat_v, sat_c, sat_bin, sat_un, sat_test, sat_truth, sat_and, sat_or, sat_not, sat_yes, sat_andv, sat_notv, sat_chain, sat_nil, sat_cons, sat_args, sat_call, sat_callX, sat_meth, sat_one, sat_oNone, sat_oSome, sat_sl, sat_tup, sat_lst, sat_loc, ss_nil, ss_seq, ss_set, ss_expr, ss_ret, ss_retN, ss_if, ss_tg, ss_par, ss_sub, ss_for, sat_comp, setTg, setTgs, wipeP, sizeLine_eq, List.map_cons, List.map_nil, List.length_cons, List.length_nil, List.cons_append, List.nil_append, List.set_cons_zero, List.set_cons_succ, List.getElem?_cons_zero, List.getElem?_cons_succ, Nat.reduceAdd, Nat.reduceSub, Nat.reduceLeDiff, List.reduceReplicate, Option.some.injEq, exists_eq_left', true_and, and_true, Nat.zero_add, o_addI, o_addS, o_addT, o_addL, o_subI, o_mulI, o_fdivI, o_modI, o_powI, o_negI, o_eqI, o_neI, o_eqS, o_neS, o_ltI, o_gtI, o_leI, o_geI, o_ltS, o_geS, o_inS, o_notInS, o_isN, o_isNotN, o_isT, o_isNotT, o_isS, o_isNotS, o_int, o_intB, o_abs, o_str, o_lenT, o_lenL, o_lenF, o_lenS, o_ixT, o_ixL, o_ixF, ixW_0, ixW_1, ixW_2, o_isStr, o_tupL, o_tupT, o_listT, o_listL, o_listLocT, o_gcd, o_bits, o_finF, o_finT, sat_iVal, sat_iEnum, sat_iRange1, sat_iRange2, o_itT, o_itL, o_itF, o_itS, o_enT, o_rng]
    refine (draw_ok s3 (by decide) (by decide)).mono ?_
    rintro _ _ ⟨r3, o3, rfl, k0, k1, rfl, s4⟩
    simp only [sat_ok, sat_bind, sat_v, sat_c, sat_bin, sat_un, sat_test, sat_truth, sat_and, sat_or, sat_not, sat_yes, sat_andv, sat_notv, sat_chain, sat_nil, sat_cons, sat_args, sat_call, sat_callX, sat_meth, sat_one, sat_oNone, sat_oSome, sat_sl, sat_tup, sat_lst, sat_loc, ss_nil, ss_seq, ss_set, ss_expr, ss_ret, ss_retN, ss_if, ss_tg, ss_par, ss_sub, ss_for, sat_comp, setTg, setTgs, wipeP, sizeLine_eq, List.map_cons, List.map_nil, List.length_cons, List.length_nil, List.cons_append, List.nil_append, List.set_cons_zero, List.set_cons_succ, List.getElem?_cons_zero, List.getElem?_cons_succ, Nat.reduceAdd, Nat.reduceSub, Nat.reduceLeDiff, List.reduceReplicate, Option.some.injEq, exists_eq_left', true_and, and_true, Nat.zero_add, o_addI, o_addS, o_addT, o_addL, o_subI, o_mulI, o_fdivI, o_modI, o_powI, o_negI, o_eqI, o_neI, o_eqS, o_neS, o_ltI, o_gtI, o_leI, o_geI, o_ltS, o_geS, o_inS, o_notInS, o_isN, o_isNotN, o_isT, o_isNotT, o_isS, o_isNotS, o_int, o_intB, o_abs, o_str, o_lenT, o_lenL, o_lenF, o_lenS, o_ixT, o_ixL, o_ixF, ixW_0, ixW_1, ixW_2, o_isStr, o_tupL, o_tupT, o_listT, o_listL, o_listLocT, o_gcd, o_bits, o_finF, o_finT, sat_iVal, sat_iEnum, sat_iRange1, sat_iRange2, o_itT, o_itL, o_itF, o_itS, o_enT, o_rng]
    split
    · refine (draw_ok s4 (by decide) (by decide)).mono ?_
      rintro _ _ ⟨r4, o4, rfl, m0, m1, rfl, s5⟩
      simp only [sat_ok, sat_bind, sat_v, sat_c, sat_bin, sat_un, sat_test, sat_truth, sat_and, sat_or, sat_not, sat_yes, sat_andv, sat_notv, sat_chain, sat_nil, sat_cons, sat_args, sat_call, sat_callX, sat_meth, sat_one, sat_oNone, sat_oSome, sat_sl, sat_tup, sat_lst, sat_loc, ss_nil, ss_seq, ss_set, ss_expr, ss_ret, ss_retN, ss_if, ss_tg, ss_par, ss_sub, ss_for, sat_comp, setTg, setTgs, wipeP, sizeLine_eq, List.map_cons, List.map_nil, List.length_cons, List.length_nil, List.cons_append, List.nil_append, List.set_cons_zero, List.set_cons_succ, List.getElem?_cons_zero, List.getElem?_cons_succ, Nat.reduceAdd, Nat.reduceSub, Nat.reduceLeDiff, List.reduceReplicate, Option.some.injEq, exists_eq_left', true_and, and_true, Nat.zero_add, o_addI, o_addS, o_addT, o_addL, o_subI, o_mulI, o_fdivI, o_modI, o_powI, o_negI, o_eqI, o_neI, o_eqS, o_neS, o_ltI, o_gtI, o_leI, o_geI, o_ltS, o_geS, o_inS, o_notInS, o_isN, o_isNotN, o_isT, o_isNotT, o_isS, o_isNotS, o_int, o_intB, o_abs, o_str, o_lenT, o_lenL, o_lenF, o_lenS, o_ixT, o_ixL, o_ixF, ixW_0, ixW_1, ixW_2, o_isStr, o_tupL, o_tupT, o_listT, o_listL, o_listLocT, o_gcd, o_bits, o_finF, o_finT, sat_iVal, sat_iEnum, sat_iRange1, sat_iRange2, o_itT, o_itL, o_itF, o_itS, o_enT, o_rng]
      refine draw_len m0 (by simp only [List.length_cons, List.length_nil]; omega) fun y hy => ?_
      obtain ⟨z2, rfl, hz2, hnm2⟩ : ∃ z2, y = .str z2 ∧ z2.length ≤ 3 ∧ nmB z2 = true := by
        simp only [List.mem_cons, List.not_mem_nil, or_false] at hy
        rcases hy with rfl | rfl | rfl | rfl | rfl | rfl <;> exact ⟨_, rfl, by decide +kernel, by decide +kernel⟩
      rw [List.set_set, List.set_set]
      have := name_rest (ns := ns) (w := w) hu hn z2 o4 (.str "abcdefghijklmnopqrstuvwxyz") (.str ("abcdefghijklmnopqrstuvwxyz" ++ "0123456789")) hz2 hnm2 (by rw [List.set_set, List.set_set] at s5; exact s5)
      simpa only [sat_ok, sat_bind, sat_v, sat_c, sat_bin, sat_un, sat_test, sat_truth, sat_and, sat_or, sat_not, sat_yes, sat_andv, sat_notv, sat_chain, sat_nil, sat_cons, sat_args, sat_call, sat_callX, sat_meth, sat_one, sat_oNone, sat_oSome, sat_sl, sat_tup, sat_lst, sat_loc, ss_nil, ss_seq, ss_set, ss_expr, ss_ret, ss_retN, ss_if, ss_tg, ss_par, ss_sub, ss_for, sat_comp, setTg, setTgs, wipeP, sizeLine_eq, List.map_cons, List.map_nil, List.length_cons, List.length_nil, List.cons_append, List.nil_append, List.set_cons_zero, List.set_cons_succ, List.getElem?_cons_zero, List.getElem?_cons_succ, Nat.reduceAdd, Nat.reduceSub, Nat.reduceLeDiff, List.reduceReplicate, Option.some.injEq, exists_eq_left', true_and, and_true, Nat.zero_add, o_addI, o_addS, o_addT, o_addL, o_subI, o_mulI, o_fdivI, o_modI, o_powI, o_negI, o_eqI, o_neI, o_eqS, o_neS, o_ltI, o_gtI, o_leI, o_geI, o_ltS, o_geS, o_inS, o_notInS, o_isN, o_isNotN, o_isT, o_isNotT, o_isS, o_isNotS, o_int, o_intB, o_abs, o_str, o_lenT, o_lenL, o_lenF, o_lenS, o_ixT, o_ixL, o_ixF, ixW_0, ixW_1, ixW_2, o_isStr, o_tupL, o_tupT, o_listT, o_listL, o_listLocT, o_gcd, o_bits, o_finF, o_finT, sat_iVal, sat_iEnum, sat_iRange1, sat_iRange2, o_itT, o_itL, o_itF, o_itS, o_enT, o_rng] using this
    · rw [List.set_set]
      have := name_rest (ns := ns) (w := w) hu hn z o3 (.str "abcdefghijklmnopqrstuvwxyz") (.str ("abcdefghijklmnopqrstuvwxyz" ++ "0123456789")) hz hnm (by rw [List.set_set] at s4; exact s4)
      simpa only [sat_ok, sat_bind, sat_v, sat_c, sat_bin, sat_un, sat_test, sat_truth, sat_and, sat_or, sat_not, sat_yes, sat_andv, sat_notv, sat_chain, sat_nil, sat_cons, sat_args, sat_call, sat_callX, sat_meth, sat_one, sat_oNone, sat_oSome, sat_sl, sat_tup, sat_lst, sat_loc, ss_nil, ss_seq, ss_set, ss_expr, ss_ret, ss_retN, ss_if, ss_tg, ss_par, ss_sub, ss_for, sat_comp, setTg, setTgs, wipeP, sizeLine_eq, List.map_cons, List.map_nil, List.length_cons, List.length_nil, List.cons_append, List.nil_append, List.set_cons_zero, List.set_cons_succ, List.getElem?_cons_zero, List.getElem?_cons_succ, Nat.reduceAdd, Nat.reduceSub, Nat.reduceLeDiff, List.reduceReplicate, Option.some.injEq, exists_eq_left', true_and, and_true, Nat.zero_add, o_addI, o_addS, o_addT, o_addL, o_subI, o_mulI, o_fdivI, o_modI, o_powI, o_negI, o_eqI, o_neI, o_eqS, o_neS, o_ltI, o_gtI, o_leI, o_geI, o_ltS, o_geS, o_inS, o_notInS, o_isN, o_isNotN, o_isT, o_isNotT, o_isS, o_isNotS, o_int, o_intB, o_abs, o_str, o_lenT, o_lenL, o_lenF, o_lenS, o_ixT, o_ixL, o_ixF, ixW_0, ixW_1, ixW_2, o_isStr, o_tupL, o_tupT, o_listT, o_listL, o_listLocT, o_gcd, o_bits, o_finF, o_finT, sat_iVal, sat_iEnum, sat_iRange1, sat_iRange2, o_itT, o_itL, o_itF, o_itS, o_enT, o_rng] using this
end PL
/-! PL, part q: frames; divisors. -/
namespace PL
open PySem PySem.Spec PyProof.Rows L2
/-- but the places in L all stands; the store may have grown -/
structure Gr (L : List Nat) (st s : Store) : Prop where
  len : st.length ≤ s.length
  same : ∀ k, k < st.length → k ∉ L → s[k]? = st[k]?
theorem Gr.refl {L : List Nat} {st : Store} : Gr L st st := ⟨Nat.le_refl _, fun _ _ _ => rfl⟩
theorem Gr.trans {L : List Nat} {a b c : Store} (h : Gr L a b) (g : Gr L b c) : Gr L a c := ⟨Nat.le_trans h.len g.len, fun k hk n => (g.same k (Nat.lt_of_lt_of_le hk h.len) n).trans (h.same k hk n)⟩
theorem Gr.set {L : List Nat} {st : Store} {l : Nat} {o : PO} (h : l ∈ L) : Gr L st (st.set l o) := ⟨by simp, fun k _ n => List.getElem?_set_ne (fun e : l = k => n (e ▸ h))⟩
theorem Gr.app {L : List Nat} {st r : Store} : Gr L st (st ++ r) := ⟨by simp, fun k hk _ => List.getElem?_append_left hk⟩
theorem Gr.mono {L L' : List Nat} {st s : Store} (h : Gr L st s) (i : ∀ k ∈ L, k ∈ L') : Gr L' st s := ⟨h.len, fun k hk n => h.same k hk fun m => n (i k m)⟩
/-- places that are new are no one's concern -/
theorem Gr.cut {L L' : List Nat} {st s : Store} (h : Gr L st s) (i : ∀ k ∈ L, k < st.length → k ∈ L') : Gr L' st s := ⟨h.len, fun k hk n => h.same k hk fun m => n (i k m hk)⟩
theorem SrcAt.lt {st : Store} {l : Nat} (h : SrcAt st l) : l < st.length := by
  obtain ⟨a, b, c, h, _⟩ := h
  exact (List.getElem?_eq_some_iff.mp h).1
theorem lt_of_some {st : Store} {l : Nat} {o : PO} (h : st[l]? = some o) : l < st.length := (List.getElem?_eq_some_iff.mp h).1
theorem SrcAt.gr {L : List Nat} {st s : Store} {l : Nat} (h : SrcAt st l) (g : Gr L st s) (n : l ∉ L) : SrcAt s l := by
  have hl := h.lt
  obtain ⟨a, b, c, h, h0⟩ := h
  exact ⟨a, b, c, (g.same l hl n).trans h, h0⟩
theorem Gr.at' {L : List Nat} {st s : Store} {k : Nat} {o : PO} (g : Gr L st s) (h : st[k]? = some o) (n : k ∉ L) : s[k]? = some o := (g.same k (lt_of_some h) n).trans h
theorem draw' {ns : List Int} {l : Nat} {lim : Int} {st : Store} {Q : PV → Store → Prop} (hs : SrcAt st l) (hl : 0 < lim) (hl2 : lim.natAbs.log2 < 9000)
    (k : ∀ r s, 0 ≤ r → r < lim → SrcAt s l → Gr [l] st s → Q (.int r) s) : Sat (m_law_draw [scr ns, .loc l, .int lim] st) Q := by
  refine (draw_ok hs hl hl2).mono ?_
  rintro _ _ ⟨r, o, rfl, h0, h1, rfl, s1⟩
  exact k r _ h0 h1 s1 (.set (by simp))
/-- texts that are read: finished, or at a place other than l -/
structure Use (st : Store) (v : PV) (l n : Nat) (us : List Str) : Prop where
  ex : ∃ b, seqOf st v = some (b, us.map .str)
  len : us.length ≤ n
  ne : v ≠ .loc l
theorem seqOf_gr {L : List Nat} {st s : Store} {v : PV} {q : Bool × List PV} (g : Gr L st s) (h : seqOf st v = some q) (n : ∀ k ∈ L, v ≠ .loc k) : seqOf s v = some q := by
  cases v with
  | loc k =>
    unfold seqOf at h ⊢
    simp only at h ⊢
    split at h
    · rename_i xs e
      have : s[k]? = some (.lst xs) := g.at' e fun m => n k m rfl
      simp only [this]
      exact h
    · cases h
  | _ => exact h
theorem Use.gr {L : List Nat} {st s : Store} {v : PV} {l n : Nat} {us : List Str} (u : Use st v l n us) (g : Gr L st s) (h : ∀ k ∈ L, v ≠ .loc k) : Use s v l n us :=
  ⟨let ⟨b, e⟩ := u.ex; ⟨b, seqOf_gr g e h⟩, u.len, u.ne⟩
theorem Use.nil {st : Store} {l n : Nat} : Use st (.lst []) l n [] := ⟨⟨false, rfl⟩, Nat.zero_le _, nofun⟩
theorem Use.lst {st : Store} {l n : Nat} {us : List Str} (h : us.length ≤ n) : Use st (.lst (us.map .str)) l n us := ⟨⟨false, rfl⟩, h, nofun⟩
theorem Use.at' {st : Store} {l n k : Nat} {us : List Str} (h : st[k]? = some (.lst (us.map .str))) (hn : us.length ≤ n) (ne : k ≠ l) : Use st (.loc k) l n us :=
  ⟨⟨false, by unfold seqOf; simp only [h]⟩, hn, fun e => ne (by cases e; rfl)⟩
theorem name' {ns : List Int} {l n : Nat} {used : PV} {st : Store} {us : List Str} {Q : PV → Store → Prop} (hs : SrcAt st l) (hu : Use st used l n us) (hn : n ≤ 900)
    (k : ∀ z s, z.length ≤ 6 → nmB z = true → z ∉ us → SrcAt s l → Gr [l] st s → Q (.str z) s) : Sat (m_law_name [scr ns, .loc l, used] st) Q := by
  obtain ⟨⟨b, e⟩, h2, h3⟩ := hu
  refine (name_ok hs (us := us) ⟨b, fun o => seqOf_gr (L := [l]) (.set (by simp)) e (by simpa using h3)⟩ (by omega)).mono ?_
  rintro _ _ ⟨z, o, rfl, h, hnm, hu2, rfl, s1⟩
  exact k z _ h hnm hu2 s1 (.set (by simp))
/-! ### the greatest common divisor, by turns -/
theorem gcd_turns {a b g : Nat} (hg : Nat.gcd a b = g) (i : Nat) (B n : Nat) (hB : B < 2 ^ n) :
    (i % 2 = 0 → b * 2 ^ (i / 2) ≤ B → b ≠ 0 → b * 2 ^ (i / 2) ≤ B ∧ a % b < b ∧ Nat.gcd b (a % b) = g) ∧
    (i % 2 = 1 → a * 2 ^ (i / 2) ≤ B → b < a → b ≠ 0 → (a % b) * 2 ^ (i / 2 + 1) ≤ B ∧ Nat.gcd b (a % b) = g) := by
  refine ⟨fun _ h1 h2 => ⟨h1, Nat.mod_lt _ (Nat.pos_of_ne_zero h2), ?_⟩, fun _ h1 h2 h3 => ⟨?_, ?_⟩⟩
  · rw [Nat.gcd_comm, ← Nat.gcd_rec, Nat.gcd_comm]; exact hg
  · have h4 : 2 * (a % b) ≤ a := by
      have := Nat.mod_add_div a b
      have h5 : a % b < b := Nat.mod_lt _ (Nat.pos_of_ne_zero h3)
      have h6 : 1 ≤ a / b := (Nat.one_le_div_iff (Nat.pos_of_ne_zero h3)).mpr (Nat.le_of_lt h2)
      have h7 : b * 1 ≤ b * (a / b) := Nat.mul_le_mul_left _ h6
      omega
    calc (a % b) * 2 ^ (i / 2 + 1) = (2 * (a % b)) * 2 ^ (i / 2) := by rw [Nat.pow_succ]; ac_rfl
      _ ≤ a * 2 ^ (i / 2) := Nat.mul_le_mul_right _ h4
      _ ≤ B := h1
  · rw [Nat.gcd_comm, ← Nat.gcd_rec, Nat.gcd_comm]; exact hg
theorem imod_nat (a b : Nat) : ((a : Int) % (b : Int)) = ((a % b : Nat) : Int) := rfl
theorem bits_lt (b : Nat) : b < 2 ^ (Builtin.Int.intBits (b : Int)) := by
  unfold Builtin.Int.intBits
  by_cases h : b = 0
  · subst h; decide
  · have : ((b : Int) == 0) = false := by simpa using h
    rw [this]
    show b < 2 ^ (((b : Int).natAbs).log2 + 1)
    rw [Int.natAbs_natCast]
    exact (Nat.log2_lt h).mp (Nat.lt_succ_self _)
theorem gcd_ok {a b : Nat} {st : Store} (hb : Builtin.Int.intBits (b : Int) < 1000000) : Sat (m_law_gcd [.int a, .int b] st) fun v s => v = .int (Nat.gcd a b) ∧ s = st := by
  refine sat_body ?_
  unfold f_law_gcd
  simp only [sat_ok, sat_bind, sat_v, sat_c, sat_bin, sat_un, sat_test, sat_truth, sat_and, sat_or, sat_not, sat_yes, sat_andv, sat_notv, sat_chain, sat_nil, sat_cons, sat_args, sat_call, sat_callX, sat_meth, sat_one, sat_oNone, sat_oSome, sat_sl, sat_tup, sat_lst, sat_loc, ss_nil, ss_seq, ss_set, ss_expr, ss_ret, ss_retN, ss_if, ss_tg, ss_par, ss_sub, ss_for, sat_comp, setTg, setTgs, wipeP, sizeLine_eq, List.map_cons, List.map_nil, List.length_cons, List.length_nil, List.cons_append, List.nil_append, List.set_cons_zero, List.set_cons_succ, List.getElem?_cons_zero, List.getElem?_cons_succ, Nat.reduceAdd, Nat.reduceSub, Nat.reduceLeDiff, List.reduceReplicate, Option.some.injEq, exists_eq_left', true_and, and_true, Nat.zero_add, o_addI, o_addS, o_addT, o_addL, o_subI, o_mulI, o_fdivI, o_modI, o_powI, o_negI, o_eqI, o_neI, o_eqS, o_neS, o_ltI, o_gtI, o_leI, o_geI, o_ltS, o_geS, o_inS, o_notInS, o_isN, o_isNotN, o_isT, o_isNotT, o_isS, o_isNotS, o_int, o_intB, o_abs, o_str, o_lenT, o_lenL, o_lenF, o_lenS, o_ixT, o_ixL, o_ixF, ixW_0, ixW_1, ixW_2, o_isStr, o_tupL, o_tupT, o_listT, o_listL, o_listLocT, o_gcd, o_bits, o_finF, o_finT, sat_iVal, sat_iEnum, sat_iRange1, sat_iRange2, o_itT, o_itL, o_itF, o_itS, o_enT, o_rng]
  have hlt := bits_lt b
  generalize hn : Builtin.Int.intBits (b : Int) = n at hlt hb ⊢
  refine ⟨.inl (.inl (by decide)), ⟨by omega, by omega⟩, ?_⟩
  refine for_invN (k := 0) (fun i e s => s = st ∧ ∃ (x y : Nat) (w : Option PV), e = [some (.int x), some (.int y), w] ∧ Nat.gcd x y = Nat.gcd a b ∧ (i % 2 = 0 → y * 2 ^ (i / 2) ≤ b) ∧ (i % 2 = 1 → x * 2 ^ (i / 2) ≤ b ∧ y < x))
    ⟨rfl, a, b, _, rfl, rfl, fun _ => by simp, fun h => by simp at h⟩ ?_ ?_
  · rintro i v e s hv ⟨rfl, x, y, w, rfl, hg, h0, h1⟩
    obtain ⟨hi, rfl⟩ := rngs_get hv
    refine ⟨_, rfl, ?_⟩
    rw [ss_seq, ss_if, sat_test, sat_bin, sat_var rfl, sat_c, o_eqI, sat_truth]
    by_cases hy : y = 0
    · subst hy
      rw [if_pos (by simp), ss_ret, sat_var rfl]
      rw [Nat.gcd_zero_right] at hg
      exact ⟨by rw [hg], rfl⟩
    · rw [if_neg (by simp; omega), ss_nil, ss_par, sat_cons, sat_var rfl, sat_cons, sat_bin, sat_args, sat_cons, sat_var rfl, sat_nil, sat_one, o_int, sat_var rfl, o_modI]
      refine ⟨by omega, ?_⟩
      rw [sat_nil]
      have T := gcd_turns hg (0 + i) b n hlt
      refine ⟨rfl, y, x % y, _, rfl, ?_, ?_, ?_⟩
      · rw [Nat.gcd_comm, ← Nat.gcd_rec, Nat.gcd_comm]; exact hg
      · intro hp
        have hp' : (0 + i) % 2 = 1 := by omega
        have e : (0 + i + 1) / 2 = (0 + i) / 2 + 1 := by omega
        rw [e]
        exact (T.2 hp' (h1 hp').1 (h1 hp').2 hy).1
      · intro hp
        have hp' : (0 + i) % 2 = 0 := by omega
        have e : (0 + i + 1) / 2 = (0 + i) / 2 := by omega
        rw [e]
        have := T.1 hp' (h0 hp') hy
        exact ⟨this.1, this.2.1⟩
  · rintro e s ⟨rfl, x, y, w, rfl, hg, h0, h1⟩
    rw [rngs_len] at h0
    have e1 : (0 + ((2 : Int) * (n : Int) + 2).toNat) = 2 * n + 2 := by omega
    rw [e1] at h0
    have h2 := h0 (by omega)
    have e2 : (2 * n + 2) / 2 = n + 1 := by omega
    rw [e2] at h2
    have hy : y = 0 := by
      rcases Nat.eq_zero_or_pos y with z | z
      · exact z
      · have : 1 * 2 ^ (n + 1) ≤ y * 2 ^ (n + 1) := Nat.mul_le_mul_right _ z
        rw [Nat.pow_succ] at this h2
        omega
    subst hy
    rw [Nat.gcd_zero_right] at hg
    exact ⟨by rw [hg], rfl⟩
end PL
/-! PL, part KZ: small helps (k84). -/
namespace PL
open PySem PySem.Spec PyProof.Rows L2
abbrev ints' (ws : List Int) : List PV := ws.map PV.int
theorem comp_rng {i : Nat} {elt : EM} {env : PEnv} {n : Nat} {st : Store} {Q : List PV → Store → Prop} (E : PV → Prop) (I : Store → Prop) (hi : i < env.length) (hn : n ≤ 10000) (h0 : I st)
    (hs : ∀ (j : Nat) t, I t → Sat (elt (env.set i (some (.int (0 + (j : Int))))) t) fun y t' => E y ∧ I t') (hd : ∀ ys t, ys.length = n → (∀ y ∈ ys, E y) → I t → Q ys t) :
    Sat (compL (.one i) tYesM elt (Itms.ok ⟨rngs 0 n, none⟩) (rngs 0 n) env st []) Q := by
  refine comp_inv (fun j acc t => acc.length = j ∧ (∀ y ∈ acc, E y) ∧ I t) (k := 0) ⟨rfl, nofun, h0⟩ ?_ ?_
  · rintro j v t acc hv ⟨hl, hE, hI⟩
    obtain ⟨hj, rfl⟩ := rngs_get hv
    refine ⟨_, rfl, ?_⟩
    rw [sat_yes, if_pos rfl]
    refine (hs j t hI).mono ?_
    rintro y t' ⟨hy, ht⟩
    refine ⟨by rw [sizeLine_eq]; omega, by simp [hl], fun z hz => ?_, ht⟩
    rcases List.mem_append.mp hz with m | m
    · exact hE z m
    · rw [List.mem_singleton.mp m]; exact hy
  · rintro acc t ⟨hl, hE, hI⟩
    rw [rngs_len] at hl
    exact hd acc t (by omega) hE hI
theorem ints_of {ys : List PV} {P : Int → Prop} (h : ∀ y ∈ ys, ∃ w, y = .int w ∧ P w) : ∃ ws : List Int, ys = ints' ws ∧ ∀ w ∈ ws, P w := by
  induction ys with
  | nil => exact ⟨[], rfl, nofun⟩
  | cons y ys ih =>
    obtain ⟨w, rfl, hw⟩ := h y List.mem_cons_self
    obtain ⟨ws, rfl, hws⟩ := ih fun z m => h z (List.mem_cons_of_mem _ m)
    refine ⟨w :: ws, rfl, fun z m => ?_⟩
    rcases List.mem_cons.mp m with rfl | m
    · exact hw
    · exact hws z m
theorem seq_mid {f g : SM} {env : PEnv} {st : Store} {N : PEnv → Store → Prop} {R : PV → Store → Prop} (M : PEnv → Store → Prop) (h1 : SatS (f env st) M R) (h2 : ∀ e s, M e s → SatS (g e s) N R) : SatS (sSeq f g env st) N R := by
  rw [ss_seq]
  exact h1.mono h2 fun _ _ z => z
theorem det {α : Type} {r : Res α} {a : α} {st : Store} (h : ∀ Q : α → Store → Prop, Q a st → Sat r Q) : r = .ok a st := by
  obtain ⟨b, s, e, h1, h2⟩ := h (fun x s => x = a ∧ s = st) ⟨rfl, rfl⟩
  rw [e, h1, h2]
theorem t_ok {f : EM} {env : PEnv} {st : Store} {b : Bool} (h : ∀ Q : PV → Store → Prop, Q (.bl b) st → Sat (f env st) Q) : eTest f env st = .ok b st := by
  refine det fun Q k => ?_
  rw [sat_test]
  exact h _ (by rw [sat_truth]; exact k)
theorem tn_ok {f : TM} {env : PEnv} {st : Store} {b : Bool} (h : f env st = .ok b st) : tNotM f env st = .ok (!b) st := by
  refine det fun Q k => ?_
  rw [sat_not, h, sat_ok]; exact k
theorem ss_guard {c : TM} {rest : SM} {v : PV} {env : PEnv} {st : Store} {N R} {b : Bool} (hc : c env st = .ok b st) : SatS (sSeq (sIf c (sRet (eC v)) sNil) rest env st) N R = if b = true then R v st else SatS (rest env st) N R := by
  rw [ss_seq, ss_if, hc, sat_ok]
  cases b with
  | true => simp only [if_true, ss_ret, sat_c]
  | false => simp only [Bool.false_eq_true, if_false, ss_nil]
theorem ss_ifb {c : TM} {f g rest : SM} {env : PEnv} {st : Store} {N R} {b : Bool} (hc : c env st = .ok b st) : SatS (sSeq (sIf c f g) rest env st) N R = if b = true then SatS (f env st) (fun e s => SatS (rest e s) N R) R else SatS (g env st) (fun e s => SatS (rest e s) N R) R := by
  rw [ss_seq, ss_if, hc, sat_ok]
theorem sl1 {a : PV} : ([a] : List PV).length ≤ sizeLine := by rw [sizeLine_eq]; show 1 ≤ _; decide
theorem sl2 {a b : PV} : ([a, b] : List PV).length ≤ sizeLine := by rw [sizeLine_eq]; show 2 ≤ _; decide
theorem sl3 {a b c : PV} : ([a, b, c] : List PV).length ≤ sizeLine := by rw [sizeLine_eq]; show 3 ≤ _; decide
theorem sl0 : ([] : List PV).length ≤ sizeLine := Nat.zero_le _
theorem isNn_ne {r : PV} (h : r ≠ .non) : isNn r = false := by
  cases r with
  | non => exact absurd rfl h
  | _ => rfl
theorem kit_ss : kitB "str" "str" = some true := by decide +kernel
theorem kit_ts : kitB "tuple" "str" = some false := by decide +kernel
theorem kit_ls : kitB "list" "str" = some false := by decide +kernel
theorem kit_is : kitB "int" "str" = some false := by decide +kernel
theorem kit_bs : kitB "bool" "str" = some false := by decide +kernel
theorem kit_sb : kitB "str" "bool" = some false := by decide +kernel
theorem kit_tb : kitB "tuple" "bool" = some false := by decide +kernel
theorem kit_lb : kitB "list" "bool" = some false := by decide +kernel
theorem kit_ib : kitB "int" "bool" = some false := by decide +kernel
theorem kit_bb : kitB "bool" "bool" = some true := by decide +kernel
theorem kit_si : kitB "str" "int" = some false := by decide +kernel
theorem kit_ti : kitB "tuple" "int" = some false := by decide +kernel
theorem kit_li : kitB "list" "int" = some false := by decide +kernel
theorem kit_ii : kitB "int" "int" = some true := by decide +kernel
theorem kit_sd : kitB "str" "dict" = some false := by decide +kernel
theorem kit_td : kitB "tuple" "dict" = some false := by decide +kernel
theorem kit_ld : kitB "list" "dict" = some false := by decide +kernel
theorem kit_tt : kitB "tuple" "tuple" = some true := by decide +kernel
theorem kit_lt : kitB "list" "tuple" = some false := by decide +kernel
theorem kit_ll : kitB "list" "list" = some true := by decide +kernel
theorem kit_tl : kitB "tuple" "list" = some false := by decide +kernel
theorem isi_of {v : PV} {n t : String} {b : Bool} {st : Store} {Q : PV → Store → Prop} (h1 : tyName st v = some t) (h2 : kitB t n = some b) : Sat (pIsi [v, .con (.ty n)] st) Q = Q (.bl b) st := by
  have : pIsi [v, .con (.ty n)] st = .ok (.bl b) st := by
    unfold pIsi
    simp only [h1, h2]
  rw [this, sat_ok]
theorem isi_s {z : Str} {st : Store} {Q : PV → Store → Prop} : Sat (pIsi [.str z, .con (.ty "str")] st) Q = Q (.bl true) st := isi_of rfl kit_ss
theorem isi_t {xs : List PV} {st : Store} {Q : PV → Store → Prop} : Sat (pIsi [.tup xs, .con (.ty "str")] st) Q = Q (.bl false) st := isi_of rfl kit_ts
theorem isi_tl {v : PV} {t : String} {st : Store} {Q : PV → Store → Prop} (h1 : tyName st v = some t) (h2 : kitAll t [.con (.ty "tuple"), .con (.ty "list")] = some true) : Sat (pIsi [v, .tup [.con (.ty "tuple"), .con (.ty "list")]] st) Q = Q (.bl true) st := by
  have : pIsi [v, .tup [.con (.ty "tuple"), .con (.ty "list")]] st = .ok (.bl true) st := by
    unfold pIsi
    simp only [h1, h2, allTys, if_true]
  rw [this, sat_ok]
theorem kits_t : kitAll "tuple" [.con (.ty "tuple"), .con (.ty "list")] = some true := by simp only [kitAll, kit_tt]
theorem kits_l : kitAll "list" [.con (.ty "tuple"), .con (.ty "list")] = some true := by simp only [kitAll, kit_lt, kit_ll]
/-! ### rows -/
theorem o_neB {a b : Bool} {st : Store} {Q : PV → Store → Prop} : Sat (pNe (.bl a) (.bl b) st) Q = Q (.bl (a != b)) st := by
  have : pNe (.bl a) (.bl b) st = .ok (.bl (a != b)) st := by
    unfold pNe
    rw [if_pos (by simp [isD, toD, PyData.depth])]
    cases a <;> cases b <;> rfl
  rw [this, sat_ok]
theorem log2_k {i : Int} {n : Nat} (h0 : 0 ≤ i) (h1 : i ≤ n) (h2 : n < 9000 := by omega) : i.natAbs.log2 < 9000 := Nat.lt_of_le_of_lt (Nat.log2_le_self _) (by omega)
theorem comp_map {α : Type} {i : Nat} {elt : EM} {env : PEnv} {as : List α} {f : α → PV} {g : α → PV} {st : Store} {Q : List PV → Store → Prop} (hi : i < env.length) (hn : as.length ≤ 1000000)
    (hs : ∀ a ∈ as, elt (env.set i (some (f a))) st = .ok (g a) st) (hd : Q (as.map g) st) (ok : Store → Prop) (hok : ok st) :
    Sat (compL (.one i) tYesM elt ok (as.map f) env st []) Q := by
  refine comp_inv (fun j acc t => t = st ∧ acc = (as.take j).map g) (k := 0) ⟨rfl, rfl⟩ ?_ ?_ (by rintro i a t ⟨rfl, _⟩; exact hok)
  · rintro j v t acc hv ⟨rfl, rfl⟩
    rw [List.getElem?_map] at hv
    cases e : as[j]? with
    | none => rw [e] at hv; cases hv
    | some a =>
      rw [e] at hv
      cases hv
      refine ⟨_, rfl, ?_⟩
      rw [sat_yes, if_pos rfl, hs a (List.mem_of_getElem? e), sat_ok, Nat.zero_add]
      have hj : j < as.length := (List.getElem?_eq_some_iff.mp e).1
      refine ⟨by rw [sizeLine_eq, List.length_map, List.length_take]; omega, rfl, ?_⟩
      rw [List.take_add_one, e]
      simp
  · rintro acc t ⟨rfl, rfl⟩
    rw [Nat.zero_add, List.length_map, List.take_length]
    exact hd
theorem comp_filt {α : Type} {i : Nat} {test : TM} {elt : EM} {env : PEnv} {as : List α} {f : α → PV} {g : α → PV} {p : α → Bool} {st : Store} {Q : List PV → Store → Prop} (hi : i < env.length) (hn : as.length ≤ 1000000)
    (ht : ∀ a ∈ as, test (env.set i (some (f a))) st = .ok (p a) st) (hs : ∀ a ∈ as, p a = true → elt (env.set i (some (f a))) st = .ok (g a) st) (hd : Q ((as.filter p).map g) st) (ok : Store → Prop) (hok : ok st) :
    Sat (compL (.one i) test elt ok (as.map f) env st []) Q := by
  refine comp_inv (fun j acc t => t = st ∧ acc = ((as.take j).filter p).map g) (k := 0) ⟨rfl, rfl⟩ ?_ ?_ (by rintro i a t ⟨rfl, _⟩; exact hok)
  · rintro j v t acc hv ⟨rfl, rfl⟩
    rw [List.getElem?_map] at hv
    cases e : as[j]? with
    | none => rw [e] at hv; cases hv
    | some a =>
      rw [e] at hv
      cases hv
      refine ⟨_, rfl, ?_⟩
      have ma := List.mem_of_getElem? e
      rw [ht a ma, sat_ok, Nat.zero_add]
      have hj : j < as.length := (List.getElem?_eq_some_iff.mp e).1
      have e1 : as.take (j + 1) = as.take j ++ [a] := by rw [List.take_add_one, e]; rfl
      cases hp : p a with
      | true =>
        rw [if_pos rfl, hs a ma hp, sat_ok]
        refine ⟨?_, rfl, by rw [e1, List.filter_append]; simp [hp]⟩
        have h1 := List.length_filter_le p (as.take j)
        have h2 : (as.take j).length ≤ as.length := by rw [List.length_take]; omega
        rw [sizeLine_eq, List.length_map]
        omega
      | false =>
        rw [if_neg (by simp)]
        exact ⟨rfl, by rw [e1, List.filter_append]; simp [hp]⟩
  · rintro acc t ⟨rfl, rfl⟩
    rw [Nat.zero_add, List.length_map, List.take_length]
    exact hd
end PL
/-! PL, part KA: names, judged by both (k84). -/
namespace PL
open PySem PySem.Spec PyProof.Rows L2
theorem comp_pick {i : Nat} {test : TM} {env : PEnv} {xs : List PV} {st : Store} {Q : List PV → Store → Prop} (P : PV → Bool) (hi : i < env.length) (hn : xs.length ≤ 10000)
    (hs : ∀ x ∈ xs, test (env.set i (some x)) st = .ok (P x) st) (hd : Q (xs.filter P) st) :
    Sat (compL (.one i) test (eVar i) (Itms.ok ⟨xs, none⟩) xs env st []) Q := by
  refine comp_inv (fun j acc t => t = st ∧ acc = (xs.take j).filter P) (k := 0) ⟨rfl, rfl⟩ ?_ ?_
  · rintro j v t acc hv ⟨rfl, rfl⟩
    refine ⟨_, rfl, ?_⟩
    rw [hs v (List.mem_of_getElem? hv), sat_ok]
    have e1 : xs.take (0 + j + 1) = xs.take (0 + j) ++ [v] := by
      rw [Nat.zero_add, List.take_add_one, hv]; rfl
    rw [e1, List.filter_append]
    cases hp : P v with
    | true =>
      rw [if_pos rfl, sat_var (List.getElem?_set_self hi)]
      refine ⟨?_, rfl, by simp [hp]⟩
      have := List.length_filter_le P (xs.take (0 + j))
      rw [sizeLine_eq]
      have := List.length_take_le (0 + j) xs
      have h3 : (xs.take (0 + j)).length ≤ xs.length := by simp; omega
      omega
    | false =>
      rw [if_neg (by simp)]
      exact ⟨rfl, by simp [hp]⟩
  · rintro acc t ⟨rfl, rfl⟩
    rw [Nat.zero_add, List.take_length]
    exact hd
def nameOf : PV → Str
  | .tup (.str n :: _) => n
  | _ => ""
abbrev LET : Str := "abcdefghijklmnopqrstuvwxyz"
abbrev DIG : Str := "0123456789"
def okC (c : Nat) : Bool := inStr ⟨#[c]⟩ LET || inStr ⟨#[c]⟩ DIG
def isNameP (z : Str) : Bool := decide (1 ≤ z.length) && decide (z.length ≤ 12) && (match z.cps.toList with | c :: _ => inStr ⟨#[c]⟩ LET | [] => false) && z.cps.toList.all okC
theorem ix0S {z : Str} {c : Nat} {cs : List Nat} {st : Store} {Q : PV → Store → Prop} (h : z.cps.toList = c :: cs) (hz : z.length ≤ sizeLine) : Sat (pIx (.str z) (.int 0) st) Q = Q (.str ⟨#[c]⟩) st := by
  have : pIx (.str z) (.int 0) st = .ok (.str ⟨#[c]⟩) st := by
    show (match (if z.length ≤ sizeLine then atI z.cps.toList 0 else none) with | some c => Res.ok (PV.str ⟨#[c]⟩) st | none => Res.stuck) = _
    rw [if_pos hz, h]
    have e : atI (c :: cs) (0 : Int) = some c := by
      unfold atI ixN
      rw [if_pos (by omega), if_pos (by simp only [List.length_cons]; omega)]
      rfl
    rw [e]
  rw [this, sat_ok]
theorem is_name_ok {z : Str} {st : Store} {Q : PV → Store → Prop} (hz : z.length ≤ 100000) (k : Q (.bl (isNameP z)) st) : Sat (m_is_name [.str z] st) Q := by
  refine sat_body ?_
  unfold f_is_name
  simp only [List.map_cons, List.map_nil, List.length_cons, List.length_nil, Nat.reduceAdd, Nat.reduceSub, List.reduceReplicate, List.cons_append, List.nil_append]
  have hsl : z.length ≤ sizeLine := by rw [sizeLine_eq]; omega
  have hlen : z.length = z.cps.toList.length := (Array.length_toList ..).symm
  refine seq_mid (fun e s => e = ([some (PV.str z), none] : PEnv) ∧ s = st ∧ 1 ≤ z.length ∧ z.length ≤ 12 ∧ ∃ c cs, z.cps.toList = c :: cs ∧ inStr ⟨#[c]⟩ LET = true) ?_ ?_
  · rw [ss_if]
    simp only [sat_or, sat_not, sat_test, sat_chain, sat_c, sat_args, sat_cons, sat_v, sat_nil, sat_one, List.getElem?_cons_zero, o_lenS, o_leI, hsl, true_and]
    by_cases h1 : 1 ≤ z.length
    · by_cases h2 : z.length ≤ 12
      · have e1 : decide ((z.length : Int) < 1) = false := by simp; omega
        have e2 : decide ((12 : Int) < (z.length : Int)) = false := by simp; omega
        cases hc : z.cps.toList with
        | nil => rw [hc] at hlen; simp at hlen; omega
        | cons c cs =>
          simp only [e1, e2, Bool.not_false, sat_truth, Bool.not_true, Bool.false_eq_true, if_false, sat_bin, sat_v, sat_c, List.getElem?_cons_zero, ix0S hc hsl, o_notInS]
          cases hL : inStr ⟨#[c]⟩ LET with
          | true =>
            simp only [Bool.not_true, Bool.false_eq_true, if_false, ss_nil]
            exact ⟨trivial, trivial, h1, h2, c, cs, rfl, hL⟩
          | false =>
            simp only [Bool.not_false, if_true, ss_ret, sat_c]
            have : isNameP z = false := by unfold isNameP; rw [hc]; simp only [hL, Bool.and_false, Bool.false_and]
            rw [this] at k; exact k
      · have : isNameP z = false := by unfold isNameP; rw [decide_eq_false h2]; simp only [Bool.and_false, Bool.false_and]
        rw [this] at k
        have e1 : decide ((z.length : Int) < 1) = false := by simp; omega
        have e2 : decide ((12 : Int) < (z.length : Int)) = true := by simp; omega
        simp only [e1, e2, Bool.not_false, sat_truth, Bool.not_true, Bool.false_eq_true, if_false, if_true, ss_ret, sat_c]
        exact k
    · have : isNameP z = false := by unfold isNameP; rw [decide_eq_false h1]; simp only [Bool.and_false, Bool.false_and]
      rw [this] at k
      have e1 : decide ((z.length : Int) < 1) = true := by simp; omega
      simp only [e1, Bool.not_true, sat_truth, Bool.not_false, Bool.false_eq_true, if_false, if_true, ss_ret, sat_c]
      exact k
  rintro e s ⟨rfl, rfl, h1, h2, c, cs, hc, hL⟩
  have hP : isNameP z = z.cps.toList.all okC := by
    unfold isNameP
    rw [decide_eq_true h1, decide_eq_true h2, hc]
    simp only [hL, Bool.and_true, Bool.true_and]
  rw [hP] at k
  refine seq_mid (fun e t => t = s ∧ z.cps.toList.all okC = true) ?_ ?_
  · simp only [sat_ok, sat_bind, sat_v, sat_c, sat_bin, sat_un, sat_test, sat_truth, sat_and, sat_or, sat_not, sat_yes, sat_andv, sat_notv, sat_chain, sat_nil, sat_cons, sat_args, sat_call, sat_callX, sat_meth, sat_one, sat_oNone, sat_oSome, sat_sl, sat_tup, sat_lst, sat_loc, ss_nil, ss_seq, ss_set, ss_expr, ss_ret, ss_retN, ss_if, ss_tg, ss_par, ss_sub, ss_for, sat_comp, setTg, setTgs, wipeP, sizeLine_eq, List.map_cons, List.map_nil, List.length_cons, List.length_nil, List.cons_append, List.nil_append, List.set_cons_zero, List.set_cons_succ, List.getElem?_cons_zero, List.getElem?_cons_succ, Nat.reduceAdd, Nat.reduceSub, Nat.reduceLeDiff, List.reduceReplicate, Option.some.injEq, exists_eq_left', true_and, and_true, Nat.zero_add, o_addI, o_addS, o_addT, o_addL, o_subI, o_mulI, o_fdivI, o_modI, o_powI, o_negI, o_eqI, o_neI, o_eqS, o_neS, o_ltI, o_gtI, o_leI, o_geI, o_ltS, o_geS, o_inS, o_notInS, o_isN, o_isNotN, o_isT, o_isNotT, o_isS, o_isNotS, o_int, o_intB, o_abs, o_str, o_lenT, o_lenL, o_lenF, o_lenS, o_ixT, o_ixL, o_ixF, ixW_0, ixW_1, ixW_2, o_isStr, o_tupL, o_tupT, o_listT, o_listL, o_listLocT, o_gcd, o_bits, o_finF, o_finT, sat_iVal, sat_iEnum, sat_iRange1, sat_iRange2, o_itT, o_itL, o_itF, o_itS, o_enT, o_rng]
    refine for_invN (k := 0) (fun i e t => t = s ∧ (∃ w, e = ([some (PV.str z), w] : PEnv)) ∧ (z.cps.toList.take i).all okC = true) ⟨rfl, ⟨_, rfl⟩, by simp⟩ ?_ ?_
    · rintro i v e t hv ⟨rfl, ⟨w, rfl⟩, ha⟩
      rw [Nat.zero_add] at ha ⊢
      obtain ⟨d, hd, rfl⟩ : ∃ d, z.cps.toList[i]? = some d ∧ v = .str ⟨#[d]⟩ := by
        unfold signs at hv
        rw [List.getElem?_map] at hv
        cases hq : z.cps.toList[i]? with
        | none => rw [hq] at hv; cases hv
        | some d => rw [hq] at hv; cases hv; exact ⟨d, rfl, rfl⟩
      refine ⟨_, rfl, ?_⟩
      rw [ss_if, sat_and, sat_test, sat_bin, sat_var rfl, sat_c, o_notInS, sat_truth]
      have fin : okC d = true → (z.cps.toList.take (i + 1)).all okC = true := fun h => by
        rw [List.take_add_one, hd, List.all_append, ha]
        simp [h]
      have bad : okC d = false → z.cps.toList.all okC = false := fun h => by
        rw [← Bool.not_eq_true, List.all_eq_true]
        intro z'
        have := z' d (List.mem_of_getElem? hd)
        rw [h] at this; cases this
      cases hA : inStr ⟨#[d]⟩ LET with
      | true =>
        simp only [Bool.not_true, Bool.false_eq_true, if_false, ss_nil]
        exact ⟨trivial, ⟨_, rfl⟩, fin (by unfold okC; rw [hA]; rfl)⟩
      | false =>
        rw [Bool.not_false, if_pos rfl, sat_test, sat_bin, sat_var rfl, sat_c, o_notInS, sat_truth]
        cases hB : inStr ⟨#[d]⟩ DIG with
        | true =>
          simp only [Bool.not_true, Bool.false_eq_true, if_false, ss_nil]
          exact ⟨trivial, ⟨_, rfl⟩, fin (by unfold okC; rw [hB]; simp)⟩
        | false =>
          simp only [Bool.not_false, if_true, ss_ret, sat_c]
          have := bad (by unfold okC; rw [hA, hB]; rfl)
          rw [this] at k
          exact k
    · rintro e t ⟨rfl, ⟨w, rfl⟩, ha⟩
      refine ⟨rfl, ?_⟩
      have e1 : z.cps.toList.take (0 + (signs z).length) = z.cps.toList := by
        unfold signs
        rw [List.length_map, Nat.zero_add, List.take_length]
      rw [e1] at ha
      exact ha
  · rintro e t ⟨rfl, h⟩
    rw [h] at k
    simp only [sat_ok, sat_bind, sat_v, sat_c, sat_bin, sat_un, sat_test, sat_truth, sat_and, sat_or, sat_not, sat_yes, sat_andv, sat_notv, sat_chain, sat_nil, sat_cons, sat_args, sat_call, sat_callX, sat_meth, sat_one, sat_oNone, sat_oSome, sat_sl, sat_tup, sat_lst, sat_loc, ss_nil, ss_seq, ss_set, ss_expr, ss_ret, ss_retN, ss_if, ss_tg, ss_par, ss_sub, ss_for, sat_comp, setTg, setTgs, wipeP, sizeLine_eq, List.map_cons, List.map_nil, List.length_cons, List.length_nil, List.cons_append, List.nil_append, List.set_cons_zero, List.set_cons_succ, List.getElem?_cons_zero, List.getElem?_cons_succ, Nat.reduceAdd, Nat.reduceSub, Nat.reduceLeDiff, List.reduceReplicate, Option.some.injEq, exists_eq_left', true_and, and_true, Nat.zero_add]
    exact k
def chOf : PV → Nat
  | .str z => z.cps.toList.headD 0
  | _ => 0
theorem sign_test {env : PEnv} {z x : Str} {st : Store} (h1 : env[1]? = some (some (.str LET))) (hl : 2 < env.length) : ∀ v ∈ signs z,
    (tAndM (eTest (eBin pNotIn (eVar 2) (eVar 1))) (eTest (eBin pNotIn (eVar 2) (eC (.str "0123456789"))))) (env.set 2 (some v)) st = .ok (!okC (chOf v)) st := by
  intro v hv
  unfold signs at hv
  obtain ⟨d, hd, rfl⟩ := List.mem_map.mp hv
  have e2 : (env.set 2 (some (PV.str ⟨#[d]⟩)))[2]? = some (some (.str ⟨#[d]⟩)) := List.getElem?_set_self hl
  have e1 : (env.set 2 (some (PV.str ⟨#[d]⟩)))[1]? = some (some (.str LET)) := by rw [List.getElem?_set_ne (by decide)]; exact h1
  have q : ∀ Q : Bool → Store → Prop, Sat ((tAndM (eTest (eBin pNotIn (eVar 2) (eVar 1))) (eTest (eBin pNotIn (eVar 2) (eC (.str "0123456789"))))) (env.set 2 (some (.str ⟨#[d]⟩))) st) Q = Q (!okC d) st := by
    intro Q
    rw [sat_and, sat_test, sat_bin, sat_var e2, sat_var e1, o_notInS, sat_truth]
    unfold okC
    cases hA : inStr ⟨#[d]⟩ LET with
    | true => simp only [Bool.not_true, Bool.false_eq_true, if_false, Bool.true_or]
    | false =>
      rw [Bool.not_false, if_pos rfl, sat_test, sat_bin, sat_var e2, sat_c, o_notInS, sat_truth, Bool.false_or]
  obtain ⟨y, s, g1, g2⟩ := (show Sat ((tAndM (eTest (eBin pNotIn (eVar 2) (eVar 1))) (eTest (eBin pNotIn (eVar 2) (eC (.str "0123456789"))))) (env.set 2 (some (.str ⟨#[d]⟩))) st) (fun y s => y = (!okC d) ∧ s = st) from by rw [q]; exact ⟨rfl, rfl⟩)
  rw [g1, g2.1, g2.2]
  rfl
theorem signs_ok {z : Str} : ((signs z).filter fun v => !okC (chOf v)).length = 0 ↔ z.cps.toList.all okC = true := by
  rw [List.length_eq_zero_iff, List.filter_eq_nil_iff, List.all_eq_true]
  unfold signs
  constructor
  · intro h d hd
    have := h _ (List.mem_map.mpr ⟨d, hd, rfl⟩)
    simpa [chOf] using this
  · intro h v hv
    obtain ⟨d, hd, rfl⟩ := List.mem_map.mp hv
    simpa [chOf] using h d hd
theorem law_is_name_ok {z : Str} {st : Store} {Q : PV → Store → Prop} (hz : z.length ≤ 100000) (k : Q (.bl (isNameP z)) st) : Sat (m_law_is_name [.str z] st) Q := by
  refine sat_body ?_
  unfold f_law_is_name
  simp only [List.map_cons, List.map_nil, List.length_cons, List.length_nil, Nat.reduceAdd, Nat.reduceSub, List.reduceReplicate, List.cons_append, List.nil_append]
  have hsl : z.length ≤ sizeLine := by rw [sizeLine_eq]; omega
  have hlen : z.length = z.cps.toList.length := (Array.length_toList ..).symm
  refine seq_mid (fun e s => e = ([some (PV.str z), some (PV.str LET), none] : PEnv) ∧ s = st) ?_ ?_
  · simp only [sat_ok, sat_bind, sat_v, sat_c, sat_bin, sat_un, sat_test, sat_truth, sat_and, sat_or, sat_not, sat_yes, sat_andv, sat_notv, sat_chain, sat_nil, sat_cons, sat_args, sat_call, sat_callX, sat_meth, sat_one, sat_oNone, sat_oSome, sat_sl, sat_tup, sat_lst, sat_loc, ss_nil, ss_seq, ss_set, ss_expr, ss_ret, ss_retN, ss_if, ss_tg, ss_par, ss_sub, ss_for, sat_comp, setTg, setTgs, wipeP, sizeLine_eq, List.map_cons, List.map_nil, List.length_cons, List.length_nil, List.cons_append, List.nil_append, List.set_cons_zero, List.set_cons_succ, List.getElem?_cons_zero, List.getElem?_cons_succ, Nat.reduceAdd, Nat.reduceSub, Nat.reduceLeDiff, List.reduceReplicate, Option.some.injEq, exists_eq_left', true_and, and_true, Nat.zero_add]
  rintro e st ⟨rfl, rfl⟩
  refine seq_mid (fun e s => e = ([some (PV.str z), some (PV.str LET), none] : PEnv) ∧ s = st ∧ 1 ≤ z.length ∧ z.length ≤ 12 ∧ ∃ c cs, z.cps.toList = c :: cs ∧ inStr ⟨#[c]⟩ LET = true) ?_ ?_
  · rw [ss_if]
    simp only [sat_or, sat_not, sat_test, sat_chain, sat_c, sat_args, sat_cons, sat_v, sat_nil, sat_one, List.getElem?_cons_zero, o_lenS, o_leI, hsl, true_and]
    by_cases h1 : 1 ≤ z.length
    · by_cases h2 : z.length ≤ 12
      · have e1 : decide ((z.length : Int) < 1) = false := by simp; omega
        have e2 : decide ((12 : Int) < (z.length : Int)) = false := by simp; omega
        cases hc : z.cps.toList with
        | nil => rw [hc] at hlen; simp at hlen; omega
        | cons c cs =>
          simp only [e1, e2, Bool.not_false, sat_truth, Bool.not_true, Bool.false_eq_true, if_false, sat_bin, sat_v, sat_c, List.getElem?_cons_zero, List.getElem?_cons_succ, ix0S hc hsl, o_notInS]
          cases hL : inStr ⟨#[c]⟩ LET with
          | true =>
            simp only [Bool.not_true, Bool.false_eq_true, if_false, ss_nil]
            exact ⟨trivial, trivial, h1, h2, c, cs, rfl, hL⟩
          | false =>
            simp only [Bool.not_false, if_true, ss_ret, sat_c]
            have : isNameP z = false := by unfold isNameP; rw [hc]; simp only [hL, Bool.and_false, Bool.false_and]
            rw [this] at k; exact k
      · have : isNameP z = false := by unfold isNameP; rw [decide_eq_false h2]; simp only [Bool.and_false, Bool.false_and]
        rw [this] at k
        have e1 : decide ((z.length : Int) < 1) = false := by simp; omega
        have e2 : decide ((12 : Int) < (z.length : Int)) = true := by simp; omega
        simp only [e1, e2, Bool.not_false, sat_truth, Bool.not_true, Bool.false_eq_true, if_false, if_true, ss_ret, sat_c]
        exact k
    · have : isNameP z = false := by unfold isNameP; rw [decide_eq_false h1]; simp only [Bool.and_false, Bool.false_and]
      rw [this] at k
      have e1 : decide ((z.length : Int) < 1) = true := by simp; omega
      simp only [e1, Bool.not_true, sat_truth, Bool.not_false, Bool.false_eq_true, if_false, if_true, ss_ret, sat_c]
      exact k
  rintro e s ⟨rfl, rfl, h1, h2, c, cs, hc, hL⟩
  have hP : isNameP z = z.cps.toList.all okC := by
    unfold isNameP
    rw [decide_eq_true h1, decide_eq_true h2, hc]
    simp only [hL, Bool.and_true, Bool.true_and]
  rw [hP] at k
  rw [ss_ret, sat_bin, sat_args, sat_cons, sat_comp, sat_iVal, sat_var rfl, o_itS]
  refine comp_pick (fun v => !okC (chOf v)) (by simp [wipeP]) (by unfold signs; rw [List.length_map]; omega) (sign_test (x := z) rfl (by simp [wipeP])) ?_
  rw [o_finF, sat_nil, sat_one, o_lenL, sat_c, o_eqI]
  have : decide ((((signs z).filter fun v => !okC (chOf v)).length : Int) = 0) = z.cps.toList.all okC := by
    rw [Bool.eq_iff_iff, ← signs_ok]
    simp only [decide_eq_true_eq]
    omega
  rw [this]
  exact k
end PL
/-! PL, part KB: numbers in texts, read by both. -/
namespace PL
open PySem PySem.Spec PyProof.Rows L2
def okD (c : Nat) : Bool := inStr ⟨#[c]⟩ DIG
theorem okD_dg {c : Nat} : okD c = isDg c := by
  have e : okD c = decide (c ∈ DIG.cps.toList) := rfl
  rw [e]
  have hl : DIG.cps.toList = [48, 49, 50, 51, 52, 53, 54, 55, 56, 57] := by decide +kernel
  rw [hl, Bool.eq_iff_iff]
  unfold isDg
  simp only [List.mem_cons, List.not_mem_nil, or_false, decide_eq_true_eq, Bool.and_eq_true]
  omega
def zeroS : Str := "0"
/-- the number that a text writes -/
def numP (w : Str) : Option Int :=
  if 1 ≤ w.length ∧ w.length ≤ 40 ∧ w.cps.toList.all okD = true ∧ ¬ (w.cps.toList.head? = some 48 ∧ 1 < w.length) then some ((NumText.digitsVal w.cps.toList : Nat) : Int) else none
def optI : Option Int → PV
  | some i => .int i
  | none => .non
theorem numP_int {w : Str} {i : Int} (h : numP w = some i) : PySem.intText? w = some i ∧ w.length ≤ 40 := by
  unfold numP at h
  split at h
  · rename_i hc
    cases h
    have hl : w.cps.toList.length = w.length := Array.length_toList
    refine ⟨intText_digits (fun c m => ?_) (fun e => ?_) (by omega), hc.2.1⟩
    · have := List.all_eq_true.mp hc.2.2.1 c m
      rw [okD_dg] at this
      unfold isDg at this
      simpa using this
    · rw [e] at hl; simp at hl; omega
  · cases h
theorem numP_nonneg {w : Str} {i : Int} (h : numP w = some i) : 0 ≤ i := by
  unfold numP at h
  split at h
  · cases h; omega
  · cases h
theorem zero_eq {c : Nat} : decide ((⟨#[c]⟩ : Str) = "0") = decide (c = 48) := by
  rw [decide_eq_decide]
  constructor
  · intro h
    have := congrArg (fun z : Str => z.cps.toList) h
    have e : ("0" : Str).cps.toList = [48] := by decide +kernel
    simp only [e] at this
    simpa using this
  · rintro rfl; decide +kernel
/-- the end of both: leading zeros, int(word) -/
theorem num_end {w : Str} {e1 : Option PV} {st : Store} {N : PEnv → Store → Prop} {Q : PV → Store → Prop} (h1 : 1 ≤ w.length) (h2 : w.length ≤ 40) (h3 : w.cps.toList.all okD = true) (k : Q (optI (numP w)) st) :
    SatS (sSeq (sIf (tAndM (eTest (eBin pEq (eBin pIx (eVar 0) (eC (.int 0))) (eC (.str "0")))) (eTest (eBin pGt (eArgs (one pLen) (aCons (eVar 0) aNil)) (eC (.int 1))))) (sRet (eC .non)) sNil)
    (sRet (eArgs (one pInt) (aCons (eVar 0) aNil))) [some (.str w), e1] st) N Q := by
  have hsl : w.length ≤ sizeLine := by rw [sizeLine_eq]; omega
  have hl : w.cps.toList.length = w.length := Array.length_toList
  cases hc : w.cps.toList with
  | nil => rw [hc] at hl; simp at hl; omega
  | cons c cs =>
    have yes : ¬ (c = 48 ∧ 1 < w.length) → ∃ i, numP w = some i := fun h => ⟨_, if_pos ⟨h1, h2, h3, by rw [hc]; simpa using h⟩⟩
    have no : (c = 48 ∧ 1 < w.length) → numP w = none := fun h => if_neg fun z => z.2.2.2 (by rw [hc]; simpa using h)
    have fin : ¬ (c = 48 ∧ 1 < w.length) → SatS (sRet (eArgs (one pInt) (aCons (eVar 0) aNil)) [some (.str w), e1] st) N Q := fun h => by
      obtain ⟨i, hi⟩ := yes h
      have hi2 := numP_int hi
      rw [ss_ret, sat_args, sat_cons, sat_var rfl, sat_nil, sat_one]
      have e : pInt (.str w) st = .ok (.int i) st := by
        show (if w.length ≤ 640 then match PySem.intText? w with | some n => Res.ok (PV.int n) st | none => .stuck else .stuck) = _
        rw [if_pos (by omega), hi2.1]
      rw [e, sat_ok]
      rw [hi] at k
      exact k
    rw [ss_seq, ss_if, sat_and, sat_test, sat_bin, sat_bin, sat_var rfl, sat_c, ix0S hc hsl, sat_c, o_eqS, zero_eq, sat_truth]
    by_cases hz : c = 48
    · rw [decide_eq_true hz, if_pos rfl, sat_test, sat_bin, sat_args, sat_cons, sat_var rfl, sat_nil, sat_one, o_lenS]
      refine ⟨hsl, ?_⟩
      rw [sat_c, o_gtI, sat_truth]
      by_cases h4 : (1 : Int) < w.length
      · rw [decide_eq_true h4, if_pos rfl, ss_ret, sat_c]
        rw [no ⟨hz, by omega⟩] at k
        exact k
      · rw [decide_eq_false h4, if_neg (by simp), ss_nil]
        exact fin fun z => h4 (by omega)
    · rw [decide_eq_false hz, if_neg (by simp), if_neg (by simp), ss_nil]
      exact fin fun z => hz z.1
theorem numP_no {w : Str} (h : ¬ (1 ≤ w.length ∧ w.length ≤ 40 ∧ w.cps.toList.all okD = true)) : numP w = none := if_neg fun z => h ⟨z.1, z.2.1, z.2.2.1⟩
theorem number_ok {w : Str} {st : Store} {Q : PV → Store → Prop} (hz : w.length ≤ 100000) (k : Q (optI (numP w)) st) : Sat (m_number_in [.str w] st) Q := by
  refine sat_body ?_
  unfold f_number_in
  simp only [List.map_cons, List.map_nil, List.length_cons, List.length_nil, Nat.reduceAdd, Nat.reduceSub, List.reduceReplicate, List.cons_append, List.nil_append]
  have hsl : w.length ≤ sizeLine := by rw [sizeLine_eq]; omega
  have out : numP w = none → Q .non st := fun h => by rw [h] at k; exact k
  refine seq_mid (fun e s => e = ([some (PV.str w), none] : PEnv) ∧ s = st ∧ 1 ≤ w.length ∧ w.length ≤ 40) ?_ ?_
  · rw [ss_if]
    simp only [sat_not, sat_test, sat_chain, sat_c, sat_args, sat_cons, sat_v, sat_nil, sat_one, List.getElem?_cons_zero, o_lenS, o_leI, hsl, true_and]
    by_cases h1 : 1 ≤ w.length
    · have e1 : decide ((w.length : Int) < 1) = false := by simp; omega
      by_cases h2 : w.length ≤ 40
      · have e2 : decide ((40 : Int) < (w.length : Int)) = false := by simp; omega
        simp only [e1, e2, Bool.not_false, sat_truth, Bool.not_true, Bool.false_eq_true, if_false, ss_nil]
        exact ⟨trivial, trivial, h1, h2⟩
      · have e2 : decide ((40 : Int) < (w.length : Int)) = true := by simp; omega
        simp only [e1, e2, Bool.not_false, sat_truth, Bool.not_true, if_true, ss_ret, sat_c]
        exact out (numP_no fun z => h2 z.2.1)
    · have e1 : decide ((w.length : Int) < 1) = true := by simp; omega
      simp only [e1, Bool.not_true, sat_truth, Bool.not_false, if_true, ss_ret, sat_c]
      exact out (numP_no fun z => h1 z.1)
  rintro e s ⟨rfl, rfl, h1, h2⟩
  refine seq_mid (fun e t => (∃ a, e = ([some (PV.str w), a] : PEnv)) ∧ t = s ∧ w.cps.toList.all okD = true) ?_ ?_
  · simp only [sat_ok, sat_bind, sat_v, sat_c, sat_bin, sat_un, sat_test, sat_truth, sat_and, sat_or, sat_not, sat_yes, sat_andv, sat_notv, sat_chain, sat_nil, sat_cons, sat_args, sat_call, sat_callX, sat_meth, sat_one, sat_oNone, sat_oSome, sat_sl, sat_tup, sat_lst, sat_loc, ss_nil, ss_seq, ss_set, ss_expr, ss_ret, ss_retN, ss_if, ss_tg, ss_par, ss_sub, ss_for, sat_comp, setTg, setTgs, wipeP, sizeLine_eq, List.map_cons, List.map_nil, List.length_cons, List.length_nil, List.cons_append, List.nil_append, List.set_cons_zero, List.set_cons_succ, List.getElem?_cons_zero, List.getElem?_cons_succ, Nat.reduceAdd, Nat.reduceSub, Nat.reduceLeDiff, List.reduceReplicate, Option.some.injEq, exists_eq_left', true_and, and_true, Nat.zero_add, o_addI, o_addS, o_addT, o_addL, o_subI, o_mulI, o_fdivI, o_modI, o_powI, o_negI, o_eqI, o_neI, o_eqS, o_neS, o_ltI, o_gtI, o_leI, o_geI, o_ltS, o_geS, o_inS, o_notInS, o_isN, o_isNotN, o_isT, o_isNotT, o_isS, o_isNotS, o_int, o_intB, o_abs, o_str, o_lenT, o_lenL, o_lenF, o_lenS, o_ixT, o_ixL, o_ixF, ixW_0, ixW_1, ixW_2, o_isStr, o_tupL, o_tupT, o_listT, o_listL, o_listLocT, o_gcd, o_bits, o_finF, o_finT, sat_iVal, sat_iEnum, sat_iRange1, sat_iRange2, o_itT, o_itL, o_itF, o_itS, o_enT, o_rng]
    refine for_invN (k := 0) (fun i e t => t = s ∧ (∃ a, e = ([some (PV.str w), a] : PEnv)) ∧ (w.cps.toList.take i).all okD = true) ⟨rfl, ⟨_, rfl⟩, by simp⟩ ?_ ?_
    · rintro i v e t hv ⟨rfl, ⟨a, rfl⟩, ha⟩
      rw [Nat.zero_add] at ha ⊢
      obtain ⟨d, hd, rfl⟩ : ∃ d, w.cps.toList[i]? = some d ∧ v = .str ⟨#[d]⟩ := by
        unfold signs at hv
        rw [List.getElem?_map] at hv
        cases hq : w.cps.toList[i]? with
        | none => rw [hq] at hv; cases hv
        | some d => rw [hq] at hv; cases hv; exact ⟨d, rfl, rfl⟩
      refine ⟨_, rfl, ?_⟩
      rw [ss_if, sat_test, sat_bin, sat_var rfl, sat_c, o_notInS, sat_truth]
      cases hB : inStr ⟨#[d]⟩ DIG with
      | true =>
        rw [Bool.not_true, if_neg (by simp), ss_nil]
        refine ⟨rfl, ⟨_, rfl⟩, ?_⟩
        rw [List.take_add_one, hd, List.all_append, ha]
        have : okD d = true := hB
        simp [this]
      | false =>
        rw [Bool.not_false, if_pos rfl, ss_ret, sat_c]
        refine out (numP_no fun z => ?_)
        have := List.all_eq_true.mp z.2.2 d (List.mem_of_getElem? hd)
        have hB : okD d = false := hB
        rw [hB] at this; cases this
    · rintro e t ⟨rfl, ⟨a, rfl⟩, ha⟩
      have e1 : w.cps.toList.take (0 + (signs w).length) = w.cps.toList := by
        unfold signs
        rw [List.length_map, Nat.zero_add, List.take_length]
      rw [e1] at ha
      exact ⟨⟨_, rfl⟩, rfl, ha⟩
  · rintro e t ⟨⟨a, rfl⟩, rfl, h3⟩
    exact num_end h1 h2 h3 k
theorem dsign_test {env : PEnv} {st : Store} {x : Str} (hl : 1 < env.length) : ∀ v ∈ signs x, (eTest (eBin pNotIn (eVar 1) (eC (.str "0123456789")))) (env.set 1 (some v)) st = .ok (!okD (chOf v)) st := by
  intro v hv
  unfold signs at hv
  obtain ⟨d, hd, rfl⟩ := List.mem_map.mp hv
  have e2 : (env.set 1 (some (PV.str ⟨#[d]⟩)))[1]? = some (some (.str ⟨#[d]⟩)) := List.getElem?_set_self hl
  exact t_ok fun Q k => by rw [sat_bin, sat_var e2, sat_c, o_notInS]; exact k
theorem dsigns_ok {z : Str} : ((signs z).filter fun v => !okD (chOf v)).length = 0 ↔ z.cps.toList.all okD = true := by
  rw [List.length_eq_zero_iff, List.filter_eq_nil_iff, List.all_eq_true]
  unfold signs
  constructor
  · intro h d hd
    have := h _ (List.mem_map.mpr ⟨d, hd, rfl⟩)
    simpa [chOf] using this
  · intro h v hv
    obtain ⟨d, hd, rfl⟩ := List.mem_map.mp hv
    simpa [chOf] using h d hd
theorem own_number_ok {w : Str} {st : Store} {Q : PV → Store → Prop} (hz : w.length ≤ 100000) (k : Q (optI (numP w)) st) : Sat (m_law_own_number [.str w] st) Q := by
  refine sat_body ?_
  unfold f_law_own_number
  simp only [List.map_cons, List.map_nil, List.length_cons, List.length_nil, Nat.reduceAdd, Nat.reduceSub, List.reduceReplicate, List.cons_append, List.nil_append]
  have hsl : w.length ≤ sizeLine := by rw [sizeLine_eq]; omega
  have out : numP w = none → Q .non st := fun h => by rw [h] at k; exact k
  have hlen : w.length = w.cps.toList.length := (Array.length_toList ..).symm
  refine seq_mid (fun e s => e = ([some (PV.str w), none] : PEnv) ∧ s = st ∧ 1 ≤ w.length ∧ w.length ≤ 40 ∧ w.cps.toList.all okD = true) ?_ ?_
  · rw [ss_if, sat_or, sat_test, sat_bin, sat_args, sat_cons, sat_var rfl, sat_nil, sat_one, o_lenS]
    refine ⟨hsl, ?_⟩
    rw [sat_c, o_ltI, sat_truth]
    by_cases h1 : (w.length : Int) < 1
    · rw [decide_eq_true h1, if_pos rfl, if_pos rfl, ss_ret, sat_c]
      exact out (numP_no fun z => by have := z.1; omega)
    · rw [decide_eq_false h1, if_neg (by simp), sat_or, sat_test, sat_bin, sat_args, sat_cons, sat_var rfl, sat_nil, sat_one, o_lenS]
      refine ⟨hsl, ?_⟩
      rw [sat_c, o_gtI, sat_truth]
      by_cases h2 : (40 : Int) < w.length
      · rw [decide_eq_true h2, if_pos rfl, if_pos rfl, ss_ret, sat_c]
        exact out (numP_no fun z => by have := z.2.1; omega)
      · rw [decide_eq_false h2, if_neg (by simp), sat_test, sat_bin, sat_args, sat_cons, sat_comp, sat_iVal, sat_var rfl, o_itS]
        refine comp_pick (fun v => !okD (chOf v)) (by simp [wipeP]) (by unfold signs; rw [List.length_map]; omega) (dsign_test (x := w) (by simp [wipeP])) ?_
        rw [o_finF, sat_nil, sat_one, o_lenL, sat_c, o_gtI, sat_truth]
        by_cases h3 : w.cps.toList.all okD = true
        · rw [dsigns_ok.mpr h3, decide_eq_false (by decide), if_neg (by simp), ss_nil]
          exact ⟨rfl, rfl, by omega, by omega, h3⟩
        · have : 0 < ((signs w).filter fun v => !okD (chOf v)).length := Nat.pos_of_ne_zero fun z => h3 (dsigns_ok.mp z)
          rw [decide_eq_true (by omega), if_pos rfl, ss_ret, sat_c]
          exact out (numP_no fun z => h3 z.2.2)
  rintro e s ⟨rfl, rfl, h1, h2, h3⟩
  exact num_end h1 h2 h3 k
end PL
/-! PL, part KC: integers and fractions in texts, read by both. -/
namespace PL
open PySem PySem.Spec PyProof.Rows L2 TL
theorem dv_lt : ∀ (cs : List Nat) (a : Nat), (∀ c ∈ cs, c ≤ 57) → cs.foldl (fun acc c => acc * 10 + (c - 48)) a < (a + 1) * 10 ^ cs.length
  | [], a, _ => by simp
  | c :: cs, a, h => by
    have := dv_lt cs (a * 10 + (c - 48)) fun d m => h d (List.mem_cons_of_mem _ m)
    have hc := h c List.mem_cons_self
    have h1 : (a * 10 + (c - 48) + 1) * 10 ^ cs.length ≤ ((a + 1) * 10) * 10 ^ cs.length := Nat.mul_le_mul_right _ (by omega)
    rw [List.foldl_cons, List.length_cons, Nat.pow_succ, Nat.mul_comm (10 ^ cs.length) 10, ← Nat.mul_assoc]
    omega
theorem numP_lt {w : Str} {i : Int} (h : numP w = some i) : 0 ≤ i ∧ i < 10 ^ 40 := by
  unfold numP at h
  split at h
  · rename_i hc
    cases h
    refine ⟨by omega, ?_⟩
    have hl : w.cps.toList.length = w.length := Array.length_toList
    have := dv_lt w.cps.toList 0 fun c m => by
      have := List.all_eq_true.mp hc.2.2.1 c m
      rw [okD_dg] at this
      unfold isDg at this
      simp at this
      exact this.2
    have h2 : 10 ^ w.cps.toList.length ≤ 10 ^ 40 := Nat.pow_le_pow_right (by decide) (by omega)
    unfold NumText.digitsVal
    have h3 : w.cps.toList.foldl (fun acc c => acc * 10 + (c - 48)) 0 < 10 ^ 40 := by omega
    have h4 : ((10 ^ 40 : Nat) : Int) = 10 ^ 40 := by norm_cast
    omega
  · cases h
/-- the parts of a text are no longer -/
theorem joinL_mem {S : List Nat} : ∀ {ps : List (List Nat)} {p : List Nat}, p ∈ ps → p.length ≤ (joinL S ps).length
  | [q], p, m => by rw [List.mem_singleton.mp m]; exact Nat.le_refl _
  | q :: r :: ps, p, m => by
    show p.length ≤ (q ++ (S ++ joinL S (r :: ps))).length
    rw [List.length_append, List.length_append]
    rcases List.mem_cons.mp m with rfl | m
    · omega
    · have := joinL_mem (S := S) m
      omega
theorem split_part {x y p : Str} (m : p ∈ Txt.split x y) : p.length ≤ x.length := by
  have h := tl_join y (Txt.split x y)
  rw [PySem.StrLaws.join_split x y] at h
  have h2 := joinL_mem (S := tl y) (List.mem_map.mpr ⟨p, m, rfl⟩ : tl p ∈ (Txt.split x y).map tl)
  rw [← h] at h2
  have e : ∀ z : Str, (tl z).length = z.length := fun z => Array.length_toList
  rw [e, e] at h2
  exact h2
theorem o_split {a b : Str} {st : Store} {Q : PV → Store → Prop} (ha : a.length ≤ 100000) (hb : (b.length == 0) = false) : Sat (pSplit (.str a) [.str b] st) Q = Q (.lst ((Txt.split a b).map .str)) st := by
  have : pSplit (.str a) [.str b] st = .ok (.lst ((Txt.split a b).map .str)) st := if_pos ⟨hb, by rw [sizeLine_eq]; omega⟩
  rw [this, sat_ok]
def hdS (w : Str) : Str := cutS w none (some 1)
def tlS (w : Str) : Str := cutS w (some 1) none
theorem o_slS {z : Str} {lo hi : Option Int} {st : Store} {Q : PV → Store → Prop} (h : z.length ≤ 100000) : Sat (pSl (.str z) lo hi st) Q = Q (.str (cutS z lo hi)) st := by
  have : pSl (.str z) lo hi st = .ok (.str (cutS z lo hi)) st := if_pos (by rw [sizeLine_eq]; omega)
  rw [this, sat_ok]
theorem tlS_len {w : Str} : (tlS w).length ≤ w.length := cutS_length w _ _
def negP : Option Int → Option Int
  | some n => if n = 0 then none else some (-n)
  | none => none
def intP (w : Str) : Option Int := if hdS w = "-" then negP (numP (tlS w)) else numP w
theorem optI_is {o : Option Int} {st : Store} {Q : PV → Store → Prop} : Sat (pIs (optI o) .non st) Q = Q (.bl o.isNone) st := by
  cases o with
  | none => exact o_isN
  | some i => exact sat_of rfl
/-- the end of both: what is behind a minus -/
theorem neg_end {o : Option Int} {e1 : PV} {st : Store} {N : PEnv → Store → Prop} {Q : PV → Store → Prop} (k : Q (optI (negP o)) st) :
    SatS (sSeq (sIf (tOrM (eTest (eBin pIs (eVar 1) (eC .non))) (eTest (eBin pEq (eVar 1) (eC (.int 0))))) (sRet (eC .non)) sNil)
    (sRet (eUn pNeg (eVar 1))) [some e1, some (optI o)] st) N Q := by
  rw [ss_seq, ss_if, sat_or, sat_test, sat_bin, sat_var rfl, sat_c, optI_is, sat_truth]
  cases o with
  | none =>
    rw [Option.isNone_none, if_pos rfl, if_pos rfl, ss_ret, sat_c]
    exact k
  | some i =>
    rw [Option.isNone_some, if_neg (by simp), sat_test, sat_bin, sat_var rfl, sat_c]
    show Sat (pEq (.int i) (.int 0) st) _
    rw [o_eqI, sat_truth]
    by_cases h : i = 0
    · rw [decide_eq_true h, if_pos rfl, ss_ret, sat_c]
      have k : Q (optI (if i = 0 then none else some (-i))) st := k
      rw [if_pos h] at k
      exact k
    · rw [decide_eq_false h, if_neg (by simp), ss_nil, ss_ret, sat_un, sat_var rfl]
      show Sat (pNeg (.int i) st) _
      rw [o_negI]
      have k : Q (optI (if i = 0 then none else some (-i))) st := k
      rw [if_neg h] at k
      exact k
theorem integer_ok {w : Str} {st : Store} {Q : PV → Store → Prop} (hz : w.length ≤ 100000) (k : Q (optI (intP w)) st) : Sat (m_integer_in [.str w] st) Q := by
  refine sat_body ?_
  unfold f_integer_in
  simp only [List.map_cons, List.map_nil, List.length_cons, List.length_nil, Nat.reduceAdd, Nat.reduceSub, List.reduceReplicate, List.cons_append, List.nil_append]
  unfold intP at k
  rw [ss_seq, ss_if, sat_test, sat_bin, sat_sl, sat_var rfl, sat_oNone, sat_oSome, sat_c]
  show Sat (pSl (.str w) none (some 1) st) _
  rw [o_slS hz, sat_c, o_neS, sat_truth]
  by_cases h : hdS w = "-"
  · rw [if_pos h] at k
    have e : (!decide (cutS w none (some 1) = "-")) = false := by rw [show cutS w none (some 1) = hdS w from rfl, decide_eq_true h]; rfl
    rw [e, if_neg (by simp), ss_nil, ss_seq, ss_set, sat_call, sat_cons, sat_sl, sat_var rfl, sat_oSome, sat_c]
    show Sat (oNone _ st) _
    rw [sat_oNone]
    show Sat (pSl (.str w) (some 1) none st) _
    rw [o_slS hz, sat_nil]
    exact ⟨rfl, number_ok (w := tlS w) (by have := tlS_len (w := w); omega) (neg_end k)⟩
  · rw [if_neg h] at k
    have e : (!decide (cutS w none (some 1) = "-")) = true := by rw [show cutS w none (some 1) = hdS w from rfl, decide_eq_false h]; rfl
    rw [e, if_pos rfl, ss_ret, sat_call, sat_cons, sat_var rfl, sat_nil]
    exact ⟨rfl, number_ok hz k⟩
theorem own_integer_ok {w : Str} {st : Store} {Q : PV → Store → Prop} (hz : w.length ≤ 100000) (k : Q (optI (intP w)) st) : Sat (m_law_own_integer [.str w] st) Q := by
  refine sat_body ?_
  unfold f_law_own_integer
  simp only [List.map_cons, List.map_nil, List.length_cons, List.length_nil, Nat.reduceAdd, Nat.reduceSub, List.reduceReplicate, List.cons_append, List.nil_append]
  unfold intP at k
  rw [ss_seq, ss_if, sat_test, sat_bin, sat_sl, sat_var rfl, sat_oNone, sat_oSome, sat_c]
  show Sat (pSl (.str w) none (some 1) st) _
  rw [o_slS hz, sat_c, o_eqS, sat_truth]
  by_cases h : hdS w = "-"
  · rw [if_pos h] at k
    have e : decide (cutS w none (some 1) = "-") = true := decide_eq_true h
    rw [e, if_pos rfl, ss_seq, ss_set, sat_call, sat_cons, sat_sl, sat_var rfl, sat_oSome, sat_c]
    show Sat (oNone _ st) _
    rw [sat_oNone]
    show Sat (pSl (.str w) (some 1) none st) _
    rw [o_slS hz, sat_nil]
    exact ⟨rfl, own_number_ok (w := tlS w) (by have := tlS_len (w := w); omega) (neg_end k)⟩
  · rw [if_neg h] at k
    have e : decide (cutS w none (some 1) = "-") = false := decide_eq_false h
    rw [e, if_neg (by simp), ss_nil, ss_ret, sat_call, sat_cons, sat_var rfl, sat_nil]
    exact ⟨rfl, own_number_ok hz k⟩
def fracQ : Option Int → Option Int → Option (Int × Int)
  | some t, some m => if m = 0 ∨ Nat.gcd t.natAbs m.natAbs ≠ 1 then none else some (t, m)
  | _, _ => none
def fracP (w : Str) : Option (Int × Int) := match Txt.split w "/" with
  | [a, b] => fracQ (intP a) (numP b)
  | _ => none
def optF : Option (Int × Int) → PV
  | some p => .tup [.int p.1, .int p.2]
  | none => .non
theorem slash_ne : (("/" : Str).length == 0) = false := by decide +kernel
theorem fraction_ok {w : Str} {st : Store} {Q : PV → Store → Prop} (hz : w.length ≤ 100000) (k : Q (optF (fracP w)) st) : Sat (m_fraction_in [.str w] st) Q := by
  refine sat_body ?_
  unfold f_fraction_in
  simp only [List.map_cons, List.map_nil, List.length_cons, List.length_nil, Nat.reduceAdd, Nat.reduceSub, List.reduceReplicate, List.cons_append, List.nil_append]
  rw [ss_seq, ss_set, sat_meth, sat_var rfl]
  refine ⟨rfl, ?_⟩
  rw [sat_cons, sat_c, sat_nil, o_split hz slash_ne]
  have hp : ∀ p ∈ Txt.split w "/", p.length ≤ 100000 := fun p m => Nat.le_trans (split_part m) hz
  unfold fracP at k
  generalize Txt.split w "/" = ps at k hp
  rw [ss_seq, ss_if, sat_test, sat_bin, sat_args, sat_cons, sat_var rfl, sat_nil, sat_one, o_lenL, sat_c, o_neI, sat_truth, List.length_map]
  by_cases h2 : ps.length = 2
  · obtain ⟨a, b, rfl⟩ : ∃ a b, ps = [a, b] := by
      match ps, h2 with
      | [a, b], _ => exact ⟨a, b, rfl⟩
    have k : Q (optF (fracQ (intP a) (numP b))) st := k
    rw [decide_eq_true (by simp), Bool.not_true, if_neg (by simp), ss_nil]
    simp only [List.map_cons, List.map_nil]
    rw [ss_seq, ss_set, sat_call, sat_cons, sat_bin, sat_var rfl, sat_c, o_ixL, ixW_0, sat_nil]
    refine ⟨rfl, integer_ok (hp a (by simp)) ?_⟩
    rw [ss_seq, ss_set, sat_call, sat_cons, sat_bin, sat_var rfl, sat_c, o_ixL, ixW_1, sat_nil]
    refine ⟨rfl, number_ok (hp b (by simp)) ?_⟩
    rw [ss_seq, ss_if, sat_or, sat_test, sat_bin, sat_var rfl, sat_c, optI_is, sat_truth]
    cases ht : intP a with
    | none =>
      rw [ht] at k
      rw [Option.isNone_none, if_pos rfl, if_pos rfl, ss_ret, sat_c]
      exact k
    | some t =>
      rw [Option.isNone_some, if_neg (by simp), sat_or, sat_test, sat_bin, sat_var rfl, sat_c, optI_is, sat_truth]
      cases hm : numP b with
      | none =>
        rw [ht, hm] at k
        rw [Option.isNone_none, if_pos rfl, if_pos rfl, ss_ret, sat_c]
        exact k
      | some m =>
        rw [ht, hm] at k
        have k : Q (optF (if m = 0 ∨ Nat.gcd t.natAbs m.natAbs ≠ 1 then none else some (t, m))) st := k
        rw [Option.isNone_some, if_neg (by simp), sat_or, sat_test, sat_bin, sat_var rfl, sat_c]
        show Sat (pEq (.int m) (.int 0) st) _
        rw [o_eqI, sat_truth]
        by_cases h0 : m = 0
        · rw [if_pos (.inl h0)] at k
          rw [decide_eq_true h0, if_pos rfl, if_pos rfl, ss_ret, sat_c]
          exact k
        · rw [decide_eq_false h0, if_neg (by simp), sat_test, sat_bin, sat_args, sat_cons, sat_var rfl, sat_cons, sat_var rfl, sat_nil]
          show Sat (pGcd [.int t, .int m] st) _
          rw [o_gcd, sat_c, o_neI, sat_truth]
          by_cases h1 : Nat.gcd t.natAbs m.natAbs = 1
          · rw [if_neg (by simp [h0, h1])] at k
            rw [decide_eq_true (by omega), Bool.not_true, if_neg (by simp), ss_nil, ss_ret, sat_args, sat_cons, sat_var rfl, sat_cons, sat_var rfl, sat_nil, sat_tup]
            exact ⟨sl2, k⟩
          · rw [if_pos (.inr h1)] at k
            rw [decide_eq_false (by omega), Bool.not_false, if_pos rfl, ss_ret, sat_c]
            exact k
  · have e : (match ps with | [a, b] => fracQ (intP a) (numP b) | _ => none) = none := by
      split
      · simp at h2
      · rfl
    rw [e] at k
    rw [decide_eq_false (by omega), Bool.not_false, if_pos rfl, ss_ret, sat_c]
    exact k
theorem bits_small {m : Nat} (h : m < 2 ^ 200) : Builtin.Int.intBits (m : Int) < 1000000 := by
  unfold Builtin.Int.intBits
  by_cases h0 : m = 0
  · subst h0; decide
  · have : ((m : Int) == 0) = false := by simpa using h0
    rw [this]
    show ((m : Int).natAbs).log2 + 1 < 1000000
    rw [Int.natAbs_natCast]
    have := (Nat.log2_lt h0).mpr h
    omega
theorem own_fraction_ok {w : Str} {st : Store} {Q : PV → Store → Prop} (hz : w.length ≤ 100000) (k : Q (optF (fracP w)) st) : Sat (m_law_own_fraction [.str w] st) Q := by
  refine sat_body ?_
  unfold f_law_own_fraction
  simp only [List.map_cons, List.map_nil, List.length_cons, List.length_nil, Nat.reduceAdd, Nat.reduceSub, List.reduceReplicate, List.cons_append, List.nil_append]
  rw [ss_seq, ss_set, sat_meth, sat_var rfl]
  refine ⟨rfl, ?_⟩
  rw [sat_cons, sat_c, sat_nil, o_split hz slash_ne]
  have hp : ∀ p ∈ Txt.split w "/", p.length ≤ 100000 := fun p m => Nat.le_trans (split_part m) hz
  unfold fracP at k
  generalize Txt.split w "/" = ps at k hp
  rw [ss_seq, ss_if, sat_test, sat_bin, sat_args, sat_cons, sat_var rfl, sat_nil, sat_one, o_lenL, sat_c, o_neI, sat_truth, List.length_map]
  by_cases h2 : ps.length = 2
  · obtain ⟨a, b, rfl⟩ : ∃ a b, ps = [a, b] := by
      match ps, h2 with
      | [a, b], _ => exact ⟨a, b, rfl⟩
    have k : Q (optF (fracQ (intP a) (numP b))) st := k
    rw [decide_eq_true (by simp), Bool.not_true, if_neg (by simp), ss_nil]
    simp only [List.map_cons, List.map_nil]
    rw [ss_seq, ss_set, sat_call, sat_cons, sat_bin, sat_var rfl, sat_c, o_ixL, ixW_0, sat_nil]
    refine ⟨rfl, own_integer_ok (hp a (by simp)) ?_⟩
    rw [ss_seq, ss_set, sat_call, sat_cons, sat_bin, sat_var rfl, sat_c, o_ixL, ixW_1, sat_nil]
    refine ⟨rfl, own_number_ok (hp b (by simp)) ?_⟩
    rw [ss_seq, ss_if, sat_or, sat_test, sat_bin, sat_var rfl, sat_c, optI_is, sat_truth]
    cases ht : intP a with
    | none =>
      rw [ht] at k
      rw [Option.isNone_none, if_pos rfl, if_pos rfl, ss_ret, sat_c]
      exact k
    | some t =>
      rw [Option.isNone_some, if_neg (by simp), sat_or, sat_test, sat_bin, sat_var rfl, sat_c, optI_is, sat_truth]
      cases hm : numP b with
      | none =>
        rw [ht, hm] at k
        rw [Option.isNone_none, if_pos rfl, if_pos rfl, ss_ret, sat_c]
        exact k
      | some m =>
        rw [ht, hm] at k
        have k : Q (optF (if m = 0 ∨ Nat.gcd t.natAbs m.natAbs ≠ 1 then none else some (t, m))) st := k
        rw [Option.isNone_some, if_neg (by simp), sat_or, sat_test, sat_bin, sat_var rfl, sat_c]
        show Sat (pEq (.int m) (.int 0) st) _
        rw [o_eqI, sat_truth]
        by_cases h0 : m = 0
        · rw [if_pos (.inl h0)] at k
          rw [decide_eq_true h0, if_pos rfl, if_pos rfl, ss_ret, sat_c]
          exact k
        · rw [decide_eq_false h0, if_neg (by simp), sat_test, sat_bin, sat_call, sat_cons, sat_args, sat_cons, sat_var rfl, sat_nil, sat_one]
          show Sat (pAbs (.int t) st) _
          rw [o_abs, sat_cons, sat_var rfl, sat_nil]
          have hb := numP_lt hm
          have e1 : (if t < 0 then -t else t) = ((t.natAbs : Nat) : Int) := by split <;> omega
          have e2 : m = ((m.natAbs : Nat) : Int) := by omega
          refine ⟨rfl, ?_⟩
          show Sat (m_law_gcd [.int (if t < 0 then -t else t), .int m] st) _
          rw [e1]
          have hbb : m.natAbs < 2 ^ 200 := Nat.lt_of_lt_of_le (show m.natAbs < 10 ^ 40 by omega) (by decide)
          have hg : Sat (m_law_gcd [.int ((t.natAbs : Nat) : Int), .int m] st) fun v s => v = .int (Nat.gcd t.natAbs m.natAbs) ∧ s = st := by
            have := gcd_ok (a := t.natAbs) (b := m.natAbs) (st := st) (bits_small hbb)
            rwa [← e2] at this
          refine hg.mono ?_
          rintro _ _ ⟨rfl, rfl⟩
          rw [sat_c, o_neI, sat_truth]
          by_cases h1 : Nat.gcd t.natAbs m.natAbs = 1
          · rw [if_neg (by simp [h0, h1])] at k
            rw [decide_eq_true (by omega), Bool.not_true, if_neg (by simp), ss_nil, ss_ret, sat_args, sat_cons, sat_var rfl, sat_cons, sat_var rfl, sat_nil, sat_tup]
            exact ⟨sl2, k⟩
          · rw [if_pos (.inr h1)] at k
            rw [decide_eq_false (by omega), Bool.not_false, if_pos rfl, ss_ret, sat_c]
            exact k
  · have e : (match ps with | [a, b] => fracQ (intP a) (numP b) | _ => none) = none := by
      split
      · simp at h2
      · rfl
    rw [e] at k
    rw [decide_eq_false (by omega), Bool.not_false, if_pos rfl, ss_ret, sat_c]
    exact k
end PL
/-! PL, part KD: words of a line, gains, lots, parts, read by both. -/
namespace PL
open PySem PySem.Spec PyProof.Rows L2 TL
theorem cut_hi {xs : List PV} {i : Nat} (h : i ≤ xs.length) : cutP xs (some (i : Int)) none = xs.drop i := by
  unfold cutP
  have h1 : HT.sIx xs.length 0 (some (i : Int)) = i := by
    unfold HT.sIx
    simp; split <;> omega
  have h2 : HT.sIx xs.length xs.length none = xs.length := by unfold HT.sIx; first | rfl | simp
  rw [h1, h2, List.take_of_length_le (by simp)]
theorem o_slL {xs : List PV} {lo hi : Option Int} {st : Store} {Q : PV → Store → Prop} : Sat (pSl (.lst xs) lo hi st) Q = Q (.lst (cutP xs lo hi)) st := sat_of rfl
theorem spl_ne (S : List Nat) : ∀ (l : List Nat) (k : Nat) (acc : List Nat), spl S k acc l ≠ []
  | [], k, acc => by rw [spl_nil]; simp
  | c :: l, 0, acc => by
    unfold spl
    split
    · simp
    · exact spl_ne S l 0 _
  | c :: l, k + 1, acc => by
    unfold spl
    exact spl_ne S l k _
theorem split_ne {x y : Str} (hy : tl y ≠ []) (hk : y.cps.all (· < 256) = true) : Txt.split x y ≠ [] := fun e => by
  have := split_spl x y hy (kind_ok hk)
  rw [e] at this
  exact spl_ne _ _ _ _ this.symm
theorem split_space {x : Str} : ∃ w ws, Txt.split x " " = w :: ws := by
  cases h : Txt.split x " " with
  | nil => exact absurd h (split_ne (by decide +kernel) (by decide +kernel))
  | cons w ws => exact ⟨w, ws, rfl⟩
theorem space_ne : ((" " : Str).length == 0) = false := by decide +kernel
/-! ### words by a reader -/
def optA {α : Type} (emb : α → PV) : Option α → PV
  | some a => emb a
  | none => .non
structure Emb {α : Type} (emb : α → PV) : Prop where
  d : ∀ a, isD (emb a) = true
  ne : ∀ a, PyData.eqv (toD (emb a)) .none = false
def seqP {α : Type} : List (Option α) → Option (List α)
  | [] => some []
  | some a :: r => match seqP r with
    | some as => some (a :: as)
    | none => none
  | none :: _ => none
theorem seqP_some {α : Type} (emb : α → PV) : ∀ {os : List (Option α)} {as : List α}, seqP os = some as → os.map (optA emb) = as.map emb ∧ os = as.map some
  | [], as, h => by cases h; exact ⟨rfl, rfl⟩
  | some a :: r, as, h => by
    unfold seqP at h
    cases q : seqP r with
    | none => rw [q] at h; cases h
    | some bs =>
      rw [q] at h
      cases h
      obtain ⟨e1, e2⟩ := seqP_some emb q
      exact ⟨by rw [List.map_cons, List.map_cons, e1]; rfl, by rw [List.map_cons, ← e2]⟩
  | none :: r, as, h => by cases h
theorem in_seqP {α : Type} {emb : α → PV} (E : Emb emb) : ∀ os : List (Option α), inD .non (os.map (optA emb)) = (seqP os).isNone
  | [] => rfl
  | none :: r => by
    unfold inD
    rw [List.map_cons, List.any_cons]
    rfl
  | some a :: r => by
    have ih := in_seqP E r
    unfold inD at ih ⊢
    rw [List.map_cons, List.any_cons, ih]
    have : PyData.eqv (toD (optA emb (some a))) (toD .non) = false := E.ne a
    rw [this, Bool.false_or]
    show _ = (match seqP r with | some as => some (a :: as) | none => none).isNone
    cases seqP r <;> rfl
theorem isDs_optA {α : Type} {emb : α → PV} (E : Emb emb) : ∀ os : List (Option α), isDs (os.map (optA emb)) = true
  | [] => rfl
  | none :: r => by rw [List.map_cons]; show (isD .non && isDs _) = true; rw [isDs_optA E r]; rfl
  | some a :: r => by rw [List.map_cons]; show (isD (emb a) && isDs _) = true; rw [isDs_optA E r, E.d a]; rfl
theorem o_noneIn {α : Type} {emb : α → PV} (E : Emb emb) {os : List (Option α)} {v : PV} {b : Bool} {st : Store} {Q : PV → Store → Prop} (h : seqOf st v = some (b, os.map (optA emb))) : Sat (pIn .non v st) Q = Q (.bl (seqP os).isNone) st := by
  have : pIn .non v st = .ok (.bl (seqP os).isNone) st := by
    unfold pIn
    simp only [h]
    rw [if_pos ⟨rfl, isDs_optA E os, Nat.le_trans (Nat.min_le_right _ _) (by decide)⟩, in_seqP E os]
  rw [this, sat_ok]
theorem sat_callA {n i : Nat} {T : FTab} {fs : AM} {f : Addr} {m : List PV → Store → Res PV} {env : PEnv} {st : Store} {Q : PV → Store → Prop} (h1 : env[i]? = some (some (.con (.ref f)))) (h2 : T f = some m) :
    Sat (eCallA n T i fs env st) Q = Sat (fs env st) fun vs s => vs.length = n ∧ Sat (m vs s) Q := by
  have : eCallA n T i fs env st = eCall n m fs env st := by
    unfold eCallA
    simp only [h1, h2]
    rfl
  rw [this, sat_call]
/-- what read_words gives -/
def wordsP {α : Type} (emb : α → PV) (o : Option (List α)) : PV := match o with
  | some as => .tup (as.map emb)
  | none => .non
theorem read_words_ok {V : Fv} {α : Type} {emb : α → PV} (E : Emb emb) {f : Addr} {m : List PV → Store → Res PV} {g : Str → Option α} {ws : List Str} {st : Store} {Q : PV → Store → Prop} (hT : V.T f = some m)
    (hm : ∀ w ∈ ws, ∀ (s : Store) (Q : PV → Store → Prop), Q (optA emb (g w)) s → Sat (m [.str w] s) Q) (hl : ws.length ≤ 1000000) (k : Q (wordsP emb (seqP (ws.map g))) st) : Sat (m_read_words V [.lst (ws.map .str), .con (.ref f)] st) Q := by
  refine sat_body ?_
  unfold f_read_words
  simp only [List.map_cons, List.map_nil, List.length_cons, List.length_nil, Nat.reduceAdd, Nat.reduceSub, List.reduceReplicate, List.cons_append, List.nil_append]
  rw [ss_seq, ss_set, sat_comp, sat_iVal, sat_var rfl, o_itL]
  refine comp_map (as := ws) (f := PV.str) (g := fun w => optA emb (g w)) (by simp [wipeP]) hl (fun w mw => det fun Q k => by
    rw [sat_callA (f := f) (m := m) (by simp [wipeP]) hT, sat_cons, sat_var (v := .str w) (by simp [wipeP]), sat_nil]
    exact ⟨rfl, hm w mw _ _ k⟩) ?_ _ trivial
  have em : ws.map (fun w => optA emb (g w)) = (ws.map g).map (optA emb) := by simp
  rw [o_finF, em, ss_seq, ss_if, sat_test, sat_bin, sat_c, sat_var rfl, o_noneIn E (b := false) rfl, sat_truth]
  cases h : seqP (ws.map g) with
  | none =>
    rw [h] at k
    rw [Option.isNone_none, if_pos rfl, ss_ret, sat_c]
    exact k
  | some as =>
    rw [h] at k
    rw [Option.isNone_some, if_neg (by simp), ss_nil, ss_ret, sat_args, sat_cons, sat_var rfl, sat_nil, sat_one, o_tupL, (seqP_some emb h).1]
    exact k
theorem emb_int : Emb PV.int := ⟨fun _ => rfl, fun _ => rfl⟩
def frPV (p : Int × Int) : PV := .tup [.int p.1, .int p.2]
theorem emb_fr : Emb frPV := ⟨fun _ => rfl, fun _ => rfl⟩
theorem optI_A (o : Option Int) : optI o = optA PV.int o := by cases o <;> rfl
theorem optF_A (o : Option (Int × Int)) : optF o = optA frPV o := by cases o <;> rfl
/-- the table holds the three readers -/
structure FvOk (V : Fv) : Prop where
  i : V.T V.integer_in = some m_integer_in
  n : V.T V.number_in = some m_number_in
  f : V.T V.fraction_in = some m_fraction_in
theorem parts_len {x : Str} {p : Str} {ps : List Str} {y : Str} (h : Txt.split x y = ps) (m : p ∈ ps) (hx : x.length ≤ 100000) : p.length ≤ 100000 := by
  subst h
  exact Nat.le_trans (split_part m) hx
theorem split_count {x y : Str} : (Txt.split x y).length ≤ x.length + 2 := PyProof.Rows.split_le x y
/-! ### parts -/
def partsP (word line : Str) : PV := match Txt.split line " " with
  | w :: ws => if w = word then wordsP frPV (seqP (ws.map fracP)) else .non
  | [] => .non
theorem read_parts_ok {V : Fv} (F : FvOk V) {word line : Str} {st : Store} {Q : PV → Store → Prop} (hz : line.length ≤ 100000) (k : Q (partsP word line) st) : Sat (m_read_parts V [.str word, .str line] st) Q := by
  refine sat_body ?_
  unfold f_read_parts
  simp only [List.map_cons, List.map_nil, List.length_cons, List.length_nil, Nat.reduceAdd, Nat.reduceSub, List.reduceReplicate, List.cons_append, List.nil_append]
  rw [ss_seq, ss_set, sat_meth, sat_var rfl]
  refine ⟨rfl, ?_⟩
  rw [sat_cons, sat_c, sat_nil, o_split hz space_ne]
  obtain ⟨w, ws, e⟩ := split_space (x := line)
  have hc := split_count (x := line) (y := " ")
  unfold partsP at k
  rw [e] at k hc ⊢
  have k : Q (if w = word then wordsP frPV (seqP (ws.map fracP)) else .non) st := k
  rw [List.map_cons, ss_seq, ss_if, sat_test, sat_bin, sat_bin, sat_var rfl, sat_c, o_ixL, ixW_0, sat_var rfl, o_neS, sat_truth]
  by_cases h : w = word
  · rw [if_pos h] at k
    rw [decide_eq_true h, Bool.not_true, if_neg (by simp), ss_nil, ss_ret, sat_call, sat_cons, sat_sl, sat_var rfl, sat_oSome, sat_c]
    show Sat (oNone _ st) _
    rw [sat_oNone]
    show Sat (pSl (.lst (PV.str w :: ws.map .str)) (some 1) none st) _
    rw [o_slL]
    have ec : cutP (PV.str w :: ws.map .str) (some 1) none = ws.map .str := cut_hi (i := 1) (by simp)
    rw [ec, sat_cons, sat_c, sat_nil]
    refine ⟨rfl, read_words_ok emb_fr F.f (fun x mx s Q q => ?_) (by simp only [List.length_cons] at hc; omega) k⟩
    exact fraction_ok (parts_len e (List.mem_cons_of_mem _ mx) hz) (by rw [optF_A]; exact q)
  · rw [if_neg h] at k
    rw [decide_eq_false h, Bool.not_false, if_pos rfl, ss_ret, sat_c]
    exact k
theorem own_parts_ok {word line : Str} {st : Store} {Q : PV → Store → Prop} (hz : line.length ≤ 100000) (k : Q (partsP word line) st) : Sat (m_law_own_parts [.str word, .str line] st) Q := by
  refine sat_body ?_
  unfold f_law_own_parts
  simp only [List.map_cons, List.map_nil, List.length_cons, List.length_nil, Nat.reduceAdd, Nat.reduceSub, List.reduceReplicate, List.cons_append, List.nil_append]
  rw [ss_seq, ss_set, sat_meth, sat_var rfl]
  refine ⟨rfl, ?_⟩
  rw [sat_cons, sat_c, sat_nil, o_split hz space_ne]
  obtain ⟨w, ws, e⟩ := split_space (x := line)
  have hc := split_count (x := line) (y := " ")
  unfold partsP at k
  rw [e] at k hc ⊢
  have k : Q (if w = word then wordsP frPV (seqP (ws.map fracP)) else .non) st := k
  have ec : cutP (PV.str w :: ws.map .str) (some 1) none = ws.map .str := cut_hi (i := 1) (by simp)
  rw [List.map_cons, ss_seq, ss_set, sat_args, sat_cons, sat_comp, sat_iVal, sat_sl, sat_var rfl, sat_oSome, sat_c]
  show Sat (oNone _ st) _
  rw [sat_oNone]
  show Sat (pSl (.lst (PV.str w :: ws.map .str)) (some 1) none st) _
  rw [o_slL, ec, o_itL]
  refine comp_map (as := ws) (f := PV.str) (g := fun w => optA frPV (fracP w)) (by simp [wipeP]) (by simp only [List.length_cons] at hc; omega) (fun x mx => det fun Q k => by
    rw [sat_call, sat_cons, sat_var (v := .str x) (by simp [wipeP]), sat_nil]
    exact ⟨rfl, own_fraction_ok (parts_len e (List.mem_cons_of_mem _ mx) hz) (by rw [optF_A]; exact k)⟩) ?_ _ trivial
  have em : ws.map (fun w => optA frPV (fracP w)) = (ws.map fracP).map (optA frPV) := by simp
  rw [o_finF, em, sat_nil, sat_one, o_tupL, ss_seq, ss_if, sat_or, sat_test, sat_bin, sat_bin, sat_var rfl, sat_c, o_ixL, ixW_0, sat_var rfl, o_neS, sat_truth]
  by_cases h : w = word
  · rw [if_pos h] at k
    rw [decide_eq_true h, Bool.not_true, if_neg (by simp), sat_test, sat_bin, sat_c, sat_var rfl, o_noneIn emb_fr (b := true) rfl, sat_truth]
    cases hs : seqP (ws.map fracP) with
    | none =>
      rw [hs] at k
      rw [Option.isNone_none, if_pos rfl, ss_ret, sat_c]
      exact k
    | some as =>
      rw [hs] at k
      rw [Option.isNone_some, if_neg (by simp), ss_nil, ss_ret, sat_var rfl, (seqP_some frPV hs).1]
      exact k
  · rw [if_neg h] at k
    rw [decide_eq_false h, Bool.not_false, if_pos rfl, if_pos rfl, ss_ret, sat_c]
    exact k
end PL
/-! PL, part KL: lots and gain lines, read by both. -/
namespace PL
open PySem PySem.Spec PyProof.Rows L2 TL
def maxL (as : List Int) : Int := match as with
  | a :: r => r.foldl max a
  | [] => 0
def lotQ : Option (List Int) → PV
  | some as => if maxL as = 0 then .non else .tup (as.map .int)
  | none => .non
def lotP (line : Str) : PV := match Txt.split line " " with
  | w :: ws => if w = "lot" ∧ ws ≠ [] then lotQ (seqP (ws.map numP)) else .non
  | [] => .non
theorem o_max {as : List Int} (h : as ≠ []) {st : Store} {Q : PV → Store → Prop} : Sat (pMax (.tup (as.map .int)) st) Q = Q (.int (maxL as)) st := by
  have : pMax (.tup (as.map .int)) st = .ok (.int (maxL as)) st := by
    cases as with
    | nil => exact absurd rfl h
    | cons a r =>
      unfold pMax
      show (match intsOf ((a :: r).map PV.int) with | some (n :: ns) => Res.ok (PV.int (ns.foldl max n)) st | _ => .stuck) = _
      rw [intsOf_ints]
      rfl
  rw [this, sat_ok]
theorem seqP_len {α : Type} {os : List (Option α)} {as : List α} (h : seqP os = some as) : as.length = os.length := by
  rw [(seqP_some (fun _ => PV.non) h).2, List.length_map]
theorem read_lot_ok {V : Fv} (F : FvOk V) {line : Str} {st : Store} {Q : PV → Store → Prop} (hz : line.length ≤ 100000) (k : Q (lotP line) st) : Sat (m_read_lot V [.str line] st) Q := by
  refine sat_body ?_
  unfold f_read_lot
  simp only [List.map_cons, List.map_nil, List.length_cons, List.length_nil, Nat.reduceAdd, Nat.reduceSub, List.reduceReplicate, List.cons_append, List.nil_append]
  rw [ss_seq, ss_set, sat_meth, sat_var rfl]
  refine ⟨rfl, ?_⟩
  rw [sat_cons, sat_c, sat_nil, o_split hz space_ne]
  obtain ⟨w, ws, e⟩ := split_space (x := line)
  have hc := split_count (x := line) (y := " ")
  unfold lotP at k
  rw [e] at k hc ⊢
  have k : Q (if w = "lot" ∧ ws ≠ [] then lotQ (seqP (ws.map numP)) else .non) st := k
  rw [List.map_cons, ss_seq, ss_if, sat_or, sat_test, sat_bin, sat_bin, sat_var rfl, sat_c, o_ixL, ixW_0, sat_c, o_neS, sat_truth]
  by_cases h : w = "lot"
  · rw [decide_eq_true h, Bool.not_true, if_neg (by simp), sat_test, sat_bin, sat_args, sat_cons, sat_var rfl, sat_nil, sat_one, o_lenL, sat_c, o_ltI, sat_truth]
    by_cases h2 : ws = []
    · rw [if_neg (fun z => z.2 h2)] at k
      rw [decide_eq_true (by rw [h2]; simp), if_pos rfl, ss_ret, sat_c]
      exact k
    · have hp := List.length_pos_iff.mpr h2
      rw [if_pos ⟨h, h2⟩] at k
      rw [decide_eq_false (by simp only [List.length_cons, List.length_map]; omega), if_neg (by simp), ss_nil, ss_seq, ss_set, sat_call, sat_cons, sat_sl, sat_var rfl, sat_oSome, sat_c]
      show Sat (oNone _ st) _
      rw [sat_oNone]
      show Sat (pSl (.lst (PV.str w :: ws.map .str)) (some 1) none st) _
      have ec : cutP (PV.str w :: ws.map .str) (some 1) none = ws.map .str := cut_hi (i := 1) (by simp)
      rw [o_slL, ec, sat_cons, sat_c, sat_nil]
      refine ⟨rfl, read_words_ok emb_int (g := numP) F.n (fun x mx s Q q => ?_) (by simp only [List.length_cons] at hc; omega) ?_⟩
      · exact number_ok (parts_len e (List.mem_cons_of_mem _ mx) hz) (by rw [optI_A]; exact q)
      · cases hs : seqP (ws.map numP) with
        | none =>
          rw [hs] at k
          show SatS _ _ _
          rw [ss_seq, ss_if, sat_or, sat_test, sat_bin, sat_var rfl, sat_c]
          show Sat (pIs .non .non st) _
          rw [o_isN, sat_truth, if_pos rfl, if_pos rfl, ss_ret, sat_c]
          exact k
        | some as =>
          have hl := seqP_len hs
          rw [List.length_map] at hl
          rw [hs] at k
          have k : Q (if maxL as = 0 then .non else .tup (as.map .int)) st := k
          show SatS _ _ _
          rw [ss_seq, ss_if, sat_or, sat_test, sat_bin, sat_var rfl, sat_c]
          show Sat (pIs (.tup (as.map .int)) .non st) _
          rw [o_isT, sat_truth, if_neg (by simp), sat_test, sat_bin, sat_args, sat_cons, sat_var (v := .tup (as.map .int)) rfl, sat_nil, sat_one, o_max (fun z => by rw [z] at hl; simp at hl; omega), sat_c, o_eqI, sat_truth]
          by_cases hm : maxL as = 0
          · rw [if_pos hm] at k
            rw [decide_eq_true hm, if_pos rfl, ss_ret, sat_c]
            exact k
          · rw [if_neg hm] at k
            rw [decide_eq_false hm, if_neg (by simp), ss_nil, ss_ret, sat_var (v := .tup (as.map .int)) rfl]
            exact k
  · rw [if_neg (fun z => h z.1)] at k
    rw [decide_eq_false h, Bool.not_false, if_pos rfl, if_pos rfl, ss_ret, sat_c]
    exact k
theorem own_lot_ok {line : Str} {st : Store} {Q : PV → Store → Prop} (hz : line.length ≤ 100000) (k : Q (lotP line) st) : Sat (m_law_own_lot [.str line] st) Q := by
  refine sat_body ?_
  unfold f_law_own_lot
  simp only [List.map_cons, List.map_nil, List.length_cons, List.length_nil, Nat.reduceAdd, Nat.reduceSub, List.reduceReplicate, List.cons_append, List.nil_append]
  rw [ss_seq, ss_set, sat_meth, sat_var rfl]
  refine ⟨rfl, ?_⟩
  rw [sat_cons, sat_c, sat_nil, o_split hz space_ne]
  obtain ⟨w, ws, e⟩ := split_space (x := line)
  have hc := split_count (x := line) (y := " ")
  unfold lotP at k
  rw [e] at k hc ⊢
  have k : Q (if w = "lot" ∧ ws ≠ [] then lotQ (seqP (ws.map numP)) else .non) st := k
  have ec : cutP (PV.str w :: ws.map .str) (some 1) none = ws.map .str := cut_hi (i := 1) (by simp)
  rw [List.map_cons, ss_seq, ss_set, sat_args, sat_cons, sat_comp, sat_iVal, sat_sl, sat_var rfl, sat_oSome, sat_c]
  show Sat (oNone _ st) _
  rw [sat_oNone]
  show Sat (pSl (.lst (PV.str w :: ws.map .str)) (some 1) none st) _
  rw [o_slL, ec, o_itL]
  refine comp_map (as := ws) (f := PV.str) (g := fun w => optA PV.int (numP w)) (by simp [wipeP]) (by simp only [List.length_cons] at hc; omega) (fun x mx => det fun Q k => by
    rw [sat_call, sat_cons, sat_var (v := .str x) (by simp [wipeP]), sat_nil]
    exact ⟨rfl, own_number_ok (parts_len e (List.mem_cons_of_mem _ mx) hz) (by rw [optI_A]; exact k)⟩) ?_ _ trivial
  have em : ws.map (fun w => optA PV.int (numP w)) = (ws.map numP).map (optA PV.int) := by simp
  rw [o_finF, em, sat_nil, sat_one, o_tupL, ss_seq, ss_if, sat_or, sat_test, sat_bin, sat_bin, sat_var rfl, sat_c, o_ixL, ixW_0, sat_c, o_neS, sat_truth]
  by_cases h : w = "lot"
  · rw [decide_eq_true h, Bool.not_true, if_neg (by simp), sat_or, sat_test, sat_bin, sat_args, sat_cons, sat_var rfl, sat_nil, sat_one, o_lenT, sat_c, o_eqI, sat_truth]
    by_cases h2 : ws = []
    · rw [if_neg (fun z => z.2 h2)] at k
      rw [decide_eq_true (by rw [h2]; decide), if_pos rfl, if_pos rfl, ss_ret, sat_c]
      exact k
    · have hp := List.length_pos_iff.mpr h2
      rw [if_pos ⟨h, h2⟩] at k
      rw [decide_eq_false (by simp only [List.length_map]; omega), if_neg (by simp), sat_or, sat_test, sat_bin, sat_c, sat_var rfl, o_noneIn emb_int (b := true) rfl, sat_truth]
      cases hs : seqP (ws.map numP) with
      | none =>
        rw [hs] at k
        rw [Option.isNone_none, if_pos rfl, if_pos rfl, ss_ret, sat_c]
        exact k
      | some as =>
        have hl := seqP_len hs
        rw [List.length_map] at hl
        rw [hs] at k
        have k : Q (if maxL as = 0 then .non else .tup (as.map .int)) st := k
        rw [Option.isNone_some, if_neg (by simp), sat_test, sat_bin, sat_args, sat_cons, sat_var rfl, sat_nil, sat_one, (seqP_some PV.int hs).1, o_max (fun z => by rw [z] at hl; simp at hl; omega), sat_c, o_eqI, sat_truth]
        by_cases hm : maxL as = 0
        · rw [if_pos hm] at k
          rw [decide_eq_true hm, if_pos rfl, ss_ret, sat_c]
          exact k
        · rw [if_neg hm] at k
          rw [decide_eq_false hm, if_neg (by simp), ss_nil, ss_ret, sat_var rfl]
          exact k
  · rw [if_neg (fun z => h z.1)] at k
    rw [decide_eq_false h, Bool.not_false, if_pos rfl, if_pos rfl, ss_ret, sat_c]
    exact k
/-! ### a gain line -/
structure GLine where
  n : Str
  a : Int
  b : Int
def GLine.pair (g : GLine) : PV := .tup [.int g.a, .int g.b]
def GLine.pv (g : GLine) : PV := .tup [.str g.n, g.pair]
def gainQ (b : Str) : Option Int → Option Int → Option GLine
  | some x, some y => some ⟨b, x, y⟩
  | _, _ => none
def gainP (line : Str) : Option GLine := match Txt.split line " " with
  | [a, b, c, d] => if a = "gain" ∧ isNameP b = true then gainQ b (intP c) (intP d) else none
  | _ => none
def optG : Option GLine → PV
  | some g => g.pv
  | none => .non
theorem gainP_no {line : Str} (h : (Txt.split line " ").length ≠ 4) : gainP line = none := by
  unfold gainP
  split
  · rename_i e; rw [e] at h; simp at h
  · rfl
theorem isName_short {z : Str} (h : isNameP z = true) : z.length ≤ 12 := by
  unfold isNameP at h
  simp only [Bool.and_eq_true, decide_eq_true_eq] at h
  omega
theorem gain_head {V : Fv} {line : Str} {st : Store} {N : PEnv → Store → Prop} {Q : PV → Store → Prop} {rest : SM} {m : List PV → Store → Res PV} (hz : line.length ≤ 100000) (k0 : gainP line = none → Q .non st)
    (hm : ∀ (z : Str) (s : Store) (Q : PV → Store → Prop), z.length ≤ 100000 → Q (.bl (isNameP z)) s → Sat (m [.str z] s) Q)
    (k : ∀ b c d, Txt.split line " " = [("gain" : Str), b, c, d] → isNameP b = true → b.length ≤ 100000 → c.length ≤ 100000 → d.length ≤ 100000 → SatS (rest [some (.str line), some (.lst [.str "gain", .str b, .str c, .str d]), none] st) N Q) :
    SatS (sSeq (sSet 1 (eMeth isStrP pSplit (eVar 0) (aCons (eC (.str " ")) aNil)))
    (sSeq (sIf (tOrM (eTest (eBin pNe (eArgs (one pLen) (aCons (eVar 1) aNil)) (eC (.int 4)))) (tOrM (eTest (eBin pNe (eBin pIx (eVar 1) (eC (.int 0))) (eC (.str "gain")))) (tNotM (eTest (eCall 1 m (aCons (eBin pIx (eVar 1) (eC (.int 1))) aNil)))))) (sRet (eC .non)) sNil) rest) [some (.str line), none, none] st) N Q := by
  rw [ss_seq, ss_set, sat_meth, sat_var rfl]
  refine ⟨rfl, ?_⟩
  rw [sat_cons, sat_c, sat_nil, o_split hz space_ne]
  rw [ss_seq, ss_if, sat_or, sat_test, sat_bin, sat_args, sat_cons, sat_var rfl, sat_nil, sat_one, o_lenL, sat_c, o_neI, sat_truth, List.length_map]
  by_cases h4 : (Txt.split line " ").length = 4
  · cases e : Txt.split line " " with
    | nil => rw [e] at h4; simp at h4
    | cons a r =>
      match r, e with
      | [b, c, d], e =>
        rw [decide_eq_true (by simp), Bool.not_true, if_neg (by simp)]
        simp only [List.map_cons, List.map_nil]
        rw [sat_or, sat_test, sat_bin, sat_bin, sat_var rfl, sat_c, o_ixL, ixW_0, sat_c, o_neS, sat_truth]
        have hG : gainP line = if a = "gain" ∧ isNameP b = true then gainQ b (intP c) (intP d) else none := by unfold gainP; rw [e]
        by_cases ha : a = "gain"
        · subst ha
          rw [decide_eq_true rfl, Bool.not_true, if_neg (by simp), sat_not, sat_test, sat_call, sat_cons, sat_bin, sat_var rfl, sat_c, o_ixL, ixW_1, sat_nil]
          refine ⟨rfl, hm b _ _ (parts_len e (by simp) hz) ?_⟩
          rw [sat_truth]
          cases hn : isNameP b with
          | true =>
            rw [Bool.not_true, if_neg (by simp), ss_nil]
            exact k b c d e hn (parts_len e (by simp) hz) (parts_len e (by simp) hz) (parts_len e (by simp) hz)
          | false =>
            rw [Bool.not_false, if_pos rfl, ss_ret, sat_c]
            exact k0 (by rw [hG, hn, if_neg (by simp)])
        · rw [decide_eq_false ha, Bool.not_false, if_pos rfl, if_pos rfl, ss_ret, sat_c]
          exact k0 (by rw [hG, if_neg (fun z => ha z.1)])
      | [], e => rw [e] at h4; simp at h4
      | [_], e => rw [e] at h4; simp at h4
      | [_, _], e => rw [e] at h4; simp at h4
      | _ :: _ :: _ :: _ :: _, e => rw [e] at h4; simp at h4
  · rw [decide_eq_false (by omega), Bool.not_false, if_pos rfl, if_pos rfl, ss_ret, sat_c]
    exact k0 (gainP_no h4)
theorem read_gain_ok {V : Fv} (F : FvOk V) {line : Str} {st : Store} {Q : PV → Store → Prop} (hz : line.length ≤ 100000) (k : Q (optG (gainP line)) st) : Sat (m_read_gain V [.str line] st) Q := by
  refine sat_body ?_
  unfold f_read_gain
  simp only [List.map_cons, List.map_nil, List.length_cons, List.length_nil, Nat.reduceAdd, Nat.reduceSub, List.reduceReplicate, List.cons_append, List.nil_append]
  refine gain_head (V := V) hz (fun h => by rw [h] at k; exact k) (fun z s Q hz q => is_name_ok hz q) fun b c d e hn hb hc hd => ?_
  have hG : gainP line = gainQ b (intP c) (intP d) := by unfold gainP; rw [e]; exact if_pos ⟨rfl, hn⟩
  rw [hG] at k
  rw [ss_seq, ss_set, sat_call, sat_cons, sat_sl, sat_var rfl, sat_oSome, sat_c]
  show Sat (oNone _ st) _
  rw [sat_oNone]
  show Sat (pSl (.lst [PV.str "gain", .str b, .str c, .str d]) (some 2) none st) _
  have ec : cutP [PV.str "gain", .str b, .str c, .str d] (some 2) none = ([c, d] : List Str).map .str := cut_hi (i := 2) (by simp)
  rw [o_slL, ec, sat_cons, sat_c, sat_nil]
  refine ⟨rfl, read_words_ok emb_int (g := intP) F.i (fun x mx s Q q => ?_) (by simp) ?_⟩
  · refine integer_ok ?_ (by rw [optI_A]; exact q)
    simp only [List.mem_cons, List.not_mem_nil, or_false] at mx
    rcases mx with rfl | rfl
    · exact hc
    · exact hd
  show SatS _ _ _
  simp only [List.map_cons, List.map_nil]
  have no : gainQ b (intP c) (intP d) = none → seqP [intP c, intP d] = none := fun h => by
    cases h1 : intP c with
    | none => rfl
    | some x =>
      cases h2 : intP d with
      | none => rfl
      | some y => rw [h1, h2] at h; cases h
  cases hq : gainQ b (intP c) (intP d) with
  | none =>
    rw [hq] at k
    rw [no hq, ss_seq, ss_if, sat_test, sat_bin, sat_var rfl, sat_c]
    show Sat (pIs .non .non st) _
    rw [o_isN, sat_truth, if_pos rfl, ss_ret, sat_c]
    exact k
  | some g =>
    cases h1 : intP c with
    | none => rw [h1] at hq; cases hq
    | some x =>
      cases h2 : intP d with
      | none => rw [h1, h2] at hq; cases hq
      | some y =>
        rw [h1, h2] at hq
        cases hq
        have e2 : wordsP PV.int (seqP [some x, some y]) = .tup [.int x, .int y] := rfl
        rw [hG.symm.trans (by rw [hG, h1, h2]; rfl : gainP line = some ⟨b, x, y⟩)] at k
        rw [e2, ss_seq, ss_if, sat_test, sat_bin, sat_var rfl, sat_c, o_isT, sat_truth, if_neg (by simp), ss_nil, ss_ret, sat_args, sat_cons, sat_bin, sat_var rfl, sat_c, o_ixL, ixW_1, sat_cons, sat_var rfl, sat_nil, sat_tup]
        exact ⟨sl2, k⟩
theorem own_gain_ok {line : Str} {st : Store} {Q : PV → Store → Prop} (hz : line.length ≤ 100000) (k : Q (optG (gainP line)) st) : Sat (m_law_own_gain [.str line] st) Q := by
  refine sat_body ?_
  unfold f_law_own_gain
  simp only [List.map_cons, List.map_nil, List.length_cons, List.length_nil, Nat.reduceAdd, Nat.reduceSub, List.reduceReplicate, List.cons_append, List.nil_append]
  refine gain_head (V := ⟨fun _ => none, 0, 0, 0⟩) hz (fun h => by rw [h] at k; exact k) (fun z s Q hz q => law_is_name_ok hz q) fun b c d e hn hb hc hd => ?_
  have hG : gainP line = gainQ b (intP c) (intP d) := by unfold gainP; rw [e]; exact if_pos ⟨rfl, hn⟩
  rw [hG] at k
  rw [ss_seq, ss_set, sat_args, sat_cons, sat_call, sat_cons, sat_bin, sat_var rfl, sat_c, o_ixL, ixW_2, sat_nil]
  refine ⟨rfl, own_integer_ok hc ?_⟩
  rw [sat_cons, sat_call, sat_cons, sat_bin, sat_var rfl, sat_c, o_ixL]
  refine ixW_of (k := 3) (h := rfl) ?_
  rw [sat_nil]
  refine ⟨rfl, own_integer_ok hd ?_⟩
  rw [sat_nil, sat_tup]
  refine ⟨sl2, ?_⟩
  rw [ss_seq, ss_if, sat_or, sat_test, sat_bin, sat_bin, sat_var rfl, sat_c, o_ixT, ixW_0, sat_c, optI_is, sat_truth]
  cases h1 : intP c with
  | none =>
    rw [h1] at k
    rw [Option.isNone_none, if_pos rfl, if_pos rfl, ss_ret, sat_c]
    exact k
  | some x =>
    rw [Option.isNone_some, if_neg (by simp), sat_test, sat_bin, sat_bin, sat_var rfl, sat_c, o_ixT, ixW_1, sat_c, optI_is, sat_truth]
    cases h2 : intP d with
    | none =>
      rw [h1, h2] at k
      rw [Option.isNone_none, if_pos rfl, ss_ret, sat_c]
      exact k
    | some y =>
      rw [h1, h2] at k
      rw [Option.isNone_some, if_neg (by simp), ss_nil, ss_ret, sat_args, sat_cons, sat_bin, sat_var rfl, sat_c, o_ixL, ixW_1, sat_cons, sat_var rfl, sat_nil, sat_tup]
      exact ⟨sl2, k⟩
end PL
/-! PL, part KF: a text of gains, read line by line. -/
namespace PL
open PySem PySem.Spec PyProof.Rows L2 TL
/-! ### a block that raises -/
inductive SatF (r : SR) (n : Str) (fs : Option (List (Str × PV))) (P : PEnv → Store → Prop) : Prop where
  | mk (env : PEnv) (st : Store) (e : r = .err env n fs st) (p : P env st)
section
variable {f g : SM} {c : TM} {env : PEnv} {st : Store} {n : Str} {fl : Option (List (Str × PV))} {P : PEnv → Store → Prop}
theorem sf_seq (h : SatS (f env st) (fun e s => SatF (g e s) n fl P) fun _ _ => False) : SatF (sSeq f g env st) n fl P := by
  rcases h with ⟨e, s, h1, ⟨e2, s2, h2, p⟩⟩ | ⟨v, s, h1, h2⟩
  · exact ⟨e2, s2, by unfold sSeq; rw [h1]; exact h2, p⟩
  · exact False.elim h2
theorem sf_first (h : SatF (f env st) n fl P) : SatF (sSeq f g env st) n fl P := by
  obtain ⟨e, s, h1, p⟩ := h
  exact ⟨e, s, by unfold sSeq; rw [h1], p⟩
theorem sf_if {b : Bool} (hc : Sat (c env st) fun b' s => b' = b ∧ SatF (if b = true then f env s else g env s) n fl P) : SatF (sIf c f g env st) n fl P := by
  obtain ⟨b', s, h1, rfl, ⟨e2, s2, h2, p⟩⟩ := hc
  exact ⟨e2, s2, by unfold sIf; rw [h1]; exact h2, p⟩
theorem sf_raise {cd : PV → Bool} {x fld : Str} {fe : EM} {v : PV} (h : Sat (fe env st) fun w s => w = v ∧ cd v = true ∧ P env s) : SatF (sRaiseP cd x fld fe env st) x (some [(fld, v)]) P := by
  obtain ⟨w, s, h1, rfl, h2, p⟩ := h
  refine ⟨env, s, ?_, p⟩
  unfold sRaiseP
  rw [h1]
  show (if cd w = true then SR.err env x (some [(fld, w)]) s else .stuck) = _
  rw [if_pos h2]
theorem sf_forS {it : IM} {tg : Tg} {body : SM} (h : Sat (it env st) fun p s => SatF (sForL tg body p.ok p.xs env s) n fl P) : SatF (sFor it tg body env st) n fl P := by
  obtain ⟨p, s, h1, ⟨e2, s2, h2, q⟩⟩ := h
  exact ⟨e2, s2, by unfold sFor; rw [h1]; exact h2, q⟩
theorem errF_body {k : Nat} {args : List PV} (h : SatF (f (args.map some ++ List.replicate (k - args.length) none) st) n fl P) : ∃ e s, runBody k f args st = .err n fl s ∧ P e s := by
  obtain ⟨e, s, h1, p⟩ := h
  exact ⟨e, s, by unfold runBody; rw [h1], p⟩
theorem sf_for {tg : Tg} {body : SM} {xs : List PV} {I : Nat → PEnv → Store → Prop} (ok : Store → Prop) (h0 : I 0 env st) (hok : ∀ i e s, I i e s → ok s) {j : Nat} (hj : j < xs.length)
    (hs : ∀ i v e s, i < j → xs[i]? = some v → I i e s → ∃ e', setTg tg v e = some e' ∧ SatS (body e' s) (I (i + 1)) fun _ _ => False)
    (he : ∀ v e s, xs[j]? = some v → I j e s → ∃ e', setTg tg v e = some e' ∧ SatF (body e' s) n fl P) : SatF (sForL tg body ok xs env st) n fl P := by
  have key : ∀ (m i : Nat) (e : PEnv) (s : Store), i + m = j → I i e s → SatF (sForL tg body ok (xs.drop i) e s) n fl P := by
    intro m
    induction m with
    | zero =>
      intro i e s hi hI
      have hi : i = j := by omega
      subst hi
      rw [List.drop_eq_getElem_cons hj]
      obtain ⟨e', h1, ⟨e2, s2, h2, p⟩⟩ := he _ e s (List.getElem?_eq_getElem hj) hI
      refine ⟨e2, s2, ?_, p⟩
      unfold sForL
      rw [if_pos (hok _ _ _ hI), h1]
      show (match body e' s with
        | .nx e s => sForL tg body ok _ e s
        | .ct e s => sForL tg body ok _ e s
        | .bk e s => .nx e s
        | .rt v s => .rt v s
        | .err e n fs s => .err e n fs s
        | .stuck => .stuck) = _
      rw [h2]
    | succ m ih =>
      intro i e s hi hI
      have hil : i < xs.length := by omega
      rw [List.drop_eq_getElem_cons hil]
      obtain ⟨e', h1, h2⟩ := hs i _ e s (by omega) (List.getElem?_eq_getElem hil) hI
      rcases h2 with ⟨e2, s2, h3, h4⟩ | ⟨v, s2, h3, h4⟩
      · obtain ⟨e5, s5, h5, p⟩ := ih (i + 1) e2 s2 (by omega) h4
        refine ⟨e5, s5, ?_, p⟩
        unfold sForL
        rw [if_pos (hok _ _ _ hI), h1]
        show (match body e' s with
          | .nx e s => sForL tg body ok _ e s
          | .ct e s => sForL tg body ok _ e s
          | .bk e s => .nx e s
          | .rt v s => .rt v s
          | .err e n fs s => .err e n fs s
          | .stuck => .stuck) = _
        rw [h3]
        exact h5
      · exact False.elim h4
  have := key j 0 env st (by omega) h0
  simpa using this
end
/-! ### the lines, plainly -/
def scan (last : Str) : List Str → List GLine × Bool
  | [] => ([], false)
  | l :: ls => match gainP l with
    | some g => if strLt last g.n = true then (g :: (scan g.n ls).1, (scan g.n ls).2) else ([], true)
    | none => ([], true)
/-- the last name ahead of the i-th -/
def lastOf (last : Str) (gs : List GLine) : Nat → Str
  | 0 => last
  | i + 1 => match gs[i]? with
    | some g => g.n
    | none => last
theorem scan_good : ∀ (ls : List Str) (last : Str) (i : Nat) (g : GLine), (scan last ls).1[i]? = some g → ∃ l, ls[i]? = some l ∧ gainP l = some g ∧ strLt (lastOf last (scan last ls).1 i) g.n = true
  | [], last, i, g, h => by simp [scan] at h
  | l :: ls, last, i, g, h => by
    unfold scan at h ⊢
    cases hg : gainP l with
    | none => rw [hg] at h; simp at h
    | some g0 =>
      rw [hg] at h
      simp only at h ⊢
      by_cases hl : strLt last g0.n = true
      · rw [if_pos hl] at h ⊢
        cases i with
        | zero =>
          simp only [List.getElem?_cons_zero, Option.some.injEq] at h
          subst h
          exact ⟨l, rfl, hg, hl⟩
        | succ i =>
          simp only [List.getElem?_cons_succ] at h
          obtain ⟨l', h1, h2, h3⟩ := scan_good ls g0.n i g h
          refine ⟨l', by simpa using h1, h2, ?_⟩
          cases i with
          | zero => simpa [lastOf] using h3
          | succ i =>
            simp only [lastOf, List.getElem?_cons_succ] at h3 ⊢
            cases q : (scan g0.n ls).1[i]? with
            | none =>
              have h9 : i < (scan g0.n ls).1.length := by have := (List.getElem?_eq_some_iff.mp h).1; omega
              rw [List.getElem?_eq_getElem h9] at q; cases q
            | some g' => rw [q] at h3; exact h3
      · rw [if_neg hl] at h
        simp at h
theorem scan_len : ∀ (ls : List Str) (last : Str), (scan last ls).1.length ≤ ls.length ∧ ((scan last ls).2 = false → (scan last ls).1.length = ls.length) ∧
    ((scan last ls).2 = true → ∃ l, ls[(scan last ls).1.length]? = some l ∧ ∀ g, gainP l = some g → strLt (lastOf last (scan last ls).1 (scan last ls).1.length) g.n = false)
  | [], last => by simp [scan]
  | l :: ls, last => by
    unfold scan
    cases hg : gainP l with
    | none => exact ⟨by simp, by simp, fun _ => ⟨l, by simp, fun g h => by rw [hg] at h; cases h⟩⟩
    | some g0 =>
      simp only
      by_cases hl : strLt last g0.n = true
      · rw [if_pos hl]
        obtain ⟨h1, h2, h3⟩ := scan_len ls g0.n
        refine ⟨by simp only [List.length_cons]; omega, fun h => by simp only [List.length_cons]; have := h2 h; omega, fun h => ?_⟩
        obtain ⟨l', h4, h5⟩ := h3 h
        refine ⟨l', by simpa using h4, fun g hg' => ?_⟩
        have := h5 g hg'
        cases q : (scan g0.n ls).1.length with
        | zero => rw [q] at this; simpa [lastOf, q] using this
        | succ k =>
          rw [q] at this
          simp only [List.length_cons, q, lastOf, List.getElem?_cons_succ] at this ⊢
          cases q2 : (scan g0.n ls).1[k]? with
          | none =>
            have h9 : k < (scan g0.n ls).1.length := by omega
            rw [List.getElem?_eq_getElem h9] at q2; cases q2
          | some g' => rw [q2] at this; exact this
      · rw [if_neg hl]
        refine ⟨by simp, by simp, fun _ => ⟨l, by simp, fun g h => ?_⟩⟩
        rw [hg] at h
        cases h
        simpa [lastOf] using hl
theorem strLt_iff {x y : Str} : strLt x y = true ↔ x.cps.toList < y.cps.toList := by
  unfold strLt
  rw [PySem.W.dataLt_str, decide_eq_true_eq]
theorem strLt_trans {x y z : Str} (h : strLt x y = true) (h' : strLt y z = true) : strLt x z = true := strLt_iff.mpr (List.lt_trans (strLt_iff.mp h) (strLt_iff.mp h'))
theorem strLt_ne {x y : Str} (h : strLt x y = true) : x ≠ y := fun e => by
  subst e
  exact List.lt_irrefl _ (strLt_iff.mp h)
theorem scan_asc : ∀ (ls : List Str) (last : Str), (∀ g ∈ (scan last ls).1, strLt last g.n = true) ∧ (scan last ls).1.Pairwise fun a b => strLt a.n b.n = true
  | [], last => by simp [scan]
  | l :: ls, last => by
    unfold scan
    cases hg : gainP l with
    | none => simp
    | some g0 =>
      simp only
      by_cases hl : strLt last g0.n = true
      · rw [if_pos hl]
        obtain ⟨h1, h2⟩ := scan_asc ls g0.n
        refine ⟨fun g m => ?_, List.pairwise_cons.mpr ⟨h1, h2⟩⟩
        rcases List.mem_cons.mp m with rfl | m
        · exact hl
        · exact strLt_trans hl (h1 g m)
      · rw [if_neg hl]; simp
def gkv (g : GLine) : Key × PV := (.inr g.n, g.pair)
theorem dput_new {kvs : List (Key × PV)} {k : Key} {x : PV} (h : ∀ p ∈ kvs, p.1 ≠ k) : dput kvs k x = kvs ++ [(k, x)] := by
  induction kvs with
  | nil => rfl
  | cons p r ih =>
    obtain ⟨j, y⟩ := p
    unfold dput
    rw [if_neg (h (j, y) List.mem_cons_self), ih fun p m => h p (List.mem_cons_of_mem _ m)]
    rfl
theorem asc_put {gs : List GLine} (h : gs.Pairwise fun a b => strLt a.n b.n = true) {i : Nat} {g : GLine} (hg : gs[i]? = some g) : dput ((gs.take i).map gkv) (.inr g.n) g.pair = (gs.take (i + 1)).map gkv := by
  rw [dput_new, List.take_add_one, hg, List.map_append]
  · rfl
  · intro p m e
    obtain ⟨g', m', rfl⟩ := List.mem_map.mp m
    have hi := (List.getElem?_eq_some_iff.mp hg).1
    have e1 : gs = gs.take i ++ gs.drop i := (List.take_append_drop i gs).symm
    rw [e1, List.pairwise_append] at h
    have mg : g ∈ gs.drop i := by
      rw [List.drop_eq_getElem_cons hi]
      have : gs[i] = g := by rw [List.getElem?_eq_getElem hi] at hg; exact Option.some.inj hg
      rw [this]; exact List.mem_cons_self
    have := h.2.2 g' m' g mg
    have e : (Sum.inr g'.n : Key) = .inr g.n := e
    injection e with e
    exact strLt_ne this e
end PL
/-! PL, part KG: read_gains. -/
namespace PL
open PySem PySem.Spec PyProof.Rows L2 TL
theorem o_enL {xs : List PV} {st : Store} {Qx : Itms → Store → Prop} : Sat (pEnum (.lst xs) st) Qx = Qx ⟨enums xs, none⟩ st := sat_of rfl
theorem o_ixDT {xs : List PV} {w : PV} {st : Store} {Q : PV → Store → Prop} : Sat (pIxD (.tup xs) w st) Q = Sat (pIx (.tup xs) w st) Q := rfl
theorem o_setD {l : Nat} {kvs : List (Key × PV)} {i v : PV} {k : Key} {st : Store} {Q : Unit → Store → Prop} (h : st[l]? = some (.dic kvs)) (hk : keyOf i = some k) (hl : kvs.length < 1000000) : Sat (pSetD (.loc l) i v st) Q = Q () (st.set l (.dic (dput kvs k v))) := by
  have : pSetD (.loc l) i v st = .ok () (st.set l (.dic (dput kvs k v))) := by
    unfold pSetD
    simp only [h, hk]
    rw [if_pos (by rw [sizeLine_eq]; omega)]
  rw [this, sat_ok]
theorem set_end {st : Store} {a b : PO} : (st ++ [a]).set st.length b = st ++ [b] := by
  rw [List.set_append_right _ _ (Nat.le_refl _)]; simp
theorem at_end {st : Store} {a : PO} : (st ++ [a])[st.length]? = some a := by simp
theorem strInt_len {n k : Nat} (hk : 0 < k) (h : n < 10 ^ k) : (strInt (n : Int)).length ≤ k := by
  have e : tl (strInt (n : Int)) = numL n := tl_num n
  have e2 : (tl (strInt (n : Int))).length = (strInt (n : Int)).length := Array.length_toList
  rw [← e2, e]
  exact numL_len hk h
theorem cInt_small {n : Nat} (h : n < 1000000) : cInt (.int (n : Int)) = true := by
  show decide (((n : Int)).natAbs.log2 < 1920 ∧ (toString (n : Int) : Str).length ≤ 1000) = true
  refine decide_eq_true ⟨?_, ?_⟩
  · rw [Int.natAbs_natCast]
    by_cases h0 : n = 0
    · subst h0; decide
    · exact Nat.lt_trans ((Nat.log2_lt h0).mpr (show n < 2 ^ 20 by omega)) (by decide)
  · have : (strInt (n : Int)).length ≤ 6 := strInt_len (by decide) (by omega)
    show (strInt (n : Int)).length ≤ 1000
    omega
theorem line_ne : (("\n" : Str).length == 0) = false := by decide +kernel
section
variable {V : Fv} {text : Str} {st : Store}
/-- what stands ahead of the i-th line -/
def GI (text : Str) (st : Store) (gs : List GLine) (i : Nat) (e : PEnv) (s : Store) : Prop := (∃ a b c, e = ([some (PV.str text), some (PV.loc st.length), some (PV.str (lastOf "" gs i)), a, b, c] : PEnv)) ∧ s = st ++ [.dic ((gs.take i).map gkv)]
noncomputable def gBody (V : Fv) : SM :=
    (sSeq (sSet 5 (eCall 1 (m_read_gain V) (aCons (eVar 4) aNil)))
    (sSeq (sIf (tOrM (eTest (eBin pIs (eVar 5) (eC .non))) (tNotM (eTest (eBin pLt (eVar 2) (eBin pIxD (eVar 5) (eC (.int 0))))))) (sRaiseP cInt "BadText" "line" (eBin pAdd (eVar 3) (eC (.int 1)))) sNil)
    (sSeq (sSet 2 (eBin pIxD (eVar 5) (eC (.int 0))))
    (sSub pSetD (eVar 1) (eVar 2) (eBin pIxD (eVar 5) (eC (.int 1)))))))
theorem g_step (F : FvOk V) {ls : List Str} (hl : ∀ l ∈ ls, l.length ≤ 100000) (hn : ls.length ≤ 200000) {i : Nat} {v : PV} {e : PEnv} {s : Store} (hi : i < (scan "" ls).1.length) (hv : (enums (ls.map .str))[i]? = some v) (hI : GI text st (scan "" ls).1 i e s) :
    ∃ e', setTg (.tup [3, 4]) v e = some e' ∧ ∀ (R : PV → Store → Prop), SatS (gBody V e' s) (GI text st (scan "" ls).1 (i + 1)) R := by
  obtain ⟨⟨a, b, c, rfl⟩, rfl⟩ := hI
  have hg := List.getElem?_eq_getElem hi
  obtain ⟨l, h1, h2, h3⟩ := scan_good ls "" i _ hg
  have hasc := (scan_asc ls "").2
  have hsl := (scan_len ls "").1
  generalize hgs : (scan "" ls).1 = gs at *
  have hv2 : (enums (ls.map .str))[i]? = some (.tup [.int (i : Nat), .str l]) := enums_get (by rw [List.getElem?_map, h1]; rfl)
  rw [hv2] at hv
  cases hv
  refine ⟨([some (PV.str text), some (PV.loc st.length), some (PV.str (lastOf "" gs i)), (some (.int (i : Nat))), (some (.str l)), c] : PEnv), rfl, fun R => ?_⟩
  unfold gBody
  rw [ss_seq, ss_set, sat_call, sat_cons, sat_var rfl, sat_nil]
  refine ⟨rfl, read_gain_ok F (hl l (List.mem_of_getElem? h1)) ?_⟩
  rw [h2]
  show SatS _ _ _
  have hdic : ∀ (Q : PV → Store → Prop) (s : Store), Sat (pIxD (optG (some gs[i])) (.int 0) s) Q = Q (.str gs[i].n) s := fun Q s => by
    show Sat (pIxD (.tup [.str gs[i].n, gs[i].pair]) (.int 0) s) Q = _
    rw [o_ixDT, o_ixT, ixW_0]
  have hdic1 : ∀ (Q : PV → Store → Prop) (s : Store), Sat (pIxD (optG (some gs[i])) (.int 1) s) Q = Q gs[i].pair s := fun Q s => by
    show Sat (pIxD (.tup [.str gs[i].n, gs[i].pair]) (.int 1) s) Q = _
    rw [o_ixDT, o_ixT, ixW_1]
  rw [ss_seq, ss_if, sat_or, sat_test, sat_bin, sat_var rfl, sat_c]
  show Sat (pIs (.tup [.str gs[i].n, gs[i].pair]) .non _) _
  rw [o_isT, sat_truth, if_neg (by simp), sat_not, sat_test, sat_bin, sat_var rfl, sat_bin, sat_var (v := optG (some gs[i])) rfl, sat_c, hdic, o_ltS, h3, sat_truth, Bool.not_true, if_neg (by simp), ss_nil]
  rw [ss_seq, ss_set, sat_bin, sat_var (v := optG (some gs[i])) rfl, sat_c, hdic, ss_sub, sat_bin, sat_var (v := optG (some gs[i])) rfl, sat_c, hdic1, sat_var rfl, sat_var rfl]
  rw [o_setD at_end (k := .inr gs[i].n) rfl (by rw [List.length_map, List.length_take]; omega), set_end]
  have elast : lastOf "" gs (i + 1) = gs[i].n := by
    show (match gs[i]? with | some g => g.n | none => ("" : Str)) = _
    rw [hg]
  refine ⟨⟨some (.int (i : Nat)), some (.str l), some (optG (some gs[i])), ?_⟩, ?_⟩
  · rw [elast]; rfl
  · rw [asc_put hasc hg]
theorem read_gains_nil {Q : PV → Store → Prop} (k : Q (.loc st.length) (st ++ [.dic []])) : Sat (m_read_gains V [.str ""] st) Q := by
  refine sat_body ?_
  unfold f_read_gains
  simp only [List.map_cons, List.map_nil, List.length_cons, List.length_nil, Nat.reduceAdd, Nat.reduceSub, List.reduceReplicate, List.cons_append, List.nil_append]
  rw [ss_seq, ss_set]
  show Sat (Res.ok (PV.loc st.length) (st ++ [.dic []])) _
  rw [sat_ok, ss_seq, ss_if, sat_test, sat_bin, sat_var rfl, sat_c, o_eqS, decide_eq_true rfl, sat_truth, if_pos rfl, ss_ret, sat_var rfl]
  exact k
theorem read_gains_ok (F : FvOk V) {Q : PV → Store → Prop} (ht : text ≠ "") (hz : text.length ≤ 100000) (hs : (scan "" (Txt.split text "\n")).2 = false) (k : Q (.loc st.length) (st ++ [.dic ((scan "" (Txt.split text "\n")).1.map gkv)])) : Sat (m_read_gains V [.str text] st) Q := by
  refine sat_body ?_
  unfold f_read_gains
  simp only [List.map_cons, List.map_nil, List.length_cons, List.length_nil, Nat.reduceAdd, Nat.reduceSub, List.reduceReplicate, List.cons_append, List.nil_append]
  rw [ss_seq, ss_set]
  show Sat (Res.ok (PV.loc st.length) (st ++ [.dic []])) _
  rw [sat_ok, ss_seq, ss_if, sat_test, sat_bin, sat_var rfl, sat_c, o_eqS, decide_eq_false ht, sat_truth, if_neg (by simp), ss_nil, ss_seq, ss_set, sat_c]
  have hl : ∀ l ∈ Txt.split text "\n", l.length ≤ 100000 := fun l m => parts_len rfl m hz
  have hc := split_count (x := text) (y := "\n")
  have hsl := scan_len (Txt.split text "\n") ""
  rw [ss_seq, ss_for, sat_iEnum, sat_meth, sat_var rfl]
  refine ⟨rfl, ?_⟩
  rw [sat_cons, sat_c, sat_nil, o_split hz line_ne, o_enL]
  refine for_invN (k := 0) (fun i e s => GI text st (scan "" (Txt.split text "\n")).1 i e s) ⟨⟨_, _, _, rfl⟩, rfl⟩ ?_ ?_
  · intro i v e s hv hI
    rw [Nat.zero_add] at hI ⊢
    have hi : i < (scan "" (Txt.split text "\n")).1.length := by
      have h := (List.getElem?_eq_some_iff.mp hv).1
      have : (enums ((Txt.split text "\n").map PV.str)).length = (Txt.split text "\n").length := by unfold enums; simp
      rw [this] at h
      have := hsl.2.1 hs
      omega
    obtain ⟨e', h1, h2⟩ := g_step F hl (by omega) hi hv hI
    exact ⟨e', h1, h2 _⟩
  · rintro e s ⟨⟨a, b, c, rfl⟩, rfl⟩
    rw [ss_ret, sat_var rfl]
    have e1 : (enums ((Txt.split text "\n").map PV.str)).length = (scan "" (Txt.split text "\n")).1.length := by
      have := hsl.2.1 hs
      unfold enums; simp; omega
    rw [e1, Nat.zero_add, List.take_length]
    exact k
theorem read_gains_err (F : FvOk V) (ht : text ≠ "") (hz : text.length ≤ 100000) (hs : (scan "" (Txt.split text "\n")).2 = true) :
    ∃ o, m_read_gains V [.str text] st = .err "BadText" (some [("line", .int (((scan "" (Txt.split text "\n")).1.length : Nat) + 1))]) (st ++ [o]) := by
  have hl : ∀ l ∈ Txt.split text "\n", l.length ≤ 100000 := fun l m => parts_len rfl m hz
  have hc := split_count (x := text) (y := "\n")
  have hsl := scan_len (Txt.split text "\n") ""
  obtain ⟨l, h1, h2⟩ := hsl.2.2 hs
  have key : SatF (f_read_gains V ([PV.str text].map some ++ List.replicate (6 - 1) none) st) "BadText" (some [("line", .int (((scan "" (Txt.split text "\n")).1.length : Nat) + 1))]) fun _ s => ∃ o, s = st ++ [o] := by
    unfold f_read_gains
    simp only [List.map_cons, List.map_nil, List.length_cons, List.length_nil, Nat.reduceAdd, Nat.reduceSub, List.reduceReplicate, List.cons_append, List.nil_append]
    refine sf_seq ?_
    rw [ss_set]
    show Sat (Res.ok (PV.loc st.length) (st ++ [.dic []])) _
    rw [sat_ok]
    refine sf_seq ?_
    rw [ss_if, sat_test, sat_bin, sat_var rfl, sat_c, o_eqS, decide_eq_false ht, sat_truth, if_neg (by simp), ss_nil]
    refine sf_seq ?_
    rw [ss_set, sat_c]
    refine sf_first (sf_forS ?_)
    rw [sat_iEnum, sat_meth, sat_var rfl]
    refine ⟨rfl, ?_⟩
    rw [sat_cons, sat_c, sat_nil, o_split hz line_ne, o_enL]
    have hj := (List.getElem?_eq_some_iff.mp h1).1
    refine sf_for (I := fun i e s => GI text st (scan "" (Txt.split text "\n")).1 i e s) _ ⟨⟨_, _, _, rfl⟩, rfl⟩ (by intros; exact True.intro) (j := (scan "" (Txt.split text "\n")).1.length) (by unfold enums; simpa using hj) ?_ ?_
    · intro i v e s hi hv hI
      obtain ⟨e', h3, h4⟩ := g_step F hl (by omega) hi hv hI
      exact ⟨e', h3, h4 _⟩
    · rintro v e s hv ⟨⟨a, b, c, rfl⟩, rfl⟩
      have hv2 : (enums ((Txt.split text "\n").map .str))[(scan "" (Txt.split text "\n")).1.length]? = some (.tup [.int (((scan "" (Txt.split text "\n")).1.length : Nat)), .str l]) := enums_get (by rw [List.getElem?_map, h1]; rfl)
      rw [hv2] at hv
      cases hv
      generalize hgs : (scan "" (Txt.split text "\n")).1 = gs at *
      refine ⟨([some (PV.str text), some (PV.loc st.length), some (PV.str (lastOf "" gs gs.length)), (some (.int (gs.length : Nat))), (some (.str l)), c] : PEnv), rfl, ?_⟩
      refine sf_seq ?_
      rw [ss_set, sat_call, sat_cons, sat_var rfl, sat_nil]
      refine ⟨rfl, read_gain_ok F (hl l (List.mem_of_getElem? h1)) ?_⟩
      have raise : ∀ (w : PV) (s : Store), s = st ++ [.dic ((gs.take gs.length).map gkv)] → SatF (sRaiseP cInt "BadText" "line" (eBin pAdd (eVar 3) (eC (.int 1))) (([some (PV.str text), some (PV.loc st.length), some (PV.str (lastOf "" gs gs.length)), (some (.int (gs.length : Nat))), (some (.str l)), (some w)] : PEnv)) s) "BadText" (some [("line", .int ((gs.length : Nat) + 1))]) fun _ s => ∃ o, s = st ++ [o] := fun w s hs => by
        refine sf_raise ?_
        rw [sat_bin, sat_var rfl, sat_c, o_addI]
        refine ⟨rfl, ?_, _, hs⟩
        have := cInt_small (n := gs.length + 1) (by omega)
        simpa using this
      refine sf_first (sf_if (b := true) ?_)
      rw [sat_or, sat_test, sat_bin, sat_var rfl, sat_c]
      cases hg : gainP l with
      | none =>
        show Sat (pIs .non .non _) _
        rw [o_isN, sat_truth, if_pos rfl]
        exact ⟨rfl, raise _ _ rfl⟩
      | some g =>
        have h5 := h2 g hg
        show Sat (pIs (.tup [.str g.n, g.pair]) .non _) _
        rw [o_isT, sat_truth, if_neg (by simp), sat_not, sat_test, sat_bin, sat_var rfl, sat_bin, sat_var (v := optG (some g)) rfl, sat_c]
        show Sat (pIxD (.tup [.str g.n, g.pair]) (.int 0) _) _
        rw [o_ixDT, o_ixT, ixW_0, o_ltS, h5, sat_truth, Bool.not_false]
        exact ⟨rfl, raise _ _ rfl⟩
  obtain ⟨e, s, h3, o, rfl⟩ := errF_body key
  exact ⟨o, h3⟩
end
end PL
/-! PL, part KH: the law's own fault and pairs. -/
namespace PL
open PySem PySem.Spec PyProof.Rows L2 TL
def faultN (ls : List Str) : Nat := if (scan "" ls).2 = true then (scan "" ls).1.length + 1 else 0
theorem lines_fault_ok {ls : List Str} {st : Store} {Q : PV → Store → Prop} (hl : ∀ l ∈ ls, l.length ≤ 100000) (hn : ls.length ≤ 10000) (k : Q (.int (faultN ls : Nat)) st) : Sat (m_law_lines_fault [.lst (ls.map .str)] st) Q := by
  refine sat_body ?_
  unfold f_law_lines_fault
  simp only [List.map_cons, List.map_nil, List.length_cons, List.length_nil, Nat.reduceAdd, Nat.reduceSub, List.reduceReplicate, List.cons_append, List.nil_append]
  have hsl := scan_len ls ""
  rw [ss_seq, ss_set, sat_c, ss_seq, ss_for, sat_iRange1, sat_args, sat_cons, sat_var rfl, sat_nil, sat_one, o_lenL, o_rng, List.length_map]
  refine ⟨by omega, ?_⟩
  refine for_invN (k := 0) (fun i e s => s = st ∧ i ≤ (scan "" ls).1.length ∧ ∃ a b, e = ([some (.lst (ls.map .str)), some (.str (lastOf "" (scan "" ls).1 i)), a, b] : PEnv)) ⟨rfl, Nat.zero_le _, _, _, rfl⟩ ?_ ?_
  · rintro i v e s hv ⟨rfl, hi, a, b, rfl⟩
    obtain ⟨hin, rfl⟩ := rngs_get hv
    have hin : i < ls.length := by omega
    rw [Nat.zero_add] at hi ⊢
    rw [Int.zero_add]
    refine ⟨_, rfl, ?_⟩
    have hli := List.getElem?_eq_getElem hin
    rw [ss_seq, ss_set, sat_call, sat_cons, sat_bin, sat_var rfl, sat_var rfl, o_ixL]
    refine ixW_of (y := .str ls[i]) (by rw [List.getElem?_map, hli]; rfl) ?_
    rw [sat_nil]
    refine ⟨rfl, own_gain_ok (hl _ (List.getElem_mem hin)) ?_⟩
    have yes : ∀ g, gainP ls[i] = some g → ∀ (Q : PV → Store → Prop) (s : Store), Sat (pIx (optG (some g)) (.int 0) s) Q = Q (.str g.n) s := fun g _ Q s => by
      show Sat (pIx (.tup [.str g.n, g.pair]) (.int 0) s) Q = _
      rw [o_ixT, ixW_0]
    rcases Nat.lt_or_ge i (scan "" ls).1.length with hg | hg
    · have hgi := List.getElem?_eq_getElem hg
      obtain ⟨l, h1, h2, h3⟩ := scan_good ls "" i _ hgi
      rw [hli] at h1
      cases h1
      rw [h2, ss_seq, ss_if, sat_or, sat_test, sat_bin, sat_var rfl, sat_c]
      show Sat (pIs (.tup [.str (scan "" ls).1[i].n, (scan "" ls).1[i].pair]) .non _) _
      rw [o_isT, sat_truth, if_neg (by simp), sat_not, sat_test, sat_bin, sat_var rfl, sat_bin, sat_var (v := optG (some (scan "" ls).1[i])) rfl, sat_c, yes _ h2, o_ltS, h3, sat_truth, Bool.not_true, if_neg (by simp), ss_nil, ss_set, sat_bin, sat_var (v := optG (some (scan "" ls).1[i])) rfl, sat_c, yes _ h2]
      refine ⟨rfl, by omega, some (.int (i : Int)), some (optG (some (scan "" ls).1[i])), ?_⟩
      have elast : lastOf "" (scan "" ls).1 (i + 1) = (scan "" ls).1[i].n := by
        show (match (scan "" ls).1[i]? with | some g => g.n | none => ("" : Str)) = _
        rw [hgi]
      rw [elast]; rfl
    · have ei : i = (scan "" ls).1.length := by omega
      have hb : (scan "" ls).2 = true := by
        cases q : (scan "" ls).2 with
        | true => rfl
        | false => have := hsl.2.1 q; omega
      obtain ⟨l, h1, h2⟩ := hsl.2.2 hb
      rw [← ei, hli] at h1
      cases h1
      rw [← ei] at h2
      have ek : faultN ls = i + 1 := by unfold faultN; rw [if_pos hb, ei]
      rw [ek] at k
      have fin : ∀ (N : PEnv → Store → Prop) (w : PV), SatS (sRet (eBin pAdd (eVar 2) (eC (.int 1))) ([some (.lst (ls.map .str)), some (.str (lastOf "" (scan "" ls).1 i)), some (.int (i : Int)), some w] : PEnv) s) N Q := fun N w => by
        rw [ss_ret, sat_bin, sat_var rfl, sat_c, o_addI]
        simpa using k
      rw [ss_seq, ss_if, sat_or, sat_test, sat_bin, sat_var rfl, sat_c]
      cases hg' : gainP ls[i] with
      | none =>
        show Sat (pIs .non .non _) _
        rw [o_isN, sat_truth, if_pos rfl, if_pos rfl]
        exact fin _ _
      | some g =>
        have h5 := h2 g hg'
        show Sat (pIs (.tup [.str g.n, g.pair]) .non _) _
        rw [o_isT, sat_truth, if_neg (by simp), sat_not, sat_test, sat_bin, sat_var rfl, sat_bin, sat_var (v := optG (some g)) rfl, sat_c, yes _ hg', o_ltS, h5, sat_truth, Bool.not_false, if_pos rfl]
        exact fin _ _
  · rintro e s ⟨rfl, hi, a, b, rfl⟩
    rw [rngs_len, Nat.zero_add, Int.toNat_natCast] at hi
    have hb : (scan "" ls).2 = false := by
      cases q : (scan "" ls).2 with
      | false => rfl
      | true =>
        obtain ⟨l, h1, _⟩ := hsl.2.2 q
        have := (List.getElem?_eq_some_iff.mp h1).1
        omega
    have ek : faultN ls = 0 := by unfold faultN; rw [if_neg (by rw [hb]; simp)]
    rw [ek] at k
    rw [ss_ret, sat_c]
    exact k
theorem pairs_dict_ok {ls : List Str} {st : Store} {Q : PV → Store → Prop} (hl : ∀ l ∈ ls, l.length ≤ 100000) (hn : ls.length ≤ 10000) (hs : (scan "" ls).2 = false) (k : Q (.loc st.length) (st ++ [.dic ((scan "" ls).1.map gkv)])) : Sat (m_law_pairs_dict [.lst (ls.map .str)] st) Q := by
  refine sat_body ?_
  unfold f_law_pairs_dict
  simp only [List.map_cons, List.map_nil, List.length_cons, List.length_nil, Nat.reduceAdd, Nat.reduceSub, List.reduceReplicate, List.cons_append, List.nil_append]
  have hsl := scan_len ls ""
  have hasc := (scan_asc ls "").2
  have heq := hsl.2.1 hs
  rw [ss_seq, ss_set]
  show Sat (Res.ok (PV.loc st.length) (st ++ [.dic []])) _
  rw [sat_ok, ss_seq, ss_for, sat_iVal, sat_var rfl, o_itL]
  refine for_invN (k := 0) (fun i e s => s = st ++ [.dic (((scan "" ls).1.take i).map gkv)] ∧ ∃ a b, e = ([some (.lst (ls.map .str)), some (.loc st.length), a, b] : PEnv)) ⟨rfl, _, _, rfl⟩ ?_ ?_
  · rintro i v e s hv ⟨rfl, a, b, rfl⟩
    rw [Nat.zero_add]
    have hin : i < ls.length := by have := (List.getElem?_eq_some_iff.mp hv).1; simpa using this
    have hli := List.getElem?_eq_getElem hin
    rw [List.getElem?_map, hli] at hv
    cases hv
    obtain ⟨g, hgi⟩ : ∃ g, (scan "" ls).1[i]? = some g := ⟨_, List.getElem?_eq_getElem (show i < (scan "" ls).1.length by omega)⟩
    obtain ⟨l, h1, h2, h3⟩ := scan_good ls "" i _ hgi
    rw [hli] at h1
    cases h1
    refine ⟨_, rfl, ?_⟩
    rw [ss_seq, ss_set, sat_call, sat_cons, sat_var rfl, sat_nil]
    refine ⟨rfl, own_gain_ok (hl _ (List.getElem_mem hin)) ?_⟩
    rw [h2]
    have hd0 : ∀ (Q : PV → Store → Prop) (s : Store), Sat (pIxD (optG (some g)) (.int 0) s) Q = Q (.str g.n) s := fun Q s => by
      show Sat (pIxD (.tup [.str g.n, g.pair]) (.int 0) s) Q = _
      rw [o_ixDT, o_ixT, ixW_0]
    have hd1 : ∀ (Q : PV → Store → Prop) (s : Store), Sat (pIxD (optG (some g)) (.int 1) s) Q = Q g.pair s := fun Q s => by
      show Sat (pIxD (.tup [.str g.n, g.pair]) (.int 1) s) Q = _
      rw [o_ixDT, o_ixT, ixW_1]
    rw [ss_sub, sat_bin, sat_var (v := optG (some g)) rfl, sat_c, hd1, sat_var rfl, sat_bin, sat_var (v := optG (some g)) rfl, sat_c, hd0]
    rw [o_setD at_end (k := .inr g.n) rfl (by rw [List.length_map, List.length_take]; omega), set_end]
    refine ⟨?_, _, _, rfl⟩
    rw [asc_put hasc hgi]
  · rintro e s ⟨rfl, a, b, rfl⟩
    rw [ss_ret, sat_var rfl]
    rw [List.length_map, ← heq, Nat.zero_add, List.take_length]
    exact k
end PL
/-! PL, part KI: told. -/
namespace PL
open PySem PySem.Spec PyProof.Rows L2
/-! ### told -/
theorem eqv_self (v : PV) : PyData.eqv (toD v) (toD v) = true := PySem.SeqAt.eqv_refl_plain _ (plain_toD v)
theorem o_eqR {v : PV} {st : Store} {Q : PV → Store → Prop} (h : isD v = true) (h2 : (toD v).depth ≤ 64) : Sat (pEq v v st) Q = Q (.bl true) st := by
  unfold pEq
  rw [if_pos ⟨h, h, by omega⟩, sat_ok, eqv_self]
theorem ixd_seq {st : Store} {u w : PV} {q : Bool × List PV} (h : seqOf st u = some q) : pIxD u w st = pIx u w st := by
  have : dicOf st u = none := by
    unfold dicOf
    cases u with
    | loc l =>
      unfold seqOf at h
      simp only at h ⊢
      split at h
      · rename_i e; simp only [e]
      · cases h
    | _ => rfl
  unfold pIxD
  rw [this]
/-- what told looks through -/
inductive Dt : Nat → PV → Prop
  | n {d : Nat} : Dt d .non
  | s {d : Nat} {z : Str} : Dt d (.str z)
  | i {d : Nat} {j : Int} : Dt d (.int j)
  | b {d : Nat} {j : Bool} : Dt d (.bl j)
  | t {d : Nat} {xs : List PV} : xs.length ≤ 1000000 → (∀ x ∈ xs, Dt d x) → Dt (d + 1) (.tup xs)
  | l {d : Nat} {xs : List PV} : xs.length ≤ 1000000 → (∀ x ∈ xs, Dt d x) → Dt (d + 1) (.lst xs)
/-- the turn over the items, of values that are read -/
theorem told_seq {n : Nat} {v w : PV} {ty : String} {b : Bool} {xs : List PV} {st : Store} {Q : PV → Store → Prop} (hv : seqOf st v = some (b, xs)) (hw : seqOf st w = some (b, xs)) (nv : ∀ z, v ≠ .str z) (nw : ∀ z, w ≠ .str z)
    (tv : tyName st v = some ty) (tw : tyName st w = some ty) (ht : ty = "tuple" ∨ ty = "list") (hl : xs.length ≤ 1000000) (wn : isNonP w = some false)
    (hx : ∀ x ∈ xs, fuelF 4 f_law_told n [x, x] st = .ok (.bl true) st) (k : Q (.bl true) st) : Sat (fuelF 4 f_law_told (n + 1) [v, w] st) Q := by
  have lenOf : ∀ u : PV, seqOf st u = some (b, xs) → ∀ Q : PV → Store → Prop, Sat (one pLen [u] st) Q = Q (.int xs.length) st := fun u hu Q => by
    have : one pLen [u] st = .ok (.int xs.length) st := by
      show pLen u st = _
      unfold pLen
      cases u with
      | str z => cases hu
      | _ => simp only [hu]
    rw [this, sat_ok]
  have ixOf' : ∀ u : PV, seqOf st u = some (b, xs) → ∀ (i : Nat) (x : PV), xs[i]? = some x → ∀ Q : PV → Store → Prop, Q x st → Sat (pIxD u (.int (0 + (i : Int))) st) Q := fun u hu i x hi Q q => by
    rw [Int.zero_add, ixd_seq hu]
    cases u with
    | tup ys => cases hu; rw [o_ixT]; exact ixW_of hi q
    | lst ys => cases hu; rw [o_ixL]; exact ixW_of hi q
    | frz ys => cases hu; rw [o_ixF]; exact ixW_of hi q
    | loc l =>
      have : st[l]? = some (.lst xs) := by
        unfold seqOf at hu
        simp only at hu
        split at hu
        · rename_i ys e; cases hu; exact e
        · cases hu
      rw [o_ixP this]; exact ixW_of hi q
    | _ => cases hu
  have kb : kitB ty "bool" = some false := by rcases ht with rfl | rfl <;> first | exact kit_tb | exact kit_lb
  have ki : kitB ty "int" = some false := by rcases ht with rfl | rfl <;> first | exact kit_ti | exact kit_li
  have ks : kitB ty "str" = some false := by rcases ht with rfl | rfl <;> first | exact kit_ts | exact kit_ls
  have kd : kitB ty "dict" = some false := by rcases ht with rfl | rfl <;> first | exact kit_td | exact kit_ld
  obtain ⟨kt, ht1⟩ : ∃ x, kitB ty "tuple" = some x := by rcases ht with rfl | rfl <;> first | exact ⟨_, kit_tt⟩ | exact ⟨_, kit_lt⟩
  obtain ⟨kl, hl1⟩ : ∃ x, kitB ty "list" = some x := by rcases ht with rfl | rfl <;> first | exact ⟨_, kit_tl⟩ | exact ⟨_, kit_ll⟩
  have ka : kitAll ty [.con (.ty "tuple"), .con (.ty "list")] = some true := by rcases ht with rfl | rfl <;> first | exact kits_t | exact kits_l
  have isn : ∀ Q : PV → Store → Prop, Sat (pIs w .non st) Q = Q (.bl false) st := fun Q => by
    have : pIs w .non st = .ok (.bl false) st := by unfold pIs; rw [wn]
    rw [this, sat_ok]
  refine sat_body ?_
  unfold f_law_told
  simp only [List.map_cons, List.map_nil, List.length_cons, List.length_nil, Nat.reduceAdd, Nat.reduceSub, List.reduceReplicate, List.cons_append, List.nil_append]
  rw [ss_seq, ss_if, sat_test, sat_bin, sat_var rfl, sat_c, isn, sat_truth, if_neg (by simp), ss_nil]
  rw [ss_seq, ss_if, sat_or, sat_test, sat_args, sat_cons, sat_var rfl, sat_cons, sat_c, sat_nil, isi_of tw kb, sat_truth, if_neg (by simp), sat_test, sat_args, sat_cons, sat_var rfl, sat_cons, sat_c, sat_nil, isi_of tv kb, sat_truth, if_neg (by simp), ss_nil]
  rw [ss_seq, ss_if, sat_test, sat_args, sat_cons, sat_var rfl, sat_cons, sat_c, sat_nil, isi_of tw ki, sat_truth, if_neg (by simp), ss_nil]
  rw [ss_seq, ss_if, sat_test, sat_args, sat_cons, sat_var rfl, sat_cons, sat_c, sat_nil, isi_of tw ks, sat_truth, if_neg (by simp), ss_nil]
  rw [ss_seq, ss_if, sat_test, sat_args, sat_cons, sat_var rfl, sat_cons, sat_c, sat_nil, isi_of tw kd, sat_truth, if_neg (by simp), ss_nil]
  rw [ss_seq, ss_if, sat_or, sat_test, sat_bin, sat_args, sat_cons, sat_var rfl, sat_cons, sat_c, sat_nil, isi_of tw ht1, sat_args, sat_cons, sat_var rfl, sat_cons, sat_c, sat_nil, isi_of tv ht1, o_neB, sat_truth, if_neg (by simp), sat_test, sat_bin, sat_args, sat_cons, sat_var rfl, sat_cons, sat_c, sat_nil, isi_of tw hl1, sat_args, sat_cons, sat_var rfl, sat_cons, sat_c, sat_nil, isi_of tv hl1, o_neB, sat_truth, if_neg (by simp), ss_nil]
  rw [ss_seq, ss_if, sat_or, sat_not, sat_test, sat_args, sat_cons, sat_var rfl, sat_cons, sat_args, sat_cons, sat_c, sat_cons, sat_c, sat_nil, sat_tup]
  refine ⟨sl2, ?_⟩
  rw [sat_nil, isi_tl tv ka, sat_truth, Bool.not_true, if_neg (by simp), sat_test, sat_bin, sat_args, sat_cons, sat_var rfl, sat_nil, lenOf v hv, sat_args, sat_cons, sat_var rfl, sat_nil, lenOf w hw, o_neI, decide_eq_true rfl, sat_truth, Bool.not_true, if_neg (by simp), ss_nil]
  rw [ss_seq, ss_for, sat_iRange1, sat_args, sat_cons, sat_var rfl, sat_nil, lenOf w hw, o_rng]
  refine ⟨⟨by omega, by omega⟩, ?_⟩
  refine for_invN (k := 0) (fun i e s => s = st ∧ ∃ a, e = ([some v, some w, a, none] : PEnv)) ⟨rfl, none, rfl⟩ ?_ ?_
  · rintro i z e s hz ⟨rfl, a, rfl⟩
    obtain ⟨hi, rfl⟩ := rngs_get hz
    have hi : i < xs.length := by omega
    have hg := List.getElem?_eq_getElem hi
    refine ⟨_, rfl, ?_⟩
    rw [ss_if, sat_not, sat_test, sat_call, sat_cons, sat_bin, sat_var rfl, sat_var rfl]
    refine ixOf' v hv i _ hg _ ?_
    rw [sat_cons, sat_bin, sat_var rfl, sat_var rfl]
    refine ixOf' w hw i _ hg _ ?_
    rw [sat_nil]
    refine ⟨rfl, ?_⟩
    show Sat (fuelF 4 f_law_told n [xs[i], xs[i]] s) _
    rw [hx _ (List.getElem_mem hi), sat_ok, sat_truth, Bool.not_true, if_neg (by simp), ss_nil]
    exact ⟨rfl, _, rfl⟩
  · rintro e s ⟨rfl, a, rfl⟩
    rw [ss_ret, sat_c]
    exact k
theorem told_ok : ∀ (n d : Nat) (v : PV) (st : Store), Dt d v → d < n → fuelF 4 f_law_told n [v, v] st = .ok (.bl true) st
  | 0, d, v, st, _, hn => absurd hn (Nat.not_lt_zero _)
  | n + 1, d, v, st, h, hn => by
    refine det fun Q k => ?_
    cases h with
    | @t d xs hl hx => exact told_seq (b := true) (xs := xs) rfl rfl nofun nofun rfl rfl (.inl rfl) hl rfl (fun x m => told_ok n d x st (hx x m) (by omega)) k
    | @l d xs hl hx => exact told_seq (b := false) (xs := xs) rfl rfl nofun nofun rfl rfl (.inr rfl) hl rfl (fun x m => told_ok n d x st (hx x m) (by omega)) k
    | n =>
      refine sat_body ?_
      unfold f_law_told
      simp only [List.map_cons, List.map_nil, List.length_cons, List.length_nil, Nat.reduceAdd, Nat.reduceSub, List.reduceReplicate, List.cons_append, List.nil_append]
      rw [ss_seq, ss_if, sat_test, sat_bin, sat_var rfl, sat_c, o_isN, sat_truth, if_pos rfl, ss_ret, sat_bin, sat_var rfl, sat_c, o_isN]
      exact k
    | @b _ j =>
      refine sat_body ?_
      unfold f_law_told
      simp only [List.map_cons, List.map_nil, List.length_cons, List.length_nil, Nat.reduceAdd, Nat.reduceSub, List.reduceReplicate, List.cons_append, List.nil_append]
      have isn : ∀ Q : PV → Store → Prop, Sat (pIs (.bl j) .non st) Q = Q (.bl false) st := fun Q => sat_of rfl
      have kb : ∀ Q : PV → Store → Prop, Sat (pIsi [.bl j, .con (.ty "bool")] st) Q = Q (.bl true) st := fun Q => isi_of rfl kit_bb
      rw [ss_seq, ss_if, sat_test, sat_bin, sat_var rfl, sat_c, isn, sat_truth, if_neg (by simp), ss_nil]
      rw [ss_seq, ss_if, sat_or, sat_test, sat_args, sat_cons, sat_var rfl, sat_cons, sat_c, sat_nil, kb, sat_truth, if_pos rfl, if_pos rfl, ss_ret, sat_andv, sat_args, sat_cons, sat_var rfl, sat_cons, sat_c, sat_nil, kb]
      show Sat (eAndV _ _ _ _) Q
      rw [sat_andv, sat_args, sat_cons, sat_var rfl, sat_cons, sat_c, sat_nil, kb]
      show Sat (eBin _ _ _ _ _) Q
      rw [sat_bin, sat_var rfl, sat_var rfl, o_eqR (by simp [isD]) (by simp [toD, PyData.depth])]
      exact k
    | @i _ j =>
      refine sat_body ?_
      unfold f_law_told
      simp only [List.map_cons, List.map_nil, List.length_cons, List.length_nil, Nat.reduceAdd, Nat.reduceSub, List.reduceReplicate, List.cons_append, List.nil_append]
      have isn : ∀ Q : PV → Store → Prop, Sat (pIs (.int j) .non st) Q = Q (.bl false) st := fun Q => sat_of rfl
      have kb : ∀ Q : PV → Store → Prop, Sat (pIsi [.int j, .con (.ty "bool")] st) Q = Q (.bl false) st := fun Q => isi_of rfl kit_ib
      have ki : ∀ Q : PV → Store → Prop, Sat (pIsi [.int j, .con (.ty "int")] st) Q = Q (.bl true) st := fun Q => isi_of rfl kit_ii
      rw [ss_seq, ss_if, sat_test, sat_bin, sat_var rfl, sat_c, isn, sat_truth, if_neg (by simp), ss_nil]
      rw [ss_seq, ss_if, sat_or, sat_test, sat_args, sat_cons, sat_var rfl, sat_cons, sat_c, sat_nil, kb, sat_truth, if_neg (by simp), sat_test, sat_args, sat_cons, sat_var rfl, sat_cons, sat_c, sat_nil, kb, sat_truth, if_neg (by simp), ss_nil]
      rw [ss_seq, ss_if, sat_test, sat_args, sat_cons, sat_var rfl, sat_cons, sat_c, sat_nil, ki, sat_truth, if_pos rfl, ss_ret, sat_andv, sat_args, sat_cons, sat_var rfl, sat_cons, sat_c, sat_nil, ki]
      show Sat (eBin _ _ _ _ _) Q
      rw [sat_bin, sat_var rfl, sat_var rfl, o_eqR (by simp [isD]) (by simp [toD, PyData.depth])]
      exact k
    | @s _ z =>
      refine sat_body ?_
      unfold f_law_told
      simp only [List.map_cons, List.map_nil, List.length_cons, List.length_nil, Nat.reduceAdd, Nat.reduceSub, List.reduceReplicate, List.cons_append, List.nil_append]
      have kb : ∀ Q : PV → Store → Prop, Sat (pIsi [.str z, .con (.ty "bool")] st) Q = Q (.bl false) st := fun Q => isi_of rfl kit_sb
      have ki : ∀ Q : PV → Store → Prop, Sat (pIsi [.str z, .con (.ty "int")] st) Q = Q (.bl false) st := fun Q => isi_of rfl kit_si
      rw [ss_seq, ss_if, sat_test, sat_bin, sat_var rfl, sat_c, o_isS, sat_truth, if_neg (by simp), ss_nil]
      rw [ss_seq, ss_if, sat_or, sat_test, sat_args, sat_cons, sat_var rfl, sat_cons, sat_c, sat_nil, kb, sat_truth, if_neg (by simp), sat_test, sat_args, sat_cons, sat_var rfl, sat_cons, sat_c, sat_nil, kb, sat_truth, if_neg (by simp), ss_nil]
      rw [ss_seq, ss_if, sat_test, sat_args, sat_cons, sat_var rfl, sat_cons, sat_c, sat_nil, ki, sat_truth, if_neg (by simp), ss_nil]
      rw [ss_seq, ss_if, sat_test, sat_args, sat_cons, sat_var rfl, sat_cons, sat_c, sat_nil, isi_s, sat_truth, if_pos rfl, ss_ret, sat_andv, sat_args, sat_cons, sat_var rfl, sat_cons, sat_c, sat_nil, isi_s]
      show Sat (eBin _ _ _ _ _) Q
      rw [sat_bin, sat_var rfl, sat_var rfl, o_eqR (by simp [isD]) (by simp [toD, PyData.depth])]
      exact k
theorem told_loc {n d a b : Nat} {xs : List PV} {st : Store} (ha : st[a]? = some (.lst xs)) (hb : st[b]? = some (.lst xs)) (hl : xs.length ≤ 1000000) (hx : ∀ x ∈ xs, Dt d x) (hn : d < n) : fuelF 4 f_law_told (n + 1) [.loc a, .loc b] st = .ok (.bl true) st := by
  have q : ∀ c : Nat, st[c]? = some (.lst xs) → seqOf st (.loc c) = some (false, xs) ∧ tyName st (.loc c) = some "list" := fun c h => ⟨by unfold seqOf; simp only [h], by unfold tyName; simp only [h]⟩
  exact det fun Q k => told_seq (q a ha).1 (q b hb).1 nofun nofun (q a ha).2 (q b hb).2 (.inr rfl) hl rfl (fun x m => told_ok n d x st (hx x m) hn) k
end PL
/-! PL, part KJ: told over dicts; what is read, or the fault. -/
namespace PL
open PySem PySem.Spec PyProof.Rows L2 TL
theorem kit_db : kitB "dict" "bool" = some false := by decide +kernel
theorem kit_di : kitB "dict" "int" = some false := by decide +kernel
theorem kit_ds : kitB "dict" "str" = some false := by decide +kernel
theorem kit_dd : kitB "dict" "dict" = some true := by decide +kernel
theorem sat_lock {i l : Nat} {f : EM} {env : PEnv} {st : Store} {kvs : List (Key × PV)} {Q : PV → Store → Prop} (h1 : env[i]? = some (some (.loc l))) (h2 : st[l]? = some (.dic kvs)) :
    Sat (eLock i f env st) Q = Sat (f env (st.set l (.fdic kvs))) fun v s => Q v (s.set l (.dic kvs)) := by
  have : eLock i f env st = (match f env (st.set l (.fdic kvs)) with | .ok v st' => .ok v (st'.set l (.dic kvs)) | _ => .stuck) := by
    unfold eLock
    simp only [h1, h2] <;> rfl
  rw [this, eq_iff_iff]
  cases f env (st.set l (.fdic kvs)) with
  | ok v s =>
    constructor
    · rintro ⟨_, _, e, q⟩
      cases e
      exact ⟨_, _, rfl, q⟩
    · rintro ⟨_, _, e, q⟩
      cases e
      exact ⟨_, _, rfl, q⟩
  | err n fs s =>
    constructor
    · rintro ⟨_, _, e, _⟩
      cases e
    · rintro ⟨_, _, e, _⟩
      cases e
  | stuck =>
    constructor
    · rintro ⟨_, _, e, _⟩
      cases e
    · rintro ⟨_, _, e, _⟩
      cases e
theorem sat_iDict {f : EM} {env : PEnv} {st : Store} {Qx : Itms → Store → Prop} : Sat (iDict f env st) Qx = Sat (f env st) fun v s => Sat (pIterD v s) Qx := by unfold iDict; rw [sat_bind]
theorem o_itD {l : Nat} {kvs : List (Key × PV)} {st : Store} {Qx : Itms → Store → Prop} (h : st[l]? = some (.fdic kvs)) : Sat (pIterD (.loc l) st) Qx = Qx ⟨kvs.map fun p => keyPV p.1, some (l, .fdic kvs)⟩ st := by
  have : pIterD (.loc l) st = .ok ⟨kvs.map fun p => keyPV p.1, some (l, .fdic kvs)⟩ st := by unfold pIterD; simp only [h]
  rw [this, sat_ok]
theorem dget_at : ∀ {kvs : List (Key × PV)} {i : Nat} {p : Key × PV}, (kvs.map (·.1)).Nodup → kvs[i]? = some p → dget kvs p.1 = some p.2
  | [], i, p, _, h => by simp at h
  | (j, y) :: r, 0, p, _, h => by
    simp only [List.getElem?_cons_zero, Option.some.injEq] at h
    subst h
    show (if j = j then some y else _) = _
    rw [if_pos rfl]
  | (j, y) :: r, i + 1, p, nd, h => by
    simp only [List.getElem?_cons_succ] at h
    rw [List.map_cons, List.nodup_cons] at nd
    have : j ≠ p.1 := fun e => nd.1 (by show j ∈ _; rw [e]; exact List.mem_map.mpr ⟨p, List.mem_of_getElem? h, rfl⟩)
    show (if j = p.1 then some y else dget r p.1) = _
    rw [if_neg this]
    exact dget_at nd.2 h
theorem o_getD {v : PV} {kvs : List (Key × PV)} {k : Key} {x : PV} {st : Store} {Q : PV → Store → Prop} (h : dicOf st v = some kvs) (hg : dget kvs k = some x) : Sat (pIxD v (keyPV k) st) Q = Q x st := by
  have hk : keyOf (keyPV k) = some k := by cases k <;> rfl
  have : pIxD v (keyPV k) st = .ok x st := by unfold pIxD; simp only [h, hk, hg]
  rw [this, sat_ok]
theorem o_sortD {v : PV} {kvs : List (Key × PV)} {ks : List Str} {st : Store} {Q : PV → Store → Prop} (h : dicOf st v = some kvs) (hk : keyStrs kvs = some ks) (hl : ks.length < 64) : Sat (one pSortedD [v] st) Q = Q (.lst ((ks.mergeSort leS).map .str)) st := by
  have : one pSortedD [v] st = .ok (.lst ((ks.mergeSort leS).map .str)) st := by
    show pSortedD v st = _
    unfold pSortedD
    simp only [h, hk]
    rw [if_pos hl]
  rw [this, sat_ok]
theorem isDs_strs (us : List Str) : isDs (us.map .str) = true := by induction us <;> simp_all [isDs, isD]
theorem depth_strs (us : List Str) : PyData.depthAll (toDs (us.map .str)) = 0 := by induction us <;> simp_all [toDs, toD, PyData.depthAll, PyData.depth]
theorem o_neR {v : PV} {st : Store} {Q : PV → Store → Prop} (h : isD v = true) (h2 : (toD v).depth ≤ 64) : Sat (pNe v v st) Q = Q (.bl false) st := by
  unfold pNe
  rw [if_pos ⟨h, h, by omega⟩, sat_ok, eqv_self]
  rfl
theorem keyStrs_nd {kvs : List (Key × PV)} {ks : List Str} (h : keyStrs kvs = some ks) (nd : ks.Nodup) : (kvs.map (·.1)).Nodup := by
  rw [keyStrs_map h]
  rw [List.nodup_iff_pairwise_ne, List.pairwise_map]
  exact (List.nodup_iff_pairwise_ne.mp nd).imp fun h e => h (by injection e)
theorem told_dict2 {n d a b : Nat} {kva kvs : List (Key × PV)} {ka ks : List Str} {st : Store} (ha : st[a]? = some (.dic kva)) (hb : st[b]? = some (.dic kvs)) (hka : keyStrs kva = some ka) (hk : keyStrs kvs = some ks) (hla : ka.length < 64) (hl : ks.length < 64) (hso : ka.mergeSort leS = ks.mergeSort leS) (hget : ∀ p ∈ kvs, dget kva p.1 = some p.2) (nd : ks.Nodup) (hx : ∀ p ∈ kvs, Dt d p.2) (hn : d < n) :
    fuelF 4 f_law_told (n + 1) [.loc a, .loc b] st = .ok (.bl true) st := by
  refine det fun Q k => sat_body ?_
  unfold f_law_told
  simp only [List.map_cons, List.map_nil, List.length_cons, List.length_nil, Nat.reduceAdd, Nat.reduceSub, List.reduceReplicate, List.cons_append, List.nil_append]
  have ty : ∀ (c : Nat) (k : List (Key × PV)), st[c]? = some (.dic k) → tyName st (.loc c) = some "dict" := fun c k h => by unfold tyName; simp only [h]
  have dc : ∀ (c : Nat) (k : List (Key × PV)), st[c]? = some (.dic k) → dicOf st (.loc c) = some k := fun c k h => by unfold dicOf; simp only [h]
  have isn : ∀ Q : PV → Store → Prop, Sat (pIs (.loc b) .non st) Q = Q (.bl false) st := fun Q => sat_of rfl
  have ta := ty a _ ha
  have tb := ty b _ hb
  have hbl := (List.getElem?_eq_some_iff.mp hb).1
  rw [ss_seq, ss_if, sat_test, sat_bin, sat_var rfl, sat_c, isn, sat_truth, if_neg (by simp), ss_nil]
  rw [ss_seq, ss_if, sat_or, sat_test, sat_args, sat_cons, sat_var rfl, sat_cons, sat_c, sat_nil, isi_of tb kit_db, sat_truth, if_neg (by simp), sat_test, sat_args, sat_cons, sat_var rfl, sat_cons, sat_c, sat_nil, isi_of ta kit_db, sat_truth, if_neg (by simp), ss_nil]
  rw [ss_seq, ss_if, sat_test, sat_args, sat_cons, sat_var rfl, sat_cons, sat_c, sat_nil, isi_of tb kit_di, sat_truth, if_neg (by simp), ss_nil]
  rw [ss_seq, ss_if, sat_test, sat_args, sat_cons, sat_var rfl, sat_cons, sat_c, sat_nil, isi_of tb kit_ds, sat_truth, if_neg (by simp), ss_nil]
  rw [ss_seq, ss_if, sat_test, sat_args, sat_cons, sat_var rfl, sat_cons, sat_c, sat_nil, isi_of tb kit_dd, sat_truth, if_pos rfl]
  rw [ss_seq, ss_if, sat_or, sat_not, sat_test, sat_args, sat_cons, sat_var rfl, sat_cons, sat_c, sat_nil, isi_of ta kit_dd, sat_truth, Bool.not_true, if_neg (by simp), sat_test, sat_bin, sat_args, sat_cons, sat_var rfl, sat_nil, o_sortD (dc a _ ha) hka hla, sat_args, sat_cons, sat_var rfl, sat_nil, o_sortD (dc b _ hb) hk hl, hso]
  rw [o_neR (v := .lst ((ks.mergeSort leS).map .str)) (show isDs _ = true from isDs_strs _) (by show (PyData.list (toDs _)).depth ≤ 64; simp only [PyData.depth, depth_strs]; decide), sat_truth, if_neg (by simp), ss_nil]
  rw [ss_ret, sat_bin, sat_args, sat_cons, sat_lock (l := b) rfl hb, sat_comp, sat_iDict, sat_var rfl]
  have hf : (st.set b (.fdic kvs))[b]? = some (.fdic kvs) := List.getElem?_set_self hbl
  have da : dicOf (st.set b (.fdic kvs)) (.loc a) = some kva := by
    unfold dicOf
    by_cases e : a = b
    · subst e
      rw [ha] at hb
      cases hb
      simp only [hf]
    · simp only [List.getElem?_set_ne (Ne.symm e), ha]
  have db : dicOf (st.set b (.fdic kvs)) (.loc b) = some kvs := by unfold dicOf; simp only [hf]
  rw [o_itD hf]
  have nd' := keyStrs_nd hk nd
  refine comp_inv (k := 0) (fun i acc s => s = st.set b (.fdic kvs) ∧ acc = []) ⟨rfl, rfl⟩ ?_ ?_ (by rintro i acc s ⟨rfl, _⟩; exact hf)
  · rintro i v s acc hv ⟨rfl, rfl⟩
    rw [List.getElem?_map] at hv
    cases e : kvs[i]? with
    | none => rw [e] at hv; cases hv
    | some p =>
      rw [e] at hv
      cases hv
      have hg := dget_at nd' e
      refine ⟨_, rfl, ?_⟩
      rw [sat_not, sat_test, sat_call, sat_cons, sat_bin, sat_var (v := .loc a) (by simp [wipeP]), sat_var (v := keyPV p.1) (by simp [wipeP]), o_getD da (hget p (List.mem_of_getElem? e)), sat_cons, sat_bin, sat_var (v := .loc b) (by simp [wipeP]), sat_var (v := keyPV p.1) (by simp [wipeP]), o_getD db hg, sat_nil]
      refine ⟨rfl, ?_⟩
      show Sat (fuelF 4 f_law_told n [p.2, p.2] _) _
      rw [told_ok n d p.2 _ (hx p (List.mem_of_getElem? e)) hn, sat_ok, sat_truth, Bool.not_true, if_neg (by simp)]
      exact ⟨rfl, rfl⟩
  · rintro acc s ⟨rfl, rfl⟩
    have e2 : (st.set b (.fdic kvs)).set b (.dic kvs) = st := by rw [List.set_set]; exact set_self hb
    rw [o_finF, sat_nil, sat_one, o_lenL, sat_c, o_eqI, e2]
    exact k
theorem told_dict {n d a b : Nat} {kvs : List (Key × PV)} {ks : List Str} {st : Store} (ha : st[a]? = some (.dic kvs)) (hb : st[b]? = some (.dic kvs)) (hk : keyStrs kvs = some ks) (hl : ks.length < 64) (nd : ks.Nodup) (hx : ∀ p ∈ kvs, Dt d p.2) (hn : d < n) :
    fuelF 4 f_law_told (n + 1) [.loc a, .loc b] st = .ok (.bl true) st := told_dict2 ha hb hk hk hl hl rfl (fun p m => by
      obtain ⟨i, hi, e⟩ := List.getElem_of_mem m
      exact dget_at (keyStrs_nd hk nd) (by rw [List.getElem?_eq_getElem hi, e])) nd hx hn
/-! ### what is read, or the number of the line at fault -/
section
variable {env env' : PEnv} {st st' : Store} {N : PEnv → Store → Prop} {R : PV → Store → Prop}
theorem ss_try_ok {i : Nat} {x : Str} {fb : SM} {fs : Nat → Nat → SM} {v : PV} (h : fb env st = .rt v st') : SatS (sTry i x fb fs env st) N R = R v st' := by
  have : sTry i x fb fs env st = .rt v st' := by unfold sTry; rw [h]
  rw [this, ss_rt]
theorem ss_try_ret {i : Nat} {x : Str} {fb : SM} {fs : Nat → Nat → SM} {fl : List (Str × PV)} {v2 : PV} {s2 : Store} (h : fb env st = .err env' x (some fl) st')
    (hs : ∀ a d, SatS (fs a d (env'.set i (some (.exc a d (fl.map (·.1)) (fl.map (·.2))))) st') (fun _ _ => False) fun v s => v = v2 ∧ s = s2) : SatS (sTry i x fb fs env st) N R = R v2 s2 := by
  have h1 : ∀ a d, unsetR i (fs a d (env'.set i (some (.exc a d (fl.map (·.1)) (fl.map (·.2))))) st') = .rt v2 s2 := fun a d => by
    rcases hs a d with ⟨e, s, h1, h2⟩ | ⟨v, s, h1, rfl, rfl⟩
    · exact False.elim h2
    · rw [h1]; rfl
  have : sTry i x fb fs env st = .rt v2 s2 := by
    unfold sTry
    rw [h]
    show (if x = x then anyAd fun a d => unsetR i (fs a d (env'.set i (some (.exc a d (fl.map (·.1)) (fl.map (·.2))))) st') else .stuck) = _
    rw [if_pos rfl]
    unfold anyAd
    rw [if_pos fun a d => (h1 a d).trans (h1 0 0).symm]
    exact h1 0 0
  rw [this, ss_rt]
theorem sat_isE {a d i : Nat} {b : Bool} {ns : List Str} {xs : List PV} {Q : PV → Store → Prop} (e : env[i]? = some (some (.exc a d ns xs))) : Sat (eIsE a d b (eVar i) env st) Q = Q (.bl b) st := by
  unfold eIsE
  rw [sat_bind, sat_var e]
  show Sat (if _ then _ else _) Q = _
  rw [if_pos ⟨rfl, rfl⟩, sat_ok]
theorem sat_xf {a d i : Nat} {f : Str} {ns : List Str} {xs : List PV} {y : PV} {Q : PV → Store → Prop} (e : env[i]? = some (some (.exc a d ns xs))) (h : (ns.zip xs).lookup f = some y) : Sat (eXf a d f (eVar i) env st) Q = Q y st := by
  unfold eXf
  rw [sat_bind, sat_var e]
  show Sat (if _ then _ else _) Q = _
  rw [if_pos ⟨rfl, rfl⟩, h, sat_ok]
theorem ret_call {n : Nat} {m : List PV → Store → Res PV} {fs : AM} {vs : List PV} {r : Res PV} (h : fs env st = .ok vs st) (hl : vs.length = n) (hm : m vs st = r) : sRet (eCallX n m fs) env st = sOf r env fun v s => .rt v s := by
  unfold sRet eCallX eArgs
  rw [h]
  show sOf (guardN n m vs st) env _ = _
  unfold guardN
  rw [if_pos hl, hm]
end
theorem read_or_ok {V : Fv} (F : FvOk V) {ls : List Str} {st : Store} {Q : PV → Store → Prop} (hne : ls ≠ [("" : Str)]) (hne2 : ls ≠ []) (hz : (Txt.join "\n" ls).length ≤ 100000) (hp : ∀ l ∈ ls, 10 ∉ tl l)
    (k1 : (scan "" ls).2 = false → Q (.loc st.length) (st ++ [.dic ((scan "" ls).1.map gkv)])) (k2 : (scan "" ls).2 = true → ∀ o, Q (.lst [.int (faultN ls : Nat), .bl false]) (st ++ [o])) : Sat (m_law_read_or V [.str (Txt.join "\n" ls)] st) Q := by
  have hsp : Txt.split (Txt.join "\n" ls) "\n" = ls := split_join (s := 10) (S := []) (by decide +kernel) (by decide +kernel) hne2 hp
  have ht : Txt.join "\n" ls ≠ "" := fun e => by
    rw [e] at hsp
    have : Txt.split ("" : Str) "\n" = [("" : Str)] := by decide +kernel
    exact hne (hsp.symm.trans this)
  refine sat_body ?_
  unfold f_law_read_or
  simp only [List.map_cons, List.map_nil, List.length_cons, List.length_nil, Nat.reduceAdd, Nat.reduceSub, List.reduceReplicate, List.cons_append, List.nil_append]
  have hargs : (aCons (eVar 0) aNil) [some (.str (Txt.join "\n" ls)), none] st = .ok [.str (Txt.join "\n" ls)] st := rfl
  cases hs : (scan "" ls).2 with
  | false =>
    have hr : Sat (m_read_gains V [.str (Txt.join "\n" ls)] st) fun v s => v = .loc st.length ∧ s = st ++ [.dic ((scan "" ls).1.map gkv)] := by
      refine read_gains_ok F ht hz (by rw [hsp]; exact hs) ?_
      rw [hsp]
      exact ⟨rfl, rfl⟩
    obtain ⟨v, s, e, rfl, rfl⟩ := hr
    rw [ss_try_ok (ret_call (n := 1) hargs rfl e)]
    exact k1 hs
  | true =>
    obtain ⟨o, e⟩ := read_gains_err (st := st) F ht hz (by rw [hsp]; exact hs)
    rw [hsp] at e
    rw [ss_try_ret (v2 := .lst [.int (faultN ls : Nat), .bl false]) (s2 := st ++ [o]) (ret_call (n := 1) hargs rfl e) fun a d => ?_]
    · exact k2 hs o
    · rw [ss_ret, sat_args, sat_cons, sat_xf rfl rfl, sat_cons, sat_isE rfl, sat_nil, sat_lst]
      refine ⟨sl2, ?_, rfl⟩
      unfold faultN
      rw [if_pos hs]
      rfl
end PL
/-! PL, part KK: what is written is read back. -/
namespace PL
open PySem PySem.Spec PyProof.Rows L2 TL
theorem tl_len (z : Str) : (tl z).length = z.length := Array.length_toList
theorem tl_app (x y : Str) : tl (x ++ y) = tl x ++ tl y := app_list x y
theorem tl_ext {x y : Str} (h : tl x = tl y) : x = y := str_ext h
theorem tl_nat (n : Nat) : tl (strInt (n : Int)) = numL n := tl_num n
theorem tl_neg (n : Nat) : tl (strInt (-((n + 1 : Nat) : Int))) = 45 :: numL (n + 1) := by
  have e : strInt (-((n + 1 : Nat) : Int)) = Str.ofString ("-" ++ toString (n + 1)) := rfl
  rw [e, tl_ofString]
  have : ("-" ++ toString (n + 1)).toList = '-' :: (toString (n + 1)).toList := by simp
  rw [this, List.map_cons]
  have e2 := tl_ofString (toString (n + 1))
  have e3 : tl (Str.ofString (toString (n + 1))) = numL (n + 1) := tl_num (n + 1)
  rw [e3] at e2
  rw [← e2]
  rfl
theorem numL_head : ∀ (n : Nat), 0 < n → (numL n).head? ≠ some 48 := by
  intro n
  induction n using Nat.strongRecOn with
  | _ n ih =>
    intro h
    by_cases h10 : n < 10
    · rw [numL_lt h10]
      simp; omega
    · rw [numL_step (by omega), List.head?_append]
      have := ih (n / 10) (by omega) (by omega)
      cases q : (numL (n / 10)).head? with
      | none => rw [List.head?_eq_none_iff] at q; exact absurd q (numL_ne _)
      | some c => rw [q] at this; simpa using this
theorem numP_nat {n : Nat} (h : n < 10 ^ 40) : numP (strInt (n : Int)) = some (n : Int) := by
  have el := tl_nat n
  have hl : (strInt (n : Int)).length = (numL n).length := by rw [← tl_len, el]
  have hne : 1 ≤ (numL n).length := List.length_pos_iff.mpr (numL_ne n)
  have hle := numL_len (n := n) (k := 40) (by decide) h
  have ev : NumText.digitsVal (strInt (n : Int)).cps.toList = n := by
    have : (strInt (n : Int)).cps.toList = numL n := el
    rw [this, numL_val]
  unfold numP
  rw [if_pos, ev]
  refine ⟨by omega, by omega, ?_, ?_⟩
  · have : (strInt (n : Int)).cps.toList = numL n := el
    rw [this, List.all_eq_true]
    intro c m
    rw [okD_dg]
    have := numL_digits n c m
    unfold isDg
    simp; omega
  · have : (strInt (n : Int)).cps.toList = numL n := el
    rw [this]
    rintro ⟨h1, h2⟩
    by_cases h0 : n = 0
    · subst h0
      rw [hl, numL_lt (by decide)] at h2
      simp at h2
    · exact numL_head n (by omega) h1
theorem tl_hdS {w : Str} {c : Nat} {cs : List Nat} (h : tl w = c :: cs) : tl (hdS w) = [c] ∧ tl (tlS w) = cs := by
  have hl : w.length = cs.length + 1 := by rw [← tl_len, h]; rfl
  have e0 : HT.sIx w.length 0 none = 0 := by unfold HT.sIx; first | rfl | simp
  have en : HT.sIx w.length w.length none = w.length := by unfold HT.sIx; first | rfl | simp
  have e1 : HT.sIx w.length 0 (some 1) = 1 := by unfold HT.sIx; simp; omega
  have e2 : HT.sIx w.length w.length (some 1) = 1 := by unfold HT.sIx; simp; omega
  have h' : w.cps.toList = c :: cs := h
  constructor
  · show (cutS w none (some 1)).cps.toList = [c]
    unfold cutS
    rw [e0, e2, h']
    simp
  · show (cutS w (some 1) none).cps.toList = cs
    unfold cutS
    rw [e1, en, h']
    simp
    rw [List.take_of_length_le (by omega)]
theorem intP_int {i : Int} (h : i.natAbs < 10 ^ 40) : intP (strInt i) = some i := by
  rcases Int.lt_or_le i 0 with hi | hi
  · obtain ⟨n, rfl⟩ : ∃ n : Nat, i = -((n + 1 : Nat) : Int) := ⟨i.natAbs - 1, by omega⟩
    obtain ⟨h1, h2⟩ := tl_hdS (tl_neg n)
    have e1 : hdS (strInt (-((n + 1 : Nat) : Int))) = "-" := tl_ext (by rw [h1]; decide +kernel)
    have e2 : tlS (strInt (-((n + 1 : Nat) : Int))) = strInt ((n + 1 : Nat) : Int) := tl_ext (by rw [h2, tl_nat])
    unfold intP
    rw [if_pos e1, e2, numP_nat (by omega)]
    unfold negP
    simp only
    rw [if_neg (by omega)]
  · obtain ⟨n, rfl⟩ : ∃ n : Nat, i = (n : Int) := ⟨i.toNat, by omega⟩
    unfold intP
    rw [if_neg, numP_nat (by omega)]
    intro e
    cases q : numL n with
    | nil => exact numL_ne n q
    | cons c cs =>
      obtain ⟨h1, _⟩ := tl_hdS ((tl_nat n).trans q)
      rw [e] at h1
      have e3 : tl ("-" : Str) = [45] := by decide +kernel
      rw [e3] at h1
      have : c = 45 := by simpa using h1.symm
      have hc := numL_digits n c (by rw [q]; exact List.mem_cons_self)
      omega
theorem free_int {i : Int} {s : Nat} (h : s < 45 ∨ (45 < s ∧ s < 48) ∨ 57 < s) : s ∉ tl (strInt i) := by
  rcases Int.lt_or_le i 0 with hi | hi
  · obtain ⟨n, rfl⟩ : ∃ n : Nat, i = -((n + 1 : Nat) : Int) := ⟨i.natAbs - 1, by omega⟩
    rw [tl_neg]
    intro m
    rcases List.mem_cons.mp m with e | m
    · omega
    · have := numL_digits _ _ m; omega
  · obtain ⟨n, rfl⟩ : ∃ n : Nat, i = (n : Int) := ⟨i.toNat, by omega⟩
    rw [tl_nat]
    intro m
    have := numL_digits _ _ m
    omega
theorem int_len {i : Int} (h : i.natAbs < 10 ^ 40) : (strInt i).length ≤ 41 := by
  rw [← tl_len]
  rcases Int.lt_or_le i 0 with hi | hi
  · obtain ⟨n, rfl⟩ : ∃ n : Nat, i = -((n + 1 : Nat) : Int) := ⟨i.natAbs - 1, by omega⟩
    rw [tl_neg]
    have := numL_len (n := n + 1) (k := 40) (by decide) (by omega)
    simp only [List.length_cons]; omega
  · obtain ⟨n, rfl⟩ : ∃ n : Nat, i = (n : Int) := ⟨i.toNat, by omega⟩
    rw [tl_nat]
    have := numL_len (n := n) (k := 40) (by decide) (by omega)
    omega
/-! ### fractions, gain lines -/
def frS (p : Int × Int) : Str := strInt p.1 ++ "/" ++ strInt p.2
theorem join2 {y a b : Str} : Txt.join y [a, b] = a ++ y ++ b := by rw [join_eq]; rfl
theorem fracP_S {p : Int × Int} (h1 : p.1.natAbs < 10 ^ 40) (h2 : 0 < p.2) (h3 : p.2.natAbs < 10 ^ 40) (hc : Nat.gcd p.1.natAbs p.2.natAbs = 1) : fracP (frS p) = some p := by
  have hsp : Txt.split (frS p) "/" = [strInt p.1, strInt p.2] := by
    unfold frS
    rw [← join2]
    refine split_join (s := 47) (S := []) (by decide +kernel) (by decide +kernel) (by simp) fun q m => ?_
    simp only [List.mem_cons, List.not_mem_nil, or_false] at m
    rcases m with rfl | rfl <;> exact free_int (by omega)
  obtain ⟨n, hn⟩ : ∃ n : Nat, p.2 = (n : Int) := ⟨p.2.toNat, by omega⟩
  unfold fracP
  rw [hsp]
  show fracQ (intP (strInt p.1)) (numP (strInt p.2)) = _
  rw [intP_int h1, hn, numP_nat (by omega)]
  show (if ((n : Int) = 0 ∨ Nat.gcd p.1.natAbs (n : Int).natAbs ≠ 1) then none else some (p.1, (n : Int))) = _
  rw [if_neg]
  · rw [← hn]
  · rintro (z | z)
    · omega
    · rw [hn] at hc; exact z hc
def gainS (g : GLine) : Str := "gain " ++ g.n ++ " " ++ strInt g.a ++ " " ++ strInt g.b
theorem gainS_join (g : GLine) : gainS g = Txt.join " " ["gain", g.n, strInt g.a, strInt g.b] := by
  rw [join_eq]
  refine tl_ext ?_
  rw [tl_join]
  unfold gainS
  simp only [tl_app, List.map_cons, List.map_nil]
  show _ = tl "gain" ++ (tl " " ++ (tl g.n ++ (tl " " ++ (tl (strInt g.a) ++ (tl " " ++ tl (strInt g.b))))))
  have e : tl ("gain " : Str) = tl "gain" ++ tl " " := by decide +kernel
  rw [e]
  simp only [List.append_assoc]
theorem nm_free {z : Str} (h : nmB z = true) {s : Nat} (hs : s < 48) : s ∉ tl z := by
  intro m
  unfold nmB at h
  have m' : s ∈ z.cps.toList := m
  cases q : z.cps.toList with
  | nil => rw [q] at m'; cases m'
  | cons c cs =>
    rw [q] at h m'
    have h : (isLow c && (c :: cs).all isLD) = true := h
    rw [Bool.and_eq_true, List.all_eq_true] at h
    have := h.2 s m'
    unfold isLD isLow isDg at this
    simp at this
    omega
theorem nm_isName {z : Str} (h : nmB z = true) (hl : z.length ≤ 12) : isNameP z = true := by
  unfold nmB at h
  have hlen : z.cps.toList.length = z.length := Array.length_toList
  have low : ∀ c, isLow c = true → inStr ⟨#[c]⟩ LET = true := by
    intro c hc
    have hL : LET.cps.toList = (List.range 26).map (97 + ·) := by decide +kernel
    show decide (c ∈ LET.cps.toList) = true
    rw [hL, decide_eq_true_eq, List.mem_map]
    unfold isLow at hc
    simp at hc
    exact ⟨c - 97, List.mem_range.mpr (by omega), by omega⟩
  have dg : ∀ c, isDg c = true → inStr ⟨#[c]⟩ DIG = true := fun c hc => by
    have : okD c = true := by rw [okD_dg]; exact hc
    exact this
  cases q : z.cps.toList with
  | nil => rw [q] at h; cases h
  | cons c cs =>
    rw [q] at h hlen
    have h : (isLow c && (c :: cs).all isLD) = true := h
    rw [Bool.and_eq_true, List.all_eq_true] at h
    unfold isNameP
    rw [q]
    simp only [Bool.and_eq_true, decide_eq_true_eq, List.all_eq_true]
    refine ⟨⟨⟨by simp only [List.length_cons] at hlen; omega, hl⟩, low c h.1⟩, fun d m => ?_⟩
    have := h.2 d m
    unfold isLD at this
    unfold okC
    rw [Bool.or_eq_true] at this ⊢
    rcases this with z | z
    · exact .inl (low d z)
    · exact .inr (dg d z)
/-- a gain as it is drawn -/
structure GLine.Ok (g : GLine) : Prop where
  nm : nmB g.n = true
  nl : g.n.length ≤ 12
  a : g.a.natAbs < 10 ^ 40
  b : g.b.natAbs < 10 ^ 40
theorem gainP_S {g : GLine} (h : g.Ok) : gainP (gainS g) = some g := by
  have hsp : Txt.split (gainS g) " " = [("gain" : Str), g.n, strInt g.a, strInt g.b] := by
    rw [gainS_join]
    refine split_join (s := 32) (S := []) (by decide +kernel) (by decide +kernel) (by simp) fun q m => ?_
    simp only [List.mem_cons, List.not_mem_nil, or_false] at m
    rcases m with rfl | rfl | rfl | rfl
    · decide +kernel
    · exact nm_free h.nm (by decide)
    · exact free_int (by omega)
    · exact free_int (by omega)
  unfold gainP
  rw [hsp]
  show (if ("gain" : Str) = "gain" ∧ isNameP g.n = true then gainQ g.n (intP (strInt g.a)) (intP (strInt g.b)) else none) = _
  rw [if_pos ⟨rfl, nm_isName h.nm h.nl⟩, intP_int h.a, intP_int h.b]
  rfl
end PL
/-! PL, part KM: drawn gains, fractions, lots. -/
namespace PL
open PySem PySem.Spec PyProof.Rows L2 TL
theorem gain0_ok {ns : List Int} {l : Nat} {st : Store} {Q : PV → Store → Prop} (hs : SrcAt st l) (k : ∀ i s, i.natAbs ≤ 6 → SrcAt s l → Gr [l] st s → Q (.int i) s) : Sat (m_law_gain [scr ns, .loc l, .int 0] st) Q := by
  refine sat_body ?_
  unfold f_law_gain
  simp only [List.map_cons, List.map_nil, List.length_cons, List.length_nil, Nat.reduceAdd, Nat.reduceSub, List.reduceReplicate, List.cons_append, List.nil_append]
  rw [ss_seq, ss_if, sat_test, sat_bin, sat_var rfl, sat_c, o_eqI, decide_eq_true rfl, sat_truth, if_pos rfl, ss_ret, sat_bin, sat_call, sat_cons, sat_var rfl, sat_cons, sat_var rfl, sat_cons, sat_c, sat_nil]
  refine ⟨rfl, draw' hs (by decide) (by decide) fun q s c0 c1 hs1 g1 => ?_⟩
  rw [sat_c, o_subI]
  exact k _ s (by omega) hs1 g1
theorem gain2_ok {ns : List Int} {l : Nat} {st : Store} {Q : PV → Store → Prop} (hs : SrcAt st l) (k : ∀ i s, i.natAbs < 10 ^ 40 → SrcAt s l → Gr [l] st s → Q (.int i) s) : Sat (m_law_gain [scr ns, .loc l, .int 2] st) Q := by
  refine sat_body ?_
  unfold f_law_gain
  simp only [List.map_cons, List.map_nil, List.length_cons, List.length_nil, Nat.reduceAdd, Nat.reduceSub, List.reduceReplicate, List.cons_append, List.nil_append]
  rw [ss_seq, ss_if, sat_test, sat_bin, sat_var rfl, sat_c, o_eqI, decide_eq_false (by decide), sat_truth, if_neg (by simp), ss_nil]
  rw [ss_seq, ss_if, sat_test, sat_bin, sat_var rfl, sat_c, o_eqI, decide_eq_false (by decide), sat_truth, if_neg (by simp), ss_nil]
  have p9 : ((10 : Int) ^ (9 : Int).toNat) = 1000000000 := by decide
  have p20 : ((10 : Int) ^ (20 : Int).toNat) = 100000000000000000000 := by decide
  rw [ss_seq, ss_set, sat_bin, sat_bin, sat_call, sat_cons, sat_var rfl, sat_cons, sat_var rfl, sat_cons, sat_bin, sat_c, sat_c, o_powI]
  refine ⟨⟨by decide, by decide, by decide⟩, ?_⟩
  rw [p9, sat_nil]
  refine ⟨rfl, draw' hs (by decide) (by decide +kernel) fun q s c0 c1 hs1 g1 => ?_⟩
  rw [sat_bin, sat_c, sat_c, o_powI]
  refine ⟨⟨by decide, by decide, by decide⟩, ?_⟩
  rw [p20, o_mulI]
  refine ⟨.inl (.inl (by omega)), ?_⟩
  rw [sat_call, sat_cons, sat_var rfl, sat_cons, sat_var rfl, sat_cons, sat_bin, sat_c, sat_c, o_powI]
  refine ⟨⟨by decide, by decide, by decide⟩, ?_⟩
  rw [p9, sat_nil]
  refine ⟨rfl, draw' hs1 (by decide) (by decide +kernel) fun q2 s2 d0 d1 hs2 g2 => ?_⟩
  rw [o_addI, ss_seq, ss_if, sat_test, sat_bin, sat_call, sat_cons, sat_var rfl, sat_cons, sat_var rfl, sat_cons, sat_c, sat_nil]
  refine ⟨rfl, draw' hs2 (by decide) (by decide) fun q3 s3 _ _ hs3 g3 => ?_⟩
  rw [sat_c, o_eqI, sat_truth]
  have gg := g1.trans (g2.trans g3)
  split
  · rw [ss_ret, sat_un, sat_var rfl, o_negI]
    exact k _ s3 (by omega) hs3 gg
  · rw [ss_nil, ss_ret, sat_var rfl]
    exact k _ s3 (by omega) hs3 gg
theorem fraction_made {t m : Int} {st : Store} {Q : PV → Store → Prop} (ht : t.natAbs ≤ 6) (hm : 0 < m) (hm2 : m ≤ 30)
    (k : ∀ p : Int × Int, p.1.natAbs ≤ 6 → 0 < p.2 → p.2 ≤ 30 → Nat.gcd p.1.natAbs p.2.natAbs = 1 → Q (frPV p) st) : Sat (m_law_fraction [.int t, .int m] st) Q := by
  refine sat_body ?_
  unfold f_law_fraction
  simp only [List.map_cons, List.map_nil, List.length_cons, List.length_nil, Nat.reduceAdd, Nat.reduceSub, List.reduceReplicate, List.cons_append, List.nil_append]
  rw [ss_seq, ss_if, sat_test, sat_bin, sat_var rfl, sat_c, o_ltI, decide_eq_false (by omega), sat_truth, if_neg (by simp), ss_nil]
  rw [ss_seq, ss_set, sat_call, sat_cons, sat_args, sat_cons, sat_var rfl, sat_nil, sat_one, o_abs, sat_cons, sat_var rfl, sat_nil]
  refine ⟨rfl, ?_⟩
  have e1 : (if t < 0 then -t else t) = ((t.natAbs : Nat) : Int) := by split <;> omega
  have e2 : m = ((m.natAbs : Nat) : Int) := by omega
  show Sat (m_law_gcd [.int (if t < 0 then -t else t), .int m] st) _
  rw [e1]
  have hg : Sat (m_law_gcd [.int ((t.natAbs : Nat) : Int), .int m] st) fun v s => v = .int (Nat.gcd t.natAbs m.natAbs) ∧ s = st := by
    have := gcd_ok (a := t.natAbs) (b := m.natAbs) (st := st) (bits_small (Nat.lt_of_le_of_lt (show m.natAbs ≤ 30 by omega) (by decide)))
    rwa [← e2] at this
  refine hg.mono ?_
  rintro _ _ ⟨rfl, rfl⟩
  have gp : 0 < Nat.gcd t.natAbs m.natAbs := Nat.gcd_pos_of_pos_right _ (by omega)
  have gd1 := Nat.gcd_dvd_left t.natAbs m.natAbs
  have gd2 := Nat.gcd_dvd_right t.natAbs m.natAbs
  have gle : Nat.gcd t.natAbs m.natAbs ≤ 30 := Nat.le_trans (Nat.le_of_dvd (by omega) gd2) (by omega)
  rw [ss_ret, sat_args, sat_cons, sat_bin, sat_var rfl, sat_var rfl, o_fdivI]
  have lg : ((Nat.gcd t.natAbs m.natAbs : Nat) : Int).natAbs.log2 < 9000 := Nat.lt_of_le_of_lt (Nat.log2_le_self _) (by omega)
  refine ⟨⟨by omega, lg⟩, ?_⟩
  rw [sat_cons, sat_bin, sat_var rfl, sat_var rfl, o_fdivI]
  refine ⟨⟨by omega, lg⟩, ?_⟩
  rw [sat_nil, sat_tup]
  refine ⟨sl2, ?_⟩
  have d1 : (t / ((Nat.gcd t.natAbs m.natAbs : Nat) : Int)).natAbs = t.natAbs / Nat.gcd t.natAbs m.natAbs := by
    have hd : ((Nat.gcd t.natAbs m.natAbs : Nat) : Int) ∣ t := Int.natAbs_dvd_natAbs.mp (by simpa using gd1)
    rw [Int.natAbs_ediv_of_dvd hd, Int.natAbs_natCast]
  have d2 : (m / ((Nat.gcd t.natAbs m.natAbs : Nat) : Int)).natAbs = m.natAbs / Nat.gcd t.natAbs m.natAbs := by
    have hd : ((Nat.gcd t.natAbs m.natAbs : Nat) : Int) ∣ m := Int.natAbs_dvd_natAbs.mp (by simpa using gd2)
    rw [Int.natAbs_ediv_of_dvd hd, Int.natAbs_natCast]
  refine k (t / ((Nat.gcd t.natAbs m.natAbs : Nat) : Int), m / ((Nat.gcd t.natAbs m.natAbs : Nat) : Int)) ?_ ?_ ?_ ?_
  · show (t / _).natAbs ≤ 6
    rw [d1]
    exact Nat.le_trans (Nat.div_le_self _ _) ht
  · show 0 < m / _
    exact Int.ediv_pos_of_pos_of_dvd hm (by omega) (Int.natAbs_dvd_natAbs.mp (by simpa using gd2))
  · show m / _ ≤ 30
    exact Int.le_trans (Int.ediv_le_self _ (by omega)) hm2
  · show Nat.gcd (t / _).natAbs (m / _).natAbs = 1
    rw [d1, d2]
    first
      | (rw [Nat.gcd_div gd1 gd2, Nat.div_self gp])
      | exact Nat.coprime_div_gcd_div_gcd gp
      | exact Nat.gcd_div_gcd_div_gcd_of_pos_left gp
end PL
/-! PL, part KN: drawn lots. -/
namespace PL
open PySem PySem.Spec PyProof.Rows L2 TL
theorem le_fold : ∀ (r : List Int) (a : Int), a ≤ r.foldl max a ∧ ∀ x ∈ r, x ≤ r.foldl max a
  | [], a => ⟨Int.le_refl _, nofun⟩
  | b :: r, a => by
    obtain ⟨h1, h2⟩ := le_fold r (max a b)
    rw [List.foldl_cons]
    refine ⟨by omega, fun x m => ?_⟩
    rcases List.mem_cons.mp m with rfl | m
    · omega
    · exact h2 x m
theorem maxL_pos {ws : List Int} (h : ∃ w ∈ ws, 0 < w) : maxL ws ≠ 0 := by
  obtain ⟨w, m, hw⟩ := h
  cases ws with
  | nil => cases m
  | cons a r =>
    have := le_fold r a
    show r.foldl max a ≠ 0
    rcases List.mem_cons.mp m with rfl | m
    · have := this.1; omega
    · have := this.2 w m; omega
theorem sum_zero : ∀ {ws : List Int}, (∀ w ∈ ws, 0 ≤ w) → (∀ w ∈ ws, ¬ 0 < w) → ws.sum = 0
  | [], _, _ => rfl
  | w :: ws, h, h2 => by
    have e := sum_zero (ws := ws) (fun x m => h x (List.mem_cons_of_mem _ m)) fun x m => h2 x (List.mem_cons_of_mem _ m)
    have := h w List.mem_cons_self
    have := h2 w List.mem_cons_self
    rw [List.sum_cons, e]; omega
theorem o_sumP {l : Nat} {ws : List Int} {st : Store} {Q : PV → Store → Prop} (h : st[l]? = some (.lst (ws.map .int))) : Sat (pSum (.loc l) st) Q = Q (.int ws.sum) st := by
  have : pSum (.loc l) st = .ok (.int ws.sum) st := by
    have hq : seqOf st (.loc l) = some (false, ws.map .int) := by unfold seqOf; simp only [h]
    unfold pSum
    simp only [hq, intsOf_ints]
  rw [this, sat_ok]
theorem lot_ok {ns : List Int} {l : Nat} {st : Store} {Q : PV → Store → Prop} {cnt : Int} (hs : SrcAt st l) (h1 : 1 ≤ cnt) (h2 : cnt ≤ 8)
    (k : ∀ (ws : List Int) s, (ws.length : Int) = cnt → (∀ w ∈ ws, 0 ≤ w ∧ w < 1000) → maxL ws ≠ 0 → SrcAt s l → Q (.tup (ws.map .int)) s) : Sat (m_law_lot [scr ns, .loc l, .int cnt] st) Q := by
  refine sat_body ?_
  unfold f_law_lot
  simp only [List.map_cons, List.map_nil, List.length_cons, List.length_nil, Nat.reduceAdd, Nat.reduceSub, List.reduceReplicate, List.cons_append, List.nil_append]
  rw [ss_seq, ss_set, sat_call, sat_cons, sat_var rfl, sat_cons, sat_var rfl, sat_cons, sat_c, sat_nil]
  refine ⟨rfl, draw' hs (by decide) (by decide) fun sty s0 _ _ hs0 _ => ?_⟩
  rw [ss_seq, ss_set, sat_args, sat_nil, sat_loc]
  refine ⟨sl0, ?_⟩
  have hs1 : SrcAt (s0 ++ [PO.lst []]) l := hs0.gr (L := []) .app (by simp)
  have hp1 : (s0 ++ [PO.lst []])[s0.length]? = some (.lst (([] : List Int).map .int)) := by simp
  have hlt := hs0.lt
  generalize s0 ++ [PO.lst []] = s1 at *
  generalize hlp : s0.length = lp at *
  refine seq_mid (fun e s => ∃ (ws : List Int) (b c : Option PV), e = ([some (scr ns), some (PV.loc l), some (PV.int (cnt)), some (PV.int (sty)), some (PV.loc lp), b, c] : PEnv) ∧ s[lp]? = some (.lst (ws.map .int)) ∧ (ws.length : Int) = cnt ∧ (∀ w ∈ ws, 0 ≤ w ∧ w < 1000) ∧ SrcAt s l) ?_ ?_
  · rw [ss_for, sat_iRange1, sat_var rfl, o_rng]
    refine ⟨by omega, ?_⟩
    refine for_invN (k := 0) (fun i e s => ∃ (ws : List Int) (b c : Option PV), e = ([some (scr ns), some (PV.loc l), some (PV.int (cnt)), some (PV.int (sty)), some (PV.loc lp), b, c] : PEnv) ∧ s[lp]? = some (.lst (ws.map .int)) ∧ ws.length = i ∧ (∀ w ∈ ws, 0 ≤ w ∧ w < 1000) ∧ SrcAt s l) ⟨[], none, none, rfl, hp1, rfl, nofun, hs1⟩ ?_ ?_
    · rintro i v e s hv ⟨ws, b, c, rfl, hp, hl, hw, hsr⟩
      obtain ⟨hi, rfl⟩ := rngs_get hv
      rw [Nat.zero_add] at hl ⊢
      refine ⟨_, rfl, ?_⟩
      rw [ss_seq, ss_set, sat_call, sat_cons, sat_var rfl, sat_cons, sat_var rfl, sat_cons, sat_c, sat_nil]
      refine ⟨rfl, draw' hsr (by decide) (by decide) fun q s2 c0 c1 hs2 g2 => ?_⟩
      have hp2 := g2.at' hp (by simp; omega)
      refine seq_mid (fun e t => ∃ w : Int, 0 ≤ w ∧ w < 1000 ∧ e = ([some (scr ns), some (PV.loc l), some (PV.int (cnt)), some (PV.int (sty)), some (PV.loc lp), (some (PV.int (0 + (i : Int)))), (some (PV.int w))] : PEnv) ∧ t = s2) ?_ ?_
      · rw [ss_if, sat_and, sat_test, sat_bin, sat_var rfl, sat_c, o_eqI, sat_truth]
        by_cases hz : sty = 0
        · rw [decide_eq_true hz, if_pos rfl, sat_test, sat_bin, sat_var rfl, sat_c, o_ltI, sat_truth]
          split
          · rw [ss_set, sat_c]
            exact ⟨0, by decide, by decide, rfl, rfl⟩
          · rw [ss_nil]
            exact ⟨q, c0, by omega, rfl, rfl⟩
        · rw [decide_eq_false hz, if_neg (by simp), if_neg (by simp), ss_nil]
          exact ⟨q, c0, by omega, rfl, rfl⟩
      rintro e t ⟨w, hw0, hw1, rfl, rfl⟩
      rw [ss_expr, sat_meth, sat_var rfl]
      refine ⟨o_isL hp2, ?_⟩
      rw [sat_cons, sat_var rfl, sat_nil, o_app hp2]
      refine ⟨by rw [sizeLine_eq, List.length_map]; omega, ws ++ [w], _, _, rfl, ?_, by rw [List.length_append, List.length_singleton]; omega, fun x m => ?_, hs2.gr (L := [lp]) (.set (by simp)) (by simp; omega)⟩
      · rw [List.getElem?_set_self (lt_of_some hp2)]
        simp
      · rcases List.mem_append.mp m with m | m
        · exact hw x m
        · rw [List.mem_singleton.mp m]; exact ⟨hw0, hw1⟩
    · rintro e s ⟨ws, b, c, rfl, hp, hl, hw, hsr⟩
      rw [rngs_len] at hl
      exact ⟨ws, b, c, rfl, hp, by omega, hw, hsr⟩
  rintro e s2 ⟨ws, b, c, rfl, hp, hl, hw, hsr⟩
  refine seq_mid (fun e s => ∃ (ws : List Int) (lq : Nat) (b c : Option PV), e = ([some (scr ns), some (PV.loc l), some (PV.int (cnt)), some (PV.int (sty)), some (PV.loc lq), b, c] : PEnv) ∧ s[lq]? = some (.lst (ws.map .int)) ∧ (ws.length : Int) = cnt ∧ (∀ w ∈ ws, 0 ≤ w ∧ w < 1000) ∧ maxL ws ≠ 0 ∧ SrcAt s l) ?_ ?_
  · have make : SatS ((sSeq (sSet 4 (eCompLoc [5] (iRange1 (eVar 2)) (.one 5) tYesM (eC (.int 0))))
      (sSub pSet (eVar 4) (eCall 3 m_law_draw (aCons (eVar 0) (aCons (eVar 1) (aCons (eVar 2) aNil)))) (eC (.int 1)))) (([some (scr ns), some (PV.loc l), some (PV.int (cnt)), some (PV.int (sty)), some (PV.loc lp), b, c] : PEnv)) s2) (fun e s => ∃ (ws : List Int) (lq : Nat) (b c : Option PV), e = ([some (scr ns), some (PV.loc l), some (PV.int (cnt)), some (PV.int (sty)), some (PV.loc lq), b, c] : PEnv) ∧ s[lq]? = some (.lst (ws.map .int)) ∧ (ws.length : Int) = cnt ∧ (∀ w ∈ ws, 0 ≤ w ∧ w < 1000) ∧ maxL ws ≠ 0 ∧ SrcAt s l) Q := by
      rw [ss_seq, ss_set, sat_comp, sat_iRange1, sat_var rfl, o_rng]
      refine ⟨by omega, ?_⟩
      refine comp_rng (fun y => y = .int 0) (fun t => t = s2) (by simp [wipeP]) (by omega) rfl (fun j t hI => by rw [sat_c]; exact ⟨rfl, hI⟩) fun ys t hl2 hE hI => ?_
      subst hI
      obtain ⟨zs, rfl, hz⟩ := ints_of (P := fun w => w = 0) fun y m => ⟨0, hE y m, rfl⟩
      rw [o_finT]
      have hq : (t ++ [PO.lst (ints' zs)])[t.length]? = some (.lst (ints' zs)) := by simp
      have hs3 : SrcAt (t ++ [PO.lst (ints' zs)]) l := hsr.gr (L := []) .app (by simp)
      have hlq := hsr.lt
      rw [ss_sub, sat_c, sat_var rfl, sat_call, sat_cons, sat_var rfl, sat_cons, sat_var rfl, sat_cons, sat_var rfl, sat_nil]
      refine ⟨rfl, draw' hs3 (by omega) (Nat.lt_of_le_of_lt (Nat.log2_le_self _) (by omega)) fun q s4 c0 c1 hs4 g4 => ?_⟩
      have hq4 := g4.at' hq (by simp; omega)
      obtain ⟨j, rfl⟩ := Int.eq_ofNat_of_zero_le c0
      have hzl : zs.length = cnt.toNat := by simpa using hl2
      have hj : j < zs.length := by omega
      rw [o_set hq4]
      have ej : ixN (ints' zs).length (j : Int) = some j := by
        unfold ixN
        rw [if_pos (by omega), if_pos (by rw [List.length_map]; omega)]
        simp
      rw [ej]
      refine ⟨zs.set j 1, t.length, _, _, rfl, ?_, by rw [List.length_set]; omega, fun w m => ?_, maxL_pos ⟨1, ?_, by decide⟩, hs4.gr (L := [t.length]) (.set (by simp)) (by simp; omega)⟩
      · rw [List.getElem?_set_self (lt_of_some hq4), List.map_set]
      · rcases List.mem_or_eq_of_mem_set m with m | rfl
        · rw [hz w m]; decide
        · decide
      · exact List.mem_iff_getElem?.mpr ⟨j, by rw [List.getElem?_set_self hj]⟩
    rw [ss_if, sat_or, sat_test, sat_bin, sat_var rfl, sat_c, o_eqI, sat_truth]
    by_cases h3 : sty = 1
    · rw [decide_eq_true h3, if_pos rfl, if_pos rfl]
      exact make
    · rw [decide_eq_false h3, if_neg (by simp), sat_test, sat_bin, sat_args, sat_cons, sat_var rfl, sat_nil, sat_one, o_sumP hp, sat_c, o_eqI, sat_truth]
      by_cases h4 : ws.sum = 0
      · rw [decide_eq_true h4, if_pos rfl]
        exact make
      · rw [decide_eq_false h4, if_neg (by simp), ss_nil]
        refine ⟨ws, lp, _, _, rfl, hp, hl, hw, maxL_pos ?_, hsr⟩
        by_cases hx : ∃ w ∈ ws, 0 < w
        · exact hx
        · exact absurd (sum_zero (fun w m => (hw w m).1) fun w m hp => hx ⟨w, m, hp⟩) h4
  rintro e s3 ⟨ws, lq, b, c, rfl, hq, hl, hw, hm, hs3⟩
  rw [ss_ret, sat_args, sat_cons, sat_var rfl, sat_nil, sat_one, o_tupP hq]
  exact k ws s3 hl hw hm hs3
end PL
/-! PL, part KO: gains, lots and parts, written. -/
namespace PL
open PySem PySem.Spec PyProof.Rows L2 TL
theorem log_big {i : Int} (h : i.natAbs < 10 ^ 40) : i.natAbs.log2 < 1920 := by
  by_cases h0 : i.natAbs = 0
  · rw [h0]; decide
  · exact Nat.lt_trans ((Nat.log2_lt h0).mpr (Nat.lt_trans h (show 10 ^ 40 < 2 ^ 200 by decide))) (by decide)
def FrOk (p : Int × Int) : Prop := p.1.natAbs ≤ 6 ∧ 0 < p.2 ∧ p.2 ≤ 30 ∧ Nat.gcd p.1.natAbs p.2.natAbs = 1
theorem FrOk.b1 {p : Int × Int} (h : FrOk p) : p.1.natAbs < 10 ^ 40 := Nat.lt_of_le_of_lt h.1 (by decide)
theorem FrOk.b2 {p : Int × Int} (h : FrOk p) : p.2.natAbs < 10 ^ 40 := Nat.lt_of_le_of_lt (show p.2.natAbs ≤ 30 by have := h.2; omega) (by decide)
theorem frac_back {p : Int × Int} (h : FrOk p) : fracP (frS p) = some p := fracP_S h.b1 h.2.1 h.b2 h.2.2.2
theorem slash1 : ("/" : Str).length = 1 := by decide +kernel
theorem frS_len {p : Int × Int} (h : FrOk p) : (frS p).length ≤ 83 := by
  unfold frS
  rw [len_app, len_app, slash1]
  have := int_len h.b1
  have := int_len h.b2
  omega
theorem fr_ix0 {p : Int × Int} {s : Store} {Q : PV → Store → Prop} : Sat (pIx (frPV p) (.int 0) s) Q = Q (.int p.1) s := by unfold frPV; rw [o_ixT, ixW_0]
theorem fr_ix1 {p : Int × Int} {s : Store} {Q : PV → Store → Prop} : Sat (pIx (frPV p) (.int 1) s) Q = Q (.int p.2) s := by unfold frPV; rw [o_ixT, ixW_1]
theorem format_fraction_eq {p : Int × Int} {st : Store} (h : FrOk p) : m_format_fraction [frPV p] st = .ok (.str (frS p)) st := by
  refine det fun Q k => sat_body ?_
  unfold f_format_fraction
  simp only [List.map_cons, List.map_nil, List.length_cons, List.length_nil, Nat.reduceAdd, Nat.reduceSub, List.reduceReplicate, List.cons_append, List.nil_append]
  have l1 := int_len h.b1
  have l2 := int_len h.b2
  rw [ss_ret, sat_bin, sat_bin, sat_args, sat_cons, sat_bin, sat_var rfl, sat_c, fr_ix0, sat_nil, sat_one, o_str]
  refine ⟨log_big h.b1, ?_⟩
  rw [sat_c, o_addS]
  refine ⟨by rw [slash1, sizeLine_eq]; omega, ?_⟩
  rw [sat_args, sat_cons, sat_bin, sat_var rfl, sat_c, fr_ix1, sat_nil, sat_one, o_str]
  refine ⟨log_big h.b2, ?_⟩
  rw [o_addS]
  refine ⟨by rw [len_app, slash1, sizeLine_eq]; omega, ?_⟩
  exact k
theorem o_join {a : Str} {ys : List Str} {v : PV} {b : Bool} {st : Store} {Q : PV → Store → Prop} (hv : seqOf st v = some (b, ys.map .str)) (h : (ys.map (·.length)).sum + ys.length * a.length ≤ 100000) : Sat (pJoin (.str a) [v] st) Q = Q (.str (Txt.join a ys)) st := by
  have : pJoin (.str a) [v] st = .ok (.str (Txt.join a ys)) st := by
    unfold pJoin
    simp only [hv, strsOf_strs]
    rw [if_pos (by omega)]
  rw [this, sat_ok]
theorem sum_le {ys : List Str} {n : Nat} (h : ∀ y ∈ ys, y.length ≤ n) : (ys.map (·.length)).sum ≤ ys.length * n := by
  induction ys with
  | nil => simp
  | cons y ys ih =>
    have := ih fun z m => h z (List.mem_cons_of_mem _ m)
    have := h y List.mem_cons_self
    rw [List.map_cons, List.sum_cons, List.length_cons, Nat.add_mul, Nat.one_mul]
    omega
def lotS (ws : List Int) : List Str := "lot" :: ws.map strInt
def partS (ps : List (Int × Int)) : List Str := "prices" :: ps.map frS
theorem space1 : (" " : Str).length = 1 := by decide +kernel
theorem lotS_len {ws : List Int} (h : ∀ w ∈ ws, 0 ≤ w ∧ w < 1000) (hl : ws.length ≤ 8) : ((lotS ws).map (·.length)).sum + (lotS ws).length * (" " : Str).length ≤ 1000 := by
  have := sum_le (ys := lotS ws) (n := 41) fun y m => by
    rcases List.mem_cons.mp m with rfl | m
    · decide +kernel
    · obtain ⟨w, mw, rfl⟩ := List.mem_map.mp m
      exact int_len (Nat.lt_of_lt_of_le (show w.natAbs < 1000 by have := h w mw; omega) (by decide))
  have hL : (lotS ws).length ≤ 9 := by unfold lotS; simp; omega
  have : (lotS ws).length * 41 ≤ 9 * 41 := Nat.mul_le_mul_right _ hL
  rw [space1]
  omega
theorem partS_len {ps : List (Int × Int)} (h : ∀ p ∈ ps, FrOk p) (hl : ps.length ≤ 5) : ((partS ps).map (·.length)).sum + (partS ps).length * (" " : Str).length ≤ 1000 := by
  have := sum_le (ys := partS ps) (n := 83) fun y m => by
    rcases List.mem_cons.mp m with rfl | m
    · decide +kernel
    · obtain ⟨p, mp, rfl⟩ := List.mem_map.mp m
      exact frS_len (h p mp)
  have hL : (partS ps).length ≤ 6 := by unfold partS; simp; omega
  have : (partS ps).length * 83 ≤ 6 * 83 := Nat.mul_le_mul_right _ hL
  rw [space1]
  omega
theorem format_lot_eq {ws : List Int} {st : Store} (h : ∀ w ∈ ws, 0 ≤ w ∧ w < 1000) (hl : ws.length ≤ 8) : m_format_lot [.tup (ws.map .int)] st = .ok (.str (Txt.join " " (lotS ws))) st := by
  refine det fun Q k => sat_body ?_
  unfold f_format_lot
  simp only [List.map_cons, List.map_nil, List.length_cons, List.length_nil, Nat.reduceAdd, Nat.reduceSub, List.reduceReplicate, List.cons_append, List.nil_append]
  rw [ss_ret, sat_meth, sat_c]
  refine ⟨rfl, ?_⟩
  rw [sat_cons, sat_bin, sat_args, sat_cons, sat_c, sat_nil, sat_lst]
  refine ⟨sl1, ?_⟩
  rw [sat_comp, sat_iVal, sat_var rfl, o_itT]
  refine comp_map (as := ws) (f := PV.int) (g := fun w => PV.str (strInt w)) (by simp [wipeP]) (by omega) (fun w mw => det fun Q k => by
    rw [sat_args, sat_cons, sat_var (v := .int w) (by simp [wipeP]), sat_nil, sat_one, o_str]
    exact ⟨log_big (Nat.lt_of_lt_of_le (show w.natAbs < 1000 by have := h w mw; omega) (by decide)), k⟩) ?_ _ trivial
  rw [o_finF, o_addL]
  refine ⟨by rw [sizeLine_eq, List.length_map, List.length_singleton]; omega, ?_⟩
  have e : [PV.str "lot"] ++ ws.map (fun w => PV.str (strInt w)) = (lotS ws).map .str := by unfold lotS; simp
  rw [e, sat_nil, o_join (b := false) rfl (by have := lotS_len h hl; omega)]
  exact k
theorem format_parts_eq {ps : List (Int × Int)} {st : Store} (h : ∀ p ∈ ps, FrOk p) (hl : ps.length ≤ 5) : m_format_parts [.str "prices", .tup (ps.map frPV)] st = .ok (.str (Txt.join " " (partS ps))) st := by
  refine det fun Q k => sat_body ?_
  unfold f_format_parts
  simp only [List.map_cons, List.map_nil, List.length_cons, List.length_nil, Nat.reduceAdd, Nat.reduceSub, List.reduceReplicate, List.cons_append, List.nil_append]
  rw [ss_ret, sat_meth, sat_c]
  refine ⟨rfl, ?_⟩
  rw [sat_cons, sat_bin, sat_args, sat_cons, sat_var rfl, sat_nil, sat_lst]
  refine ⟨sl1, ?_⟩
  rw [sat_comp, sat_iVal, sat_var rfl, o_itT]
  refine comp_map (as := ps) (f := frPV) (g := fun p => PV.str (frS p)) (by simp [wipeP]) (by omega) (fun p mp => det fun Q k => by
    rw [sat_call, sat_cons, sat_var (v := frPV p) (by simp [wipeP]), sat_nil, format_fraction_eq (h p mp), sat_ok]
    exact ⟨rfl, k⟩) ?_ _ trivial
  rw [o_finF, o_addL]
  refine ⟨by rw [sizeLine_eq, List.length_map, List.length_singleton]; omega, ?_⟩
  have e : [PV.str "prices"] ++ ps.map (fun p => PV.str (frS p)) = (partS ps).map .str := by unfold partS; simp
  rw [e, sat_nil, o_join (b := false) rfl (by have := partS_len h hl; omega)]
  exact k
/-! ### read back -/
theorem seqP_all {α : Type} {os : List (Option α)} {as : List α} (h : os = as.map some) : seqP os = some as := by
  subst h
  induction as with
  | nil => rfl
  | cons a r ih => show (match seqP (r.map some) with | some as => some (a :: as) | none => none) = _; rw [ih]
theorem lot_back {ws : List Int} (h : ∀ w ∈ ws, 0 ≤ w ∧ w < 1000) (hne : ws ≠ []) (hm : maxL ws ≠ 0) : lotP (Txt.join " " (lotS ws)) = .tup (ws.map .int) := by
  have hsp : Txt.split (Txt.join " " (lotS ws)) " " = lotS ws := split_join (s := 32) (S := []) (by decide +kernel) (by decide +kernel) (by simp [lotS]) fun q m => by
    rcases List.mem_cons.mp m with rfl | m
    · decide +kernel
    · obtain ⟨w, _, rfl⟩ := List.mem_map.mp m
      exact free_int (by omega)
  unfold lotP
  rw [hsp]
  show (if ("lot" : Str) = "lot" ∧ ws.map strInt ≠ [] then lotQ (seqP ((ws.map strInt).map numP)) else .non) = _
  rw [if_pos ⟨rfl, by simpa using hne⟩, seqP_all (as := ws)]
  · show (if maxL ws = 0 then PV.non else .tup (ws.map .int)) = _
    rw [if_neg hm]
  · rw [List.map_map]
    refine List.map_congr_left fun w mw => ?_
    have hw := h w mw
    obtain ⟨n, rfl⟩ : ∃ n : Nat, w = (n : Int) := ⟨w.toNat, by omega⟩
    exact numP_nat (Nat.lt_of_lt_of_le (show n < 1000 by omega) (by decide))
theorem parts_back {ps : List (Int × Int)} (h : ∀ p ∈ ps, FrOk p) : partsP "prices" (Txt.join " " (partS ps)) = .tup (ps.map frPV) := by
  have hsp : Txt.split (Txt.join " " (partS ps)) " " = partS ps := split_join (s := 32) (S := []) (by decide +kernel) (by decide +kernel) (by simp [partS]) fun q m => by
    rcases List.mem_cons.mp m with rfl | m
    · decide +kernel
    · obtain ⟨p, _, rfl⟩ := List.mem_map.mp m
      unfold frS
      rw [tl_app, tl_app]
      intro z
      rcases List.mem_append.mp z with z | z
      · rcases List.mem_append.mp z with z | z
        · exact free_int (by omega) z
        · revert z; decide +kernel
      · exact free_int (by omega) z
  unfold partsP
  rw [hsp]
  show (if ("prices" : Str) = "prices" then wordsP frPV (seqP ((ps.map frS).map fracP)) else .non) = _
  rw [if_pos rfl, seqP_all (as := ps)]
  · rfl
  · rw [List.map_map]
    exact List.map_congr_left fun p mp => frac_back (h p mp)
end PL
/-! PL, part KP: gains in order, written. -/
namespace PL
open PySem PySem.Spec PyProof.Rows L2 TL
def leG (a b : GLine) : Bool := leS a.n b.n
def srt (gs : List GLine) : List GLine := gs.mergeSort leG
theorem srt_names (gs : List GLine) : (gs.map (·.n)).mergeSort leS = (srt gs).map (·.n) := (PySem.W.sort_maps GLine.n (r := leG) (s := leS) fun _ _ _ _ => rfl).symm
theorem srt_perm (gs : List GLine) : (srt gs).Perm gs := List.mergeSort_perm ..
theorem srt_asc {gs : List GLine} (nd : (gs.map (·.n)).Nodup) : (srt gs).Pairwise fun a b => strLt a.n b.n = true := by
  have h1 : (srt gs).Pairwise fun a b => leG a b = true := List.pairwise_mergeSort (fun a b c h h' => leS_trans a.n b.n c.n h h') (fun a b => leS_total a.n b.n) gs
  have h2 : (srt gs).Pairwise fun a b => a.n ≠ b.n := by
    have := (((srt_perm gs).map (·.n)).nodup_iff).mpr nd
    rwa [List.nodup_iff_pairwise_ne, List.pairwise_map] at this
  refine (h1.and h2).imp fun ⟨h3, h4⟩ => ?_
  cases q : strLt _ _ with
  | true => rfl
  | false =>
    refine absurd (leS_anti h3 ?_) h4
    unfold leS
    unfold strLt at q
    rw [PySem.W.dataLt_str] at q
    rw [q]; rfl
theorem scan_written : ∀ (xs : List GLine) (last : Str), (∀ g ∈ xs, g.Ok) → (∀ g ∈ xs, strLt last g.n = true) → xs.Pairwise (fun a b => strLt a.n b.n = true) → scan last (xs.map gainS) = (xs, false)
  | [], _, _, _, _ => rfl
  | g :: xs, last, h1, h2, h3 => by
    rw [List.pairwise_cons] at h3
    have ih := scan_written xs g.n (fun x m => h1 x (List.mem_cons_of_mem _ m)) h3.1 h3.2
    rw [List.map_cons]
    unfold scan
    rw [gainP_S (h1 g List.mem_cons_self)]
    simp only
    rw [if_pos (h2 g List.mem_cons_self), ih]
theorem lt_nil {z : Str} (h : nmB z = true) : strLt "" z = true := by
  rw [strLt_iff]
  have e : ("" : Str).cps.toList = [] := by decide +kernel
  rw [e]
  unfold nmB at h
  cases q : z.cps.toList with
  | nil => rw [q] at h; cases h
  | cons c cs => exact List.nil_lt_cons _ _
structure GsOk (gs : List GLine) : Prop where
  ok : ∀ g ∈ gs, g.Ok
  nd : (gs.map (·.n)).Nodup
  len : gs.length ≤ 7
theorem scan_srt {gs : List GLine} (h : GsOk gs) : scan "" ((srt gs).map gainS) = (srt gs, false) :=
  scan_written _ _ (fun g m => h.ok g ((srt_perm gs).mem_iff.mp m)) (fun g m => lt_nil (h.ok g ((srt_perm gs).mem_iff.mp m)).nm) (srt_asc h.nd)
theorem keys_gkv (gs : List GLine) : keyStrs (gs.map gkv) = some (gs.map (·.n)) := by
  induction gs with
  | nil => rfl
  | cons g gs ih => show (keyStrs (gs.map gkv)).map (g.n :: ·) = _; rw [ih]; rfl
theorem get_gkv {gs : List GLine} (nd : (gs.map (·.n)).Nodup) {g : GLine} (m : g ∈ gs) : dget (gs.map gkv) (.inr g.n) = some g.pair := by
  obtain ⟨i, hi, e⟩ := List.getElem_of_mem m
  have := dget_at (kvs := gs.map gkv) (i := i) (p := gkv g) (keyStrs_nd (keys_gkv gs) nd) (by rw [List.getElem?_map, List.getElem?_eq_getElem hi, e]; rfl)
  exact this
theorem five : ("gain " : Str).length = 5 := by decide +kernel
theorem gainS_len {g : GLine} (h : g.Ok) : (gainS g).length ≤ 101 := by
  have l1 := int_len h.a
  have l2 := int_len h.b
  have := h.nl
  unfold gainS
  rw [len_app, len_app, len_app, len_app, len_app, five, space1]
  omega
/-- a line of gains, put together -/
theorem line_made {g : GLine} (h : g.Ok) {s : Store} {Q : PV → Store → Prop} {f0 f1 f2 : EM} {env : PEnv} (k : Q (.str (gainS g)) s) (h0 : f0 env s = .ok (.str g.n) s) (h1 : f1 env s = .ok (.int g.a) s) (h2 : f2 env s = .ok (.int g.b) s) :
    Sat ((eBin pAdd (eBin pAdd (eBin pAdd (eBin pAdd (eBin pAdd (eC (.str "gain ")) f0) (eC (.str " "))) (eArgs (one pStr) (aCons f1 aNil))) (eC (.str " "))) (eArgs (one pStr) (aCons f2 aNil))) env s) Q := by
  have l1 := int_len h.a
  have l2 := int_len h.b
  have l3 := h.nl
  rw [sat_bin, sat_bin, sat_bin, sat_bin, sat_bin, sat_c, h0, sat_ok, o_addS]
  refine ⟨by rw [five, sizeLine_eq]; omega, ?_⟩
  rw [sat_c, o_addS]
  refine ⟨by rw [len_app, five, space1, sizeLine_eq]; omega, ?_⟩
  rw [sat_args, sat_cons, h1, sat_ok, sat_nil, sat_one, o_str]
  refine ⟨log_big h.a, ?_⟩
  rw [o_addS]
  refine ⟨by rw [len_app, len_app, five, space1, sizeLine_eq]; omega, ?_⟩
  rw [sat_c, o_addS]
  refine ⟨by rw [len_app, len_app, len_app, five, space1, sizeLine_eq]; omega, ?_⟩
  rw [sat_args, sat_cons, h2, sat_ok, sat_nil, sat_one, o_str]
  refine ⟨log_big h.b, ?_⟩
  rw [o_addS]
  refine ⟨by rw [len_app, len_app, len_app, len_app, five, space1, sizeLine_eq]; omega, ?_⟩
  exact k
theorem lines_len {gs : List GLine} (h : GsOk gs) : (((srt gs).map gainS).map (·.length)).sum + ((srt gs).map gainS).length * ("\n" : Str).length ≤ 1000 := by
  have := sum_le (ys := (srt gs).map gainS) (n := 101) fun y m => by
    obtain ⟨g, mg, rfl⟩ := List.mem_map.mp m
    exact gainS_len (h.ok g ((srt_perm gs).mem_iff.mp mg))
  have hL : ((srt gs).map gainS).length ≤ 7 := by rw [List.length_map, (srt_perm gs).length_eq]; exact h.len
  have : ((srt gs).map gainS).length * 101 ≤ 7 * 101 := Nat.mul_le_mul_right _ hL
  have e : ("\n" : Str).length = 1 := by decide +kernel
  rw [e]
  omega
theorem format_gains_ok {gs : List GLine} {gp : Nat} {st : Store} {Q : PV → Store → Prop} (h : GsOk gs) (hg : st[gp]? = some (.dic (gs.map gkv))) (k : ∀ s, Gr [] st s → Q (.str (Txt.join "\n" ((srt gs).map gainS))) s) : Sat (m_format_gains [.loc gp] st) Q := by
  refine sat_body ?_
  unfold f_format_gains
  simp only [List.map_cons, List.map_nil, List.length_cons, List.length_nil, Nat.reduceAdd, Nat.reduceSub, List.reduceReplicate, List.cons_append, List.nil_append]
  have hgl := lt_of_some hg
  rw [ss_seq, ss_set, sat_args, sat_nil, sat_loc]
  refine ⟨sl0, ?_⟩
  have hp0 : (st ++ [PO.lst []])[st.length]? = some (.lst (([] : List Str).map .str)) := by simp
  have g0 : Gr [] st (st ++ [PO.lst []]) := .app
  have hg0 := g0.at' hg (by simp)
  generalize st ++ [PO.lst []] = s0 at *
  generalize hlp : st.length = lp at *
  have dc : ∀ s : Store, s[gp]? = some (.dic (gs.map gkv)) → dicOf s (.loc gp) = some (gs.map gkv) := fun s h => by unfold dicOf; simp only [h]
  have hsl : (srt gs).length = gs.length := (srt_perm gs).length_eq
  have hgs := h.len
  rw [ss_seq, ss_for, sat_iVal, sat_args, sat_cons, sat_var rfl, sat_nil, o_sortD (dc s0 hg0) (keys_gkv gs) (by rw [List.length_map]; omega), srt_names, o_itL]
  refine for_invN (k := 0) (fun i e s => (∃ a b c, e = ([some (.loc gp), some (.loc lp), a, b, c] : PEnv)) ∧ s[lp]? = some (.lst ((((srt gs).take i).map gainS).map .str)) ∧ s[gp]? = some (.dic (gs.map gkv)) ∧ Gr [lp] s0 s) ⟨⟨_, _, _, rfl⟩, by simpa using hp0, hg0, .refl⟩ ?_ ?_
  · rintro i v e s hv ⟨⟨a, b, c, rfl⟩, hp, hd, hgr⟩
    rw [Nat.zero_add] at hp ⊢
    rw [List.getElem?_map, List.getElem?_map] at hv
    cases eg : (srt gs)[i]? with
    | none => rw [eg] at hv; cases hv
    | some g =>
      rw [eg] at hv
      cases hv
      have mg : g ∈ gs := (srt_perm gs).mem_iff.mp (List.mem_of_getElem? eg)
      have ok := h.ok g mg
      refine ⟨_, rfl, ?_⟩
      rw [ss_seq, ss_tg, sat_bin, sat_var rfl, sat_var (v := keyPV (.inr g.n)) rfl, o_getD (dc s hd) (get_gkv h.nd mg)]
      refine ⟨[some (.loc gp), some (.loc lp), some (.str g.n), some (.int g.a), some (.int g.b)], rfl, ?_⟩
      rw [ss_expr, sat_meth, sat_var rfl]
      refine ⟨o_isL hp, ?_⟩
      rw [sat_cons]
      refine line_made ok ?_ (det fun Q k => by rw [sat_var rfl]; exact k) (det fun Q k => by rw [sat_var rfl]; exact k) (det fun Q k => by rw [sat_var rfl]; exact k)
      rw [sat_nil, o_app hp]
      refine ⟨by rw [sizeLine_eq, List.length_map, List.length_map, List.length_take]; omega, ⟨_, _, _, rfl⟩, ?_, ?_, hgr.trans (.set (by simp))⟩
      · rw [List.getElem?_set_self (lt_of_some hp), List.take_add_one, eg]
        simp
      · rw [List.getElem?_set_ne (by omega)]; exact hd
  · rintro e s ⟨⟨a, b, c, rfl⟩, hp, hd, hgr⟩
    rw [List.length_map, List.length_map, Nat.zero_add, List.take_length] at hp
    rw [ss_ret, sat_meth, sat_c]
    refine ⟨rfl, ?_⟩
    have hq : seqOf s (.loc lp) = some (false, ((srt gs).map gainS).map .str) := by unfold seqOf; simp only [hp]
    rw [sat_cons, sat_var rfl, sat_nil, o_join hq (by have := lines_len h; omega)]
    refine k s (((g0.mono (by simp)).trans hgr).cut (L := [lp]) fun j hj hlt => ?_)
    simp only [List.mem_singleton] at hj
    omega
end PL
/-! PL, part KQ: bent lines. -/
namespace PL
open PySem PySem.Spec PyProof.Rows L2 TL
def sumL (ys : List Str) : Nat := (ys.map (·.length)).sum
theorem sumL_app (xs ys : List Str) : sumL (xs ++ ys) = sumL xs + sumL ys := by unfold sumL; simp
theorem sumL_cut (ys : List Str) (i : Nat) : sumL (ys.take i) + sumL (ys.drop i) = sumL ys := by
  rw [← sumL_app, List.take_append_drop]
theorem sumL_mem {ys : List Str} {y : Str} (m : y ∈ ys) : y.length ≤ sumL ys := by
  induction ys with
  | nil => cases m
  | cons x ys ih =>
    have e : sumL (x :: ys) = x.length + sumL ys := by unfold sumL; simp
    rw [e]
    rcases List.mem_cons.mp m with rfl | m
    · omega
    · have := ih m; omega
theorem sumL_drop (ys : List Str) (i : Nat) : sumL (ys.drop (i + 1)) ≤ sumL (ys.drop i) := by
  have : ys.drop (i + 1) = (ys.drop i).drop 1 := by rw [List.drop_drop]
  rw [this]
  have := sumL_cut (ys.drop i) 1
  omega
theorem joinL_sum {S : List Nat} : ∀ ps : List (List Nat), (ps.map List.length).sum ≤ (joinL S ps).length ∧ (joinL S ps).length ≤ (ps.map List.length).sum + ps.length * S.length
  | [] => by simp [joinL]
  | [p] => by simp [joinL]
  | p :: q :: r => by
    have ih := joinL_sum (S := S) (q :: r)
    have e : (joinL S (p :: q :: r)).length = p.length + (S.length + (joinL S (q :: r)).length) := by
      show (p ++ (S ++ joinL S (q :: r))).length = _
      rw [List.length_append, List.length_append]
    rw [e, List.map_cons, List.sum_cons, List.length_cons, Nat.add_mul, Nat.one_mul]
    omega
theorem joinL_mem2 {S : List Nat} {c : Nat} : ∀ {ps : List (List Nat)} {p : List Nat}, p ∈ ps → c ∈ p → c ∈ joinL S ps
  | [q], p, m, h => by rw [List.mem_singleton.mp m] at h; exact h
  | q :: r :: ps, p, m, h => by
    show c ∈ q ++ (S ++ joinL S (r :: ps))
    rcases List.mem_cons.mp m with rfl | m
    · exact List.mem_append_left _ h
    · exact List.mem_append_right _ (List.mem_append_right _ (joinL_mem2 m h))
theorem joinL_free {S : List Nat} {c : Nat} (hS : c ∉ S) : ∀ {ps : List (List Nat)}, (∀ p ∈ ps, c ∉ p) → c ∉ joinL S ps
  | [], _ => by simp [joinL]
  | [q], h => h q (by simp)
  | q :: r :: ps, h => by
    intro m
    have m : c ∈ q ++ (S ++ joinL S (r :: ps)) := m
    rcases List.mem_append.mp m with m | m
    · exact h q (by simp) m
    · rcases List.mem_append.mp m with m | m
      · exact hS m
      · exact joinL_free hS (fun p mp => h p (List.mem_cons_of_mem _ mp)) m
theorem split_sum {x y : Str} : sumL (Txt.split x y) ≤ x.length := by
  have h := tl_join y (Txt.split x y)
  rw [PySem.StrLaws.join_split x y] at h
  have h2 := (joinL_sum (S := tl y) ((Txt.split x y).map tl)).1
  rw [← h, tl_len, List.map_map] at h2
  have e : (Txt.split x y).map (List.length ∘ tl) = (Txt.split x y).map (·.length) := List.map_congr_left fun z _ => tl_len z
  rw [e] at h2
  exact h2
theorem split_free {x y p : Str} {c : Nat} (m : p ∈ Txt.split x y) (h : c ∉ tl x) : c ∉ tl p := fun hc => by
  have e := tl_join y (Txt.split x y)
  rw [PySem.StrLaws.join_split x y] at e
  rw [e] at h
  exact h (joinL_mem2 (List.mem_map.mpr ⟨p, m, rfl⟩) hc)
theorem join_len {y : Str} {ps : List Str} : (Txt.join y ps).length ≤ sumL ps + ps.length * y.length := by
  rw [← tl_len, join_eq, tl_join]
  have := (joinL_sum (S := tl y) (ps.map tl)).2
  rw [List.map_map, List.length_map, tl_len] at this
  have e : ps.map (List.length ∘ tl) = ps.map (·.length) := List.map_congr_left fun z _ => tl_len z
  rw [e] at this
  exact this
theorem join_free {y : Str} {ps : List Str} {c : Nat} (hy : c ∉ tl y) (h : ∀ p ∈ ps, c ∉ tl p) : c ∉ tl (Txt.join y ps) := by
  rw [join_eq, tl_join]
  refine joinL_free hy fun p m => ?_
  obtain ⟨z, mz, rfl⟩ := List.mem_map.mp m
  exact h z mz
theorem cut_lo {xs : List PV} {i : Nat} (h : i ≤ xs.length) : cutP xs none (some (i : Int)) = xs.take i := by
  unfold cutP
  have h1 : HT.sIx xs.length 0 none = 0 := by unfold HT.sIx; first | rfl | simp
  have h2 : HT.sIx xs.length xs.length (some (i : Int)) = i := by
    unfold HT.sIx
    simp; split <;> omega
  rw [h1, h2, List.drop_zero, Nat.sub_zero]
/-- the words of a bent line -/
structure Bent (ws ws' : List Str) : Prop where
  sum : sumL ws' ≤ sumL ws + 50
  len : ws'.length ≤ ws.length + 1
  free : ∀ w ∈ ws', 10 ∉ tl w
def mid (ws : List Str) (i j : Nat) (m : List Str) : List Str := ws.take i ++ m ++ ws.drop j
theorem bent_mid {ws : List Str} {i j : Nat} {m : List Str} (hj : j = i ∨ j = i + 1) (hf : ∀ w ∈ ws, 10 ∉ tl w) (hm : ∀ w ∈ m, 10 ∉ tl w) (hs : sumL m + sumL (ws.drop j) ≤ sumL (ws.drop i) + 50) (hl : m.length + i + (ws.length - j) ≤ ws.length + 1) (hi : i < ws.length) : Bent ws (mid ws i j m) := by
  refine ⟨?_, ?_, fun w mw => ?_⟩
  · unfold mid
    rw [sumL_app, sumL_app]
    have := sumL_cut ws i
    omega
  · unfold mid
    rw [List.length_append, List.length_append, List.length_take, List.length_drop]
    omega
  · unfold mid at mw
    rcases List.mem_append.mp mw with mw | mw
    · rcases List.mem_append.mp mw with mw | mw
      · exact hf w (List.mem_of_mem_take mw)
      · exact hm w mw
    · exact hf w (List.mem_of_mem_drop mw)
end PL
/-! PL, part KR: a line is bent. -/
namespace PL
open PySem PySem.Spec PyProof.Rows L2 TL
theorem o_addLs {xs ys : List Str} {st : Store} {Q : PV → Store → Prop} (h : xs.length + ys.length ≤ 1000000) : Sat (pAdd (.lst (xs.map .str)) (.lst (ys.map .str)) st) Q = Q (.lst ((xs ++ ys).map .str)) st := by
  have : pAdd (.lst (xs.map .str)) (.lst (ys.map .str)) st = .ok (.lst ((xs ++ ys).map .str)) st := by
    show (if (xs.map PV.str).length + (ys.map PV.str).length ≤ sizeLine then Res.ok (PV.lst (xs.map .str ++ ys.map .str)) st else .stuck) = _
    rw [if_pos (by rw [List.length_map, List.length_map, sizeLine_eq]; omega), List.map_append]
  rw [this, sat_ok]
theorem bent_ok {ns : List Int} {l : Nat} {line : Str} {st : Store} {Q : PV → Store → Prop} (hs : SrcAt st l) (hz : line.length ≤ 2000) (hf : 10 ∉ tl line)
    (k : ∀ z s, z.length ≤ 10000 → 10 ∉ tl z → SrcAt s l → Gr [l] st s → Q (.str z) s) : Sat (m_law_bent [scr ns, .loc l, .str line] st) Q := by
  refine sat_body ?_
  unfold f_law_bent
  simp only [List.map_cons, List.map_nil, List.length_cons, List.length_nil, Nat.reduceAdd, Nat.reduceSub, List.reduceReplicate, List.cons_append, List.nil_append]
  rw [ss_seq, ss_set, sat_meth, sat_var rfl]
  refine ⟨rfl, ?_⟩
  rw [sat_cons, sat_c, sat_nil, o_split (by omega) space_ne]
  have hsum := split_sum (x := line) (y := " ")
  have hcnt := split_count (x := line) (y := " ")
  have hfree : ∀ w ∈ Txt.split line " ", 10 ∉ tl w := fun w m => split_free m hf
  obtain ⟨w0, wr, ew⟩ := split_space (x := line)
  have hpos : 0 < (Txt.split line " ").length := by rw [ew]; simp
  generalize Txt.split line " " = ws at *
  rw [ss_seq, ss_set, sat_call, sat_cons, sat_var rfl, sat_cons, sat_var rfl, sat_cons, sat_args, sat_cons, sat_var rfl, sat_nil, sat_one, o_lenL, sat_nil]
  refine ⟨rfl, draw' hs (by rw [List.length_map]; omega) (Nat.lt_of_le_of_lt (Nat.log2_le_self _) (by rw [List.length_map]; omega)) fun at' s1 c0 c1 hs1 g1 => ?_⟩
  obtain ⟨i, rfl⟩ := Int.eq_ofNat_of_zero_le c0
  have hi : i < ws.length := by rw [List.length_map] at c1; omega
  -- the odd words
  refine seq_mid (fun e s => ∃ os : List Str, e = ([some (scr ns), some (PV.loc l), some (PV.str line), some (PV.lst (ws.map .str)), some (.int (i : Int)), some (.lst (os.map .str)), none, none] : PEnv) ∧ s = s1 ∧ os.length = 14 ∧ ∀ o ∈ os, o.length ≤ 41 ∧ 10 ∉ tl o) ?_ ?_
  · simp only [ss_set, sat_args, sat_cons, sat_c, sat_nil, sat_bin]
    have e9 : ∀ (Q : PV → Store → Prop) (s : Store), Sat (pMulS (.str "9") (.int 41) s) Q = Q (.str (repS "9" 41)) s := fun Q s => by
      have : pMulS (.str "9") (.int 41) s = .ok (.str (repS "9" 41)) s := by
        show (if (2 : Int) ≤ 41 ∧ (41 : Int) ≤ 1000 ∧ 1 ≤ ("9" : Str).length ∧ ("9" : Str).length ≤ 1000 then Res.ok (PV.str (repS "9" (41 : Int).toNat)) s else .stuck) = _
        rw [if_pos ⟨by decide, by decide, by decide +kernel, by decide +kernel⟩]
        rfl
      rw [this, sat_ok]
    rw [e9, sat_lst]
    refine ⟨by rw [sizeLine_eq]; simp, [("" : Str), "-0", "00", "1/0", "2/4", "-1/3", "gain", "lot", "A", "0", "-5", repS "9" 41, "1/", "a"], rfl, rfl, rfl, by decide +kernel⟩
  rintro e s ⟨os, rfl, rfl, hol, hos⟩
  rw [ss_seq, ss_set, sat_call, sat_cons, sat_var rfl, sat_cons, sat_var rfl, sat_cons, sat_c, sat_nil]
  refine ⟨rfl, draw' hs1 (by decide) (by decide) fun kd s2 k0 k1 hs2 g2 => ?_⟩
  rw [ss_seq, ss_set, sat_bin, sat_var rfl, sat_call, sat_cons, sat_var rfl, sat_cons, sat_var rfl, sat_cons, sat_c, sat_nil]
  refine ⟨rfl, draw' hs2 (by decide) (by decide) fun q s3 q0 q1 hs3 g3 => ?_⟩
  rw [o_ixL]
  refine draw_len q0 (by rw [List.length_map]; omega) fun y hy => ?_
  obtain ⟨new, mnew, rfl⟩ := List.mem_map.mp hy
  obtain ⟨hn1, hn2⟩ := hos new mnew
  have gg := g1.trans (g2.trans g3)
  have hd := sumL_drop ws i
  have lo : ∀ (Q : PV → Store → Prop) (s : Store), Sat (pSl (.lst (ws.map .str)) none (some (i : Int)) s) Q = Q (.lst ((ws.take i).map .str)) s := fun Q s => by
    rw [o_slL, cut_lo (by rw [List.length_map]; omega), List.map_take]
  have hi0 : ∀ (Q : PV → Store → Prop) (s : Store), Sat (pSl (.lst (ws.map .str)) (some (i : Int)) none s) Q = Q (.lst ((ws.drop i).map .str)) s := fun Q s => by
    rw [o_slL, cut_hi (by rw [List.length_map]; omega), List.map_drop]
  have hi1 : ∀ (Q : PV → Store → Prop) (s : Store), Sat (pSl (.lst (ws.map .str)) (some ((i : Int) + 1)) none s) Q = Q (.lst ((ws.drop (i + 1)).map .str)) s := fun Q s => by
    rw [o_slL, show ((i : Int) + 1) = ((i + 1 : Nat) : Int) by omega, cut_hi (by rw [List.length_map]; omega), List.map_drop]
  refine seq_mid (fun e s => ∃ (ws' : List Str) (a b c d : Option PV), e = ([some (scr ns), some (PV.loc l), some (PV.str line), some (PV.lst (ws'.map .str)), a, b, c, d] : PEnv) ∧ Bent ws ws' ∧ SrcAt s l ∧ Gr [l] st s) ?_ ?_
  · rw [ss_if, sat_test, sat_bin, sat_var rfl, sat_c, o_eqI, sat_truth]
    by_cases h0 : kd = 0
    · rw [decide_eq_true h0, if_pos rfl, ss_set, sat_bin, sat_sl, sat_var rfl, sat_oNone, sat_oSome, sat_var rfl]
      show Sat (pSl (.lst (ws.map .str)) none (some (i : Int)) s3) _
      rw [lo, sat_sl, sat_var rfl, sat_oSome, sat_bin, sat_var rfl, sat_c, o_addI]
      show Sat (oNone _ s3) _
      rw [sat_oNone]
      show Sat (pSl (.lst (ws.map .str)) (some ((i : Int) + 1)) none s3) _
      rw [hi1, o_addLs (by rw [List.length_take, List.length_drop]; omega)]
      refine ⟨_, _, _, _, _, rfl, ?_, hs3, gg⟩
      have := bent_mid (ws := ws) (i := i) (j := i + 1) (m := []) (.inr rfl) hfree nofun (by show 0 + _ ≤ _; omega) (by simp; omega) hi
      unfold mid at this
      rwa [List.append_nil] at this
    · rw [decide_eq_false h0, if_neg (by simp), ss_if, sat_test, sat_bin, sat_var rfl, sat_c, o_eqI, sat_truth]
      have one : sumL [new] = new.length := by unfold sumL; simp
      have fr1 : ∀ w ∈ [new], 10 ∉ tl w := fun w m => by rw [List.mem_singleton.mp m]; exact hn2
      by_cases h1 : kd = 1
      · rw [decide_eq_true h1, if_pos rfl, ss_set, sat_bin, sat_bin, sat_sl, sat_var rfl, sat_oNone, sat_oSome, sat_var rfl]
        show Sat (pSl (.lst (ws.map .str)) none (some (i : Int)) s3) _
        rw [lo, sat_args, sat_cons, sat_var rfl, sat_nil, sat_lst]
        refine ⟨sl1, ?_⟩
        show Sat (pAdd _ (.lst (([new] : List Str).map .str)) s3) _
        rw [o_addLs (by rw [List.length_take]; simp; omega), sat_sl, sat_var rfl, sat_oSome, sat_var rfl]
        show Sat (oNone _ s3) _
        rw [sat_oNone]
        show Sat (pSl (.lst (ws.map .str)) (some (i : Int)) none s3) _
        rw [hi0, o_addLs (by rw [List.length_append, List.length_take, List.length_drop]; simp; omega)]
        exact ⟨_, _, _, _, _, rfl, bent_mid (j := i) (.inl rfl) hfree fr1 (by rw [one]; omega) (by simp; omega) hi, hs3, gg⟩
      · rw [decide_eq_false h1, if_neg (by simp), ss_if, sat_test, sat_bin, sat_var rfl, sat_c, o_eqI, sat_truth]
        by_cases h2 : kd = 2
        · rw [decide_eq_true h2, if_pos rfl, ss_set, sat_bin, sat_bin, sat_sl, sat_var rfl, sat_oNone, sat_oSome, sat_var rfl]
          show Sat (pSl (.lst (ws.map .str)) none (some (i : Int)) s3) _
          rw [lo, sat_args, sat_cons, sat_var rfl, sat_nil, sat_lst]
          refine ⟨sl1, ?_⟩
          show Sat (pAdd _ (.lst (([new] : List Str).map .str)) s3) _
          rw [o_addLs (by rw [List.length_take]; simp; omega), sat_sl, sat_var rfl, sat_oSome, sat_bin, sat_var rfl, sat_c, o_addI]
          show Sat (oNone _ s3) _
          rw [sat_oNone]
          show Sat (pSl (.lst (ws.map .str)) (some ((i : Int) + 1)) none s3) _
          rw [hi1, o_addLs (by rw [List.length_append, List.length_take, List.length_drop]; simp; omega)]
          exact ⟨_, _, _, _, _, rfl, bent_mid (j := i + 1) (.inr rfl) hfree fr1 (by rw [one]; omega) (by simp; omega) hi, hs3, gg⟩
        · rw [decide_eq_false h2, if_neg (by simp), ss_set, sat_bin, sat_bin, sat_sl, sat_var rfl, sat_oNone, sat_oSome, sat_var rfl]
          show Sat (pSl (.lst (ws.map .str)) none (some (i : Int)) s3) _
          rw [lo, sat_args, sat_cons, sat_bin, sat_bin, sat_var rfl, sat_var rfl, o_ixL]
          refine ixW_of (y := .str ws[i]) (by rw [List.getElem?_map, List.getElem?_eq_getElem hi]; rfl) ?_
          simp only [sat_bin, sat_args, sat_cons, sat_c, sat_nil, sat_lst]
          refine ⟨by rw [sizeLine_eq]; simp, ?_⟩
          rw [sat_call, sat_cons, sat_var rfl, sat_cons, sat_var rfl, sat_cons, sat_c, sat_nil]
          refine ⟨rfl, draw' hs3 (by decide) (by decide) fun q5 s4 r0 r1 hs4 g4 => ?_⟩
          rw [o_ixL]
          refine draw_len r0 r1 fun y hy => ?_
          obtain ⟨suf, rfl, hsuf⟩ : ∃ suf : Str, y = .str suf ∧ suf.length ≤ 1 ∧ 10 ∉ tl suf := by
            simp only [List.mem_cons, List.not_mem_nil, or_false] at hy
            rcases hy with rfl | rfl | rfl | rfl | rfl <;> exact ⟨_, rfl, by decide +kernel, by decide +kernel⟩
          have mi : ws[i] ∈ ws := List.getElem_mem hi
          have lw := sumL_mem mi
          rw [o_addS]
          refine ⟨by rw [sizeLine_eq]; omega, ?_⟩
          refine ⟨sl1, ?_⟩
          show Sat (pAdd _ (.lst (([ws[i] ++ suf] : List Str).map .str)) s4) _
          rw [o_addLs (by rw [List.length_take]; simp; omega), sat_sl, sat_var rfl, sat_oSome, sat_bin, sat_var rfl, sat_c, o_addI]
          show Sat (oNone _ s4) _
          rw [sat_oNone]
          show Sat (pSl (.lst (ws.map .str)) (some ((i : Int) + 1)) none s4) _
          rw [hi1, o_addLs (by rw [List.length_append, List.length_take, List.length_drop]; simp; omega)]
          refine ⟨_, _, _, _, _, rfl, bent_mid (j := i + 1) (.inr rfl) hfree (fun w m => ?_) ?_ (by simp; omega) hi, hs4, gg.trans g4⟩
          · rw [List.mem_singleton.mp m, tl_app]
            intro z
            rcases List.mem_append.mp z with z | z
            · exact hfree _ mi z
            · exact hsuf.2 z
          · have e1 : sumL [ws[i] ++ suf] = ws[i].length + suf.length := by unfold sumL; simp [len_app]
            have e2 : ws.drop i = ws[i] :: ws.drop (i + 1) := List.drop_eq_getElem_cons hi
            have e3 : sumL (ws.drop i) = ws[i].length + sumL (ws.drop (i + 1)) := by
              rw [e2]
              show ((ws[i] :: ws.drop (i + 1)).map (·.length)).sum = _
              rw [List.map_cons, List.sum_cons]
              rfl
            rw [e1, e3]
            have := hsuf.1
            omega
  rintro e s4 ⟨ws', a, b, c, d, rfl, hb, hs4, g4⟩
  have b1 := hb.sum
  have b2 := hb.len
  have hj : (ws'.map (·.length)).sum + ws'.length * (" " : Str).length ≤ 10000 := by
    rw [space1]
    have : sumL ws' = (ws'.map (·.length)).sum := rfl
    omega
  rw [ss_ret, sat_meth, sat_c]
  refine ⟨rfl, ?_⟩
  rw [sat_cons, sat_var rfl, sat_nil, o_join (b := false) rfl (by omega)]
  refine k _ s4 ?_ (join_free (by decide +kernel) hb.free) hs4 g4
  have := join_len (y := " ") (ps := ws')
  have : sumL ws' = (ws'.map (·.length)).sum := rfl
  omega
end PL
/-! PL, part KT: the bent lines, read by both. -/
namespace PL
open PySem PySem.Spec PyProof.Rows L2 TL
theorem told_ret {v : PV} {d : Nat} {st : Store} (h : Dt d v) (hn : d < 60) : m_law_told [v, v] st = .ok (.bl true) st := told_ok 60 d v st h hn
theorem dt_ints {d : Nat} {ws : List Int} (h : ws.length ≤ 1000000) : Dt (d + 1) (.tup (ws.map .int)) := by
  refine Dt.t (by rw [List.length_map]; exact h) fun x m => ?_
  obtain ⟨w, _, rfl⟩ := List.mem_map.mp m
  exact .i
theorem dt_fr {d : Nat} (p : Int × Int) : Dt (d + 1) (frPV p) := by
  refine Dt.t (by simp) fun x mx => ?_
  simp only [List.mem_cons, List.not_mem_nil, or_false] at mx
  rcases mx with rfl | rfl <;> exact .i
theorem dt_frs {d : Nat} {ps : List (Int × Int)} (h : ps.length ≤ 1000000) : Dt (d + 2) (.tup (ps.map frPV)) := by
  refine Dt.t (by rw [List.length_map]; exact h) fun x m => ?_
  obtain ⟨w, _, rfl⟩ := List.mem_map.mp m
  exact dt_fr w
theorem dt_optI {d : Nat} (o : Option Int) : Dt d (optI o) := by cases o with
  | none => exact .n
  | some i => exact .i
theorem dt_optF {d : Nat} (o : Option (Int × Int)) : Dt (d + 1) (optF o) := by cases o with
  | none => exact .n
  | some p => exact dt_fr p
theorem dt_pair {d : Nat} (g : GLine) : Dt (d + 1) g.pair := dt_fr (g.a, g.b)
theorem dt_gain {d : Nat} (o : Option GLine) : Dt (d + 2) (optG o) := by cases o with
  | none => exact .n
  | some g =>
    refine Dt.t (by simp) fun x mx => ?_
    simp only [List.mem_cons, List.not_mem_nil, or_false] at mx
    rcases mx with rfl | rfl
    · exact .s
    · exact dt_pair g
theorem dt_lot {d : Nat} {z : Str} (hz : z.length ≤ 100000) : Dt (d + 1) (lotP z) := by
  unfold lotP
  have hc := split_count (x := z) (y := " ")
  split
  · rename_i w ws e
    rw [e] at hc
    split
    · cases hq : seqP (ws.map numP) with
      | none => exact .n
      | some as =>
        have := seqP_len hq
        rw [List.length_map] at this
        simp only [List.length_cons] at hc
        unfold lotQ
        simp only
        split
        · exact .n
        · exact dt_ints (by omega)
    · exact .n
  · exact .n
theorem dt_parts {d : Nat} {w z : Str} (hz : z.length ≤ 100000) : Dt (d + 2) (partsP w z) := by
  unfold partsP
  have hc := split_count (x := z) (y := " ")
  split
  · rename_i w ws e
    rw [e] at hc
    split
    · cases hq : seqP (ws.map fracP) with
      | none => exact .n
      | some as =>
        have := seqP_len hq
        rw [List.length_map] at this
        simp only [List.length_cons] at hc
        exact dt_frs (by omega)
    · exact .n
  · exact .n
theorem o_addPL {l : Nat} {xs ys : List PV} {st : Store} {Q : PV → Store → Prop} (h : st[l]? = some (.lst xs)) : Sat (pAdd (.loc l) (.lst ys) st) Q = (xs.length + ys.length ≤ sizeLine ∧ Q (.lst (xs ++ ys)) st) := by
  show Sat (match st[l]? with | some (.lst xs) => if xs.length + ys.length ≤ sizeLine then Res.ok (PV.lst (xs ++ ys)) st else .stuck | _ => .stuck) Q = _
  rw [h]
  show Sat (if _ then _ else _) Q = _
  rw [eq_if, sat_ok]
section
variable {V : Fv} {ns : List Int} {l : Nat} {g u k lines text lot parts part wanted name word line at' spoilt fault told bent weight : Option PV} {st : Store} {N : PEnv → Store → Prop} {R : PV → Store → Prop}
/-- one line, bent -/
theorem bent1_ok (F : FvOk V) {z : Str} (hs : SrcAt st l) (hz : z.length ≤ 2000) (hf : 10 ∉ tl z)
    (q : ∀ word bent s, SrcAt s l → Gr [l] st s → N ([some (scr ns), some (PV.loc l), g, u, k, lines, text, lot, parts, part, wanted, name, word, (some (.str z)), at', spoilt, fault, told, bent, weight] : PEnv) s) :
    SatS ((sSeq (sSet 18 (eCall 3 m_law_bent (aCons (eVar 0) (aCons (eVar 1) (aCons (eVar 13) aNil)))))
    (sSeq (sIf (tOrM (tNotM (eTest (eCall 2 m_law_told (aCons (eCall 1 (m_read_lot V) (aCons (eVar 18) aNil)) (aCons (eCall 1 m_law_own_lot (aCons (eVar 18) aNil)) aNil))))) (tNotM (eTest (eCall 2 m_law_told (aCons (eCall 1 (m_read_gain V) (aCons (eVar 18) aNil)) (aCons (eCall 1 m_law_own_gain (aCons (eVar 18) aNil)) aNil)))))) (sRet (eC (.bl false))) sNil)
    (sSeq (sIf (tNotM (eTest (eCall 2 m_law_told (aCons (eCall 2 (m_read_parts V) (aCons (eC (.str "prices")) (aCons (eVar 18) aNil))) (aCons (eCall 2 m_law_own_parts (aCons (eC (.str "prices")) (aCons (eVar 18) aNil))) aNil))))) (sRet (eC (.bl false))) sNil)
    (sFor (iVal (eMeth isStrP pSplit (eVar 18) (aCons (eC (.str " ")) aNil))) (.one 12)
    (sSeq (sIf (tNotM (eTest (eCall 2 m_law_told (aCons (eCall 1 m_integer_in (aCons (eVar 12) aNil)) (aCons (eCall 1 m_law_own_integer (aCons (eVar 12) aNil)) aNil))))) (sRet (eC (.bl false))) sNil)
    (sIf (tNotM (eTest (eCall 2 m_law_told (aCons (eCall 1 m_fraction_in (aCons (eVar 12) aNil)) (aCons (eCall 1 m_law_own_fraction (aCons (eVar 12) aNil)) aNil))))) (sRet (eC (.bl false))) sNil)))))) ([some (scr ns), some (PV.loc l), g, u, k, lines, text, lot, parts, part, wanted, name, word, (some (.str z)), at', spoilt, fault, told, bent, weight] : PEnv) st) N R := by
  rw [ss_seq, ss_set, sat_call, sat_cons, sat_var rfl, sat_cons, sat_var rfl, sat_cons, sat_var rfl, sat_nil]
  refine ⟨rfl, bent_ok hs hz hf fun b s2 hb hbf hs2 g2 => ?_⟩
  have hb1 : b.length ≤ 100000 := by omega
  rw [ss_seq, ss_if, sat_or, sat_not, sat_test, sat_call, sat_cons, sat_call, sat_cons, sat_var (v := .str b) rfl, sat_nil]
  refine ⟨rfl, read_lot_ok F hb1 ?_⟩
  rw [sat_cons, sat_call, sat_cons, sat_var (v := .str b) rfl, sat_nil]
  refine ⟨rfl, own_lot_ok hb1 ?_⟩
  rw [sat_nil]
  refine ⟨rfl, ?_⟩
  rw [told_ret (dt_lot (d := 0) hb1) (by decide), sat_ok, sat_truth, Bool.not_true, if_neg (by simp), sat_not, sat_test, sat_call, sat_cons, sat_call, sat_cons, sat_var (v := .str b) rfl, sat_nil]
  refine ⟨rfl, read_gain_ok F hb1 ?_⟩
  rw [sat_cons, sat_call, sat_cons, sat_var (v := .str b) rfl, sat_nil]
  refine ⟨rfl, own_gain_ok hb1 ?_⟩
  rw [sat_nil]
  refine ⟨rfl, ?_⟩
  rw [told_ret (dt_gain (d := 0) _) (by decide), sat_ok, sat_truth, Bool.not_true, if_neg (by simp), ss_nil]
  rw [ss_seq, ss_if, sat_not, sat_test, sat_call, sat_cons, sat_call, sat_cons, sat_c, sat_cons, sat_var (v := .str b) rfl, sat_nil]
  refine ⟨rfl, read_parts_ok F hb1 ?_⟩
  rw [sat_cons, sat_call, sat_cons, sat_c, sat_cons, sat_var (v := .str b) rfl, sat_nil]
  refine ⟨rfl, own_parts_ok hb1 ?_⟩
  rw [sat_nil]
  refine ⟨rfl, ?_⟩
  rw [told_ret (dt_parts (d := 0) hb1) (by decide), sat_ok, sat_truth, Bool.not_true, if_neg (by simp), ss_nil]
  rw [ss_for, sat_iVal, sat_meth, sat_var (v := .str b) rfl]
  refine ⟨rfl, ?_⟩
  rw [sat_cons, sat_c, sat_nil, o_split hb1 space_ne, o_itL]
  refine for_inv0 (fun e s => (∃ word, e = ([some (scr ns), some (PV.loc l), g, u, k, lines, text, lot, parts, part, wanted, name, word, (some (.str z)), at', spoilt, fault, told, (some (.str b)), weight] : PEnv)) ∧ s = s2) ⟨⟨word, rfl⟩, rfl⟩ ?_ (fun e s ⟨⟨w, he⟩, hs⟩ => by subst he; subst hs; exact q _ _ _ hs2 g2)
  rintro v e s hv ⟨⟨w0, rfl⟩, rfl⟩
  obtain ⟨w, mw, rfl⟩ := List.mem_map.mp hv
  have hw : w.length ≤ 100000 := Nat.le_trans (split_part mw) hb1
  refine ⟨_, rfl, ?_⟩
  rw [ss_seq, ss_if, sat_not, sat_test, sat_call, sat_cons, sat_call, sat_cons, sat_var (v := .str w) rfl, sat_nil]
  refine ⟨rfl, integer_ok hw ?_⟩
  rw [sat_cons, sat_call, sat_cons, sat_var (v := .str w) rfl, sat_nil]
  refine ⟨rfl, own_integer_ok hw ?_⟩
  rw [sat_nil]
  refine ⟨rfl, ?_⟩
  rw [told_ret (dt_optI (d := 0) _) (by decide), sat_ok, sat_truth, Bool.not_true, if_neg (by simp), ss_nil]
  rw [ss_if, sat_not, sat_test, sat_call, sat_cons, sat_call, sat_cons, sat_var (v := .str w) rfl, sat_nil]
  refine ⟨rfl, fraction_ok hw ?_⟩
  rw [sat_cons, sat_call, sat_cons, sat_var (v := .str w) rfl, sat_nil]
  refine ⟨rfl, own_fraction_ok hw ?_⟩
  rw [sat_nil]
  refine ⟨rfl, ?_⟩
  rw [told_ret (dt_optF (d := 0) _) (by decide), sat_ok, sat_truth, Bool.not_true, if_neg (by simp), ss_nil]
  exact ⟨⟨_, rfl⟩, rfl⟩
/-- three times each of the lines -/
theorem bents_ok (F : FvOk V) {wp : Nat} {A B : Str} (hs : SrcAt st l) (hne : wp ≠ l) (hw : st[wp]? = some (.lst [.str A, .str B])) (hA : A.length ≤ 2000) (fA : 10 ∉ tl A) (hB : B.length ≤ 2000) (fB : 10 ∉ tl B)
    (q : ∀ k word line bent s, SrcAt s l → Gr [l] st s → N ([some (scr ns), some (PV.loc l), g, u, k, lines, text, lot, parts, part, (some (.loc wp)), name, word, line, at', spoilt, fault, told, bent, weight] : PEnv) s) :
    SatS ((sFor (iRange1 (eC (.int 3))) (.one 4)
    (sFor (iVal (eBin pAdd (eVar 10) (eArgs mkLst (aCons (eC (.str "gain ab -12 40")) aNil)))) (.one 13)
    (sSeq (sSet 18 (eCall 3 m_law_bent (aCons (eVar 0) (aCons (eVar 1) (aCons (eVar 13) aNil)))))
    (sSeq (sIf (tOrM (tNotM (eTest (eCall 2 m_law_told (aCons (eCall 1 (m_read_lot V) (aCons (eVar 18) aNil)) (aCons (eCall 1 m_law_own_lot (aCons (eVar 18) aNil)) aNil))))) (tNotM (eTest (eCall 2 m_law_told (aCons (eCall 1 (m_read_gain V) (aCons (eVar 18) aNil)) (aCons (eCall 1 m_law_own_gain (aCons (eVar 18) aNil)) aNil)))))) (sRet (eC (.bl false))) sNil)
    (sSeq (sIf (tNotM (eTest (eCall 2 m_law_told (aCons (eCall 2 (m_read_parts V) (aCons (eC (.str "prices")) (aCons (eVar 18) aNil))) (aCons (eCall 2 m_law_own_parts (aCons (eC (.str "prices")) (aCons (eVar 18) aNil))) aNil))))) (sRet (eC (.bl false))) sNil)
    (sFor (iVal (eMeth isStrP pSplit (eVar 18) (aCons (eC (.str " ")) aNil))) (.one 12)
    (sSeq (sIf (tNotM (eTest (eCall 2 m_law_told (aCons (eCall 1 m_integer_in (aCons (eVar 12) aNil)) (aCons (eCall 1 m_law_own_integer (aCons (eVar 12) aNil)) aNil))))) (sRet (eC (.bl false))) sNil)
    (sIf (tNotM (eTest (eCall 2 m_law_told (aCons (eCall 1 m_fraction_in (aCons (eVar 12) aNil)) (aCons (eCall 1 m_law_own_fraction (aCons (eVar 12) aNil)) aNil))))) (sRet (eC (.bl false))) sNil)))))))) ([some (scr ns), some (PV.loc l), g, u, k, lines, text, lot, parts, part, (some (.loc wp)), name, word, line, at', spoilt, fault, told, bent, weight] : PEnv) st) N R := by
  rw [ss_for, sat_iRange1, sat_c, o_rng]
  refine ⟨by decide, ?_⟩
  refine for_inv0 (fun e s => (∃ k word line bent, e = ([some (scr ns), some (PV.loc l), g, u, k, lines, text, lot, parts, part, (some (.loc wp)), name, word, line, at', spoilt, fault, told, bent, weight] : PEnv)) ∧ SrcAt s l ∧ Gr [l] st s) ⟨⟨k, word, line, bent, rfl⟩, hs, .refl⟩ ?_ (fun e s ⟨⟨_, _, _, _, he⟩, h1, h2⟩ => by subst he; exact q _ _ _ _ _ h1 h2)
  rintro v e s _ ⟨⟨k1, w1, l1, b1, rfl⟩, hs1, g1⟩
  refine ⟨_, rfl, ?_⟩
  have hw1 := g1.at' hw (by simp; omega)
  rw [ss_for, sat_iVal, sat_bin, sat_var (v := .loc wp) rfl, sat_args, sat_cons, sat_c, sat_nil, sat_lst]
  refine ⟨sl1, ?_⟩
  rw [o_addPL hw1]
  refine ⟨by rw [sizeLine_eq]; simp, ?_⟩
  rw [o_itL]
  refine for_inv0 (fun e s => (∃ k word line bent, e = ([some (scr ns), some (PV.loc l), g, u, k, lines, text, lot, parts, part, (some (.loc wp)), name, word, line, at', spoilt, fault, told, bent, weight] : PEnv)) ∧ SrcAt s l ∧ Gr [l] st s) ⟨⟨_, _, _, _, rfl⟩, hs1, g1⟩ ?_ (fun e s h => h)
  rintro v2 e s2 hv ⟨⟨k2, w2, l2, b2, rfl⟩, hs2, g2⟩
  obtain ⟨z, rfl, hz, hf⟩ : ∃ z : Str, v2 = .str z ∧ z.length ≤ 2000 ∧ 10 ∉ tl z := by
    simp only [List.cons_append, List.nil_append, List.mem_cons, List.not_mem_nil, or_false] at hv
    rcases hv with rfl | rfl | rfl
    · exact ⟨_, rfl, hA, fA⟩
    · exact ⟨_, rfl, hB, fB⟩
    · exact ⟨_, rfl, by decide +kernel, by decide +kernel⟩
  refine ⟨_, rfl, ?_⟩
  exact bent1_ok F hs2 hz hf fun w b s3 h3 g3 => ⟨⟨_, _, _, _, rfl⟩, h3, g2.trans g3⟩
end
end PL
/-! PL, part KU: the text with a line bent, or turned. -/
namespace PL
open PySem PySem.Spec PyProof.Rows L2 TL
theorem eqv_strs : ∀ (a b : List Str), PyData.eqvAll (toDs (a.map .str)) (toDs (b.map .str)) = decide (a = b)
  | [], [] => by simp [toDs, PyData.eqvAll]
  | [], _ :: _ => by simp [toDs, PyData.eqvAll]
  | _ :: _, [] => by simp [toDs, PyData.eqvAll]
  | x :: xs, y :: ys => by
    rw [List.map_cons, List.map_cons, toDs, toDs, PyData.eqvAll, eqv_strs xs ys]
    simp only [toD, PyData.eqv]
    by_cases h : x = y <;> by_cases h' : xs = ys <;> simp [h, h']
theorem o_eqLs {a b : List Str} {st : Store} {Q : PV → Store → Prop} : Sat (pEq (.lst (a.map .str)) (.lst (b.map .str)) st) Q = Q (.bl (decide (a = b))) st := by
  unfold pEq
  rw [if_pos ⟨by simp only [isD]; exact isDs_strs a, by simp only [isD]; exact isDs_strs b, by
    have := depth_strs a
    simp only [toD, PyData.depth, this]
    omega⟩, sat_ok]
  simp only [toD, PyData.eqv, eqv_strs]
theorem scan_nd (ls : List Str) : ((scan "" ls).1.map (·.n)).Nodup := by
  have h := (scan_asc ls "").2
  rw [List.Nodup, List.pairwise_map]
  exact h.imp fun h => strLt_ne h
theorem told_gkv {a b : Nat} {gs : List GLine} {st : Store} (ha : st[a]? = some (.dic (gs.map gkv))) (hb : st[b]? = some (.dic (gs.map gkv))) (hl : gs.length < 64) (nd : (gs.map (·.n)).Nodup) : m_law_told [.loc a, .loc b] st = .ok (.bl true) st :=
  told_dict (n := 59) (d := 1) ha hb (keys_gkv gs) (by rw [List.length_map]; exact hl) nd (fun p m => by
    obtain ⟨g, _, rfl⟩ := List.mem_map.mp m
    exact dt_pair g) (by decide)
theorem read_or_nil {V : Fv} {st : Store} {Q : PV → Store → Prop} (k : Q (.loc st.length) (st ++ [.dic []])) : Sat (m_law_read_or V [.str ""] st) Q := by
  refine sat_body ?_
  unfold f_law_read_or
  simp only [List.map_cons, List.map_nil, List.length_cons, List.length_nil, Nat.reduceAdd, Nat.reduceSub, List.reduceReplicate, List.cons_append, List.nil_append]
  have hargs : (aCons (eVar 0) aNil) [some (.str ""), none] st = .ok [.str ""] st := rfl
  have hr : Sat (m_read_gains V [.str ""] st) fun v s => v = .loc st.length ∧ s = st ++ [.dic []] := read_gains_nil ⟨rfl, rfl⟩
  obtain ⟨v, s, e, rfl, rfl⟩ := hr
  rw [ss_try_ok (ret_call (n := 1) hargs rfl e)]
  exact k
theorem o_itemL {xs : List PV} {i : Nat} {y : PV} {st : Store} {Q : PV → Store → Prop} (h : xs[i]? = some y) (k : Q y st) : Sat (pIx (.lst xs) (.int (i : Int)) st) Q := by
  rw [o_ixL]; exact ixW_of h k
/-- lines that are no text of gains' lines any more -/
structure Spo (ls : List Str) : Prop where
  ne : ls ≠ []
  len : ls.length ≤ 7
  each : ∀ z ∈ ls, z.length ≤ 10000
  free : ∀ z ∈ ls, 10 ∉ tl z
section
variable {V : Fv} {ns : List Int} {l : Nat} {g u k text lot parts part wanted name word line at' spoilt fault told bent weight : Option PV} {st : Store}
/-- what is asked of the spoilt lines -/
theorem spoilt_told (F : FvOk V) {lines : Option PV} {ls : List Str} (h : Spo ls) : SatS (
    (sSeq (sSet 16 (eCall 1 m_law_lines_fault (aCons (eVar 15) aNil)))
    (sSeq (sSet 17 (eCall 1 (m_law_read_or V) (aCons (eMeth isStrP pJoin (eC (.str "\n")) (aCons (eVar 15) aNil)) aNil)))
    (sSeq (sIf (eTest (eBin pEq (eVar 15) (eArgs mkLst (aCons (eC (.str "")) aNil)))) (sRet (eCall 2 m_law_told (aCons (eVar 17) (aCons eDict0 aNil)))) sNil)
    (sSeq (sIf (eTest (eBin pGt (eVar 16) (eC (.int 0)))) (sRet (eCall 2 m_law_told (aCons (eVar 17) (aCons (eArgs mkLst (aCons (eVar 16) (aCons (eC (.bl false)) aNil))) aNil)))) sNil)
    (sRet (eCall 2 m_law_told (aCons (eVar 17) (aCons (eCall 1 m_law_pairs_dict (aCons (eVar 15) aNil)) aNil))))))))
    ([some (scr ns), some (PV.loc l), g, u, k, lines, text, lot, parts, part, wanted, name, word, line, at', (some (.lst (ls.map .str))), fault, told, bent, weight] : PEnv) st) (fun _ _ => True) (fun v _ => v = .bl true) := by
  have hl1 : ∀ z ∈ ls, z.length ≤ 100000 := fun z m => Nat.le_trans (h.each z m) (by decide)
  have hn1 : ls.length ≤ 10000 := Nat.le_trans h.len (by decide)
  have hsum : (ls.map (·.length)).sum ≤ ls.length * 10000 := sum_le h.each
  have hlen := h.len
  have nl1 : ("\n" : Str).length = 1 := by decide +kernel
  have hj : (ls.map (·.length)).sum + ls.length * ("\n" : Str).length ≤ 100000 := by rw [nl1]; omega
  have hz : (Txt.join "\n" ls).length ≤ 100000 := by
    have := join_len (y := "\n") (ps := ls)
    have e : sumL ls = (ls.map (·.length)).sum := rfl
    omega
  rw [ss_seq, ss_set, sat_call, sat_cons, sat_var rfl, sat_nil]
  refine ⟨rfl, lines_fault_ok hl1 hn1 ?_⟩
  rw [ss_seq, ss_set, sat_call, sat_cons, sat_meth, sat_c]
  refine ⟨rfl, ?_⟩
  rw [sat_cons, sat_var rfl, sat_nil, o_join (b := false) rfl hj, sat_nil]
  refine ⟨rfl, ?_⟩
  have hgl := (scan_len ls "").1
  by_cases h1 : ls = [("" : Str)]
  · subst h1
    have e : Txt.join "\n" [("" : Str)] = "" := by decide +kernel
    rw [e]
    refine read_or_nil ?_
    rw [ss_seq, ss_if, sat_test, sat_bin, sat_var rfl, sat_args, sat_cons, sat_c, sat_nil, sat_lst]
    refine ⟨sl1, ?_⟩
    show Sat (pEq (.lst ([("" : Str)].map .str)) (.lst ([("" : Str)].map .str)) _) _
    rw [o_eqLs, decide_eq_true rfl, sat_truth, if_pos rfl, ss_ret, sat_call, sat_cons, sat_var rfl, sat_cons]
    show Sat (Res.ok (PV.loc (st ++ [PO.dic []]).length) (st ++ [.dic []] ++ [.dic []])) _
    rw [sat_ok, sat_nil]
    refine ⟨rfl, ?_⟩
    rw [told_gkv (gs := []) (by rw [List.getElem?_append_left (by simp)]; simp) (by simp) (by simp) (by simp), sat_ok]
  · have fin : ∀ (tv : PV) (s : Store), SatS (sSeq (sIf (eTest (eBin pGt (eVar 16) (eC (.int 0)))) (sRet (eCall 2 m_law_told (aCons (eVar 17) (aCons (eArgs mkLst (aCons (eVar 16) (aCons (eC (.bl false)) aNil))) aNil)))) sNil)
        (sRet (eCall 2 m_law_told (aCons (eVar 17) (aCons (eCall 1 m_law_pairs_dict (aCons (eVar 15) aNil)) aNil))))
        ([some (scr ns), some (PV.loc l), g, u, k, lines, text, lot, parts, part, wanted, name, word, line, at', (some (.lst (ls.map .str))), (some (.int (faultN ls : Nat))), (some tv), bent, weight] : PEnv) s) (fun _ _ => True) (fun v _ => v = .bl true) →
        SatS (sSeq (sIf (eTest (eBin pEq (eVar 15) (eArgs mkLst (aCons (eC (.str "")) aNil)))) (sRet (eCall 2 m_law_told (aCons (eVar 17) (aCons eDict0 aNil)))) sNil)
          (sSeq (sIf (eTest (eBin pGt (eVar 16) (eC (.int 0)))) (sRet (eCall 2 m_law_told (aCons (eVar 17) (aCons (eArgs mkLst (aCons (eVar 16) (aCons (eC (.bl false)) aNil))) aNil)))) sNil)
        (sRet (eCall 2 m_law_told (aCons (eVar 17) (aCons (eCall 1 m_law_pairs_dict (aCons (eVar 15) aNil)) aNil)))))
        ([some (scr ns), some (PV.loc l), g, u, k, lines, text, lot, parts, part, wanted, name, word, line, at', (some (.lst (ls.map .str))), (some (.int (faultN ls : Nat))), (some tv), bent, weight] : PEnv) s) (fun _ _ => True) (fun v _ => v = .bl true) := fun tv s q => by
      rw [ss_seq, ss_if, sat_test, sat_bin, sat_var rfl, sat_args, sat_cons, sat_c, sat_nil, sat_lst]
      refine ⟨sl1, ?_⟩
      show Sat (pEq (.lst (ls.map .str)) (.lst ([("" : Str)].map .str)) _) _
      rw [o_eqLs, decide_eq_false h1, sat_truth, if_neg (by simp), ss_nil]
      exact q
    refine read_or_ok F h1 h.ne hz h.free (fun hs => ?_) (fun hs o => ?_)
    · refine fin _ _ ?_
      have hf0 : faultN ls = 0 := by unfold faultN; rw [if_neg (by rw [hs]; simp)]
      rw [ss_seq, ss_if, sat_test, sat_bin, sat_var rfl, sat_c, o_gtI, sat_truth, hf0, decide_eq_false (by decide), if_neg (by simp), ss_nil, ss_ret, sat_call, sat_cons, sat_var rfl, sat_cons, sat_call, sat_cons, sat_var rfl, sat_nil]
      refine ⟨rfl, pairs_dict_ok hl1 hn1 hs ?_⟩
      rw [sat_nil]
      refine ⟨rfl, ?_⟩
      rw [told_gkv (gs := (scan "" ls).1) (by rw [List.getElem?_append_left (by simp)]; simp) (by simp) (by omega) (scan_nd ls), sat_ok]
    · refine fin _ _ ?_
      have hf0 : 0 < faultN ls := by unfold faultN; rw [if_pos hs]; omega
      rw [ss_seq, ss_if, sat_test, sat_bin, sat_var rfl, sat_c, o_gtI, sat_truth, decide_eq_true (by omega), if_pos rfl, ss_ret, sat_call, sat_cons, sat_var rfl, sat_cons, sat_args, sat_cons, sat_var rfl, sat_cons, sat_c, sat_nil, sat_lst]
      refine ⟨sl2, ?_⟩
      rw [sat_nil]
      refine ⟨rfl, ?_⟩
      rw [told_ret (d := 1) (Dt.l (by simp) fun x mx => ?_) (by decide), sat_ok]
      simp only [List.mem_cons, List.not_mem_nil, or_false] at mx
      rcases mx with rfl | rfl
      · exact .i
      · exact .b
/-- the last part of the law -/
theorem spoilt_ok (F : FvOk V) {ls : List Str} (hs : SrcAt st l) (hn : ls.length ≤ 7) (hz : ∀ z ∈ ls, z.length ≤ 2000) (hf : ∀ z ∈ ls, 10 ∉ tl z) : SatS (
    (sIf (eTest (eBin pGt (eArgs (one pLen) (aCons (eVar 5) aNil)) (eC (.int 0)))) (sSeq (sSet 14 (eCall 3 m_law_draw (aCons (eVar 0) (aCons (eVar 1) (aCons (eArgs (one pLen) (aCons (eVar 5) aNil)) aNil)))))
    (sSeq (sSet 15 (eBin pAdd (eBin pAdd (eSl pSl (eVar 5) oNone (oSome (eVar 14))) (eArgs mkLst (aCons (eCall 3 m_law_bent (aCons (eVar 0) (aCons (eVar 1) (aCons (eBin pIxD (eVar 5) (eVar 14)) aNil)))) aNil))) (eSl pSl (eVar 5) (oSome (eBin pAdd (eVar 14) (eC (.int 1)))) oNone)))
    (sSeq (sIf (eTest (eBin pEq (eCall 3 m_law_draw (aCons (eVar 0) (aCons (eVar 1) (aCons (eC (.int 3)) aNil)))) (eC (.int 0)))) (sSet 15 (eBin pAdd (eSl pSl (eVar 5) (oSome (eVar 14)) oNone) (eSl pSl (eVar 5) oNone (oSome (eVar 14))))) sNil)
    (sSeq (sSet 16 (eCall 1 m_law_lines_fault (aCons (eVar 15) aNil)))
    (sSeq (sSet 17 (eCall 1 (m_law_read_or V) (aCons (eMeth isStrP pJoin (eC (.str "\n")) (aCons (eVar 15) aNil)) aNil)))
    (sSeq (sIf (eTest (eBin pEq (eVar 15) (eArgs mkLst (aCons (eC (.str "")) aNil)))) (sRet (eCall 2 m_law_told (aCons (eVar 17) (aCons eDict0 aNil)))) sNil)
    (sSeq (sIf (eTest (eBin pGt (eVar 16) (eC (.int 0)))) (sRet (eCall 2 m_law_told (aCons (eVar 17) (aCons (eArgs mkLst (aCons (eVar 16) (aCons (eC (.bl false)) aNil))) aNil)))) sNil)
    (sRet (eCall 2 m_law_told (aCons (eVar 17) (aCons (eCall 1 m_law_pairs_dict (aCons (eVar 15) aNil)) aNil))))))))))) sNil)
    ([some (scr ns), some (PV.loc l), g, u, k, (some (.lst (ls.map .str))), text, lot, parts, part, wanted, name, word, line, at', spoilt, fault, told, bent, weight] : PEnv) st) (fun _ _ => True) (fun v _ => v = .bl true) := by
  rw [ss_if, sat_test, sat_bin, sat_args, sat_cons, sat_var rfl, sat_nil, sat_one, o_lenL, sat_c, o_gtI, sat_truth, List.length_map]
  by_cases h0 : ls.length = 0
  · rw [h0, decide_eq_false (by decide), if_neg (by simp), ss_nil]; trivial
  rw [decide_eq_true (by omega), if_pos rfl, ss_seq, ss_set, sat_call, sat_cons, sat_var rfl, sat_cons, sat_var rfl, sat_cons, sat_args, sat_cons, sat_var rfl, sat_nil, sat_one, o_lenL, sat_nil, List.length_map]
  refine ⟨rfl, draw' hs (by omega) (log2_k (n := 7) (by omega) (by omega)) fun a s1 a0 a1 hs1 g1 => ?_⟩
  obtain ⟨i, rfl⟩ := Int.eq_ofNat_of_zero_le a0
  have hi : i < ls.length := by omega
  have lo : ∀ (Q : PV → Store → Prop) (s : Store), Sat (pSl (.lst (ls.map .str)) none (some (i : Int)) s) Q = Q (.lst ((ls.take i).map .str)) s := fun Q s => by
    rw [o_slL, cut_lo (by rw [List.length_map]; omega), List.map_take]
  have hi0 : ∀ (Q : PV → Store → Prop) (s : Store), Sat (pSl (.lst (ls.map .str)) (some (i : Int)) none s) Q = Q (.lst ((ls.drop i).map .str)) s := fun Q s => by
    rw [o_slL, cut_hi (by rw [List.length_map]; omega), List.map_drop]
  have hi1 : ∀ (Q : PV → Store → Prop) (s : Store), Sat (pSl (.lst (ls.map .str)) (some ((i : Int) + 1)) none s) Q = Q (.lst ((ls.drop (i + 1)).map .str)) s := fun Q s => by
    rw [o_slL, show ((i : Int) + 1) = ((i + 1 : Nat) : Int) by omega, cut_hi (by rw [List.length_map]; omega), List.map_drop]
  rw [ss_seq, ss_set, sat_bin, sat_bin, sat_sl, sat_var rfl, sat_oNone, sat_oSome, sat_var rfl]
  show Sat (pSl (.lst (ls.map .str)) none (some (i : Int)) s1) _
  rw [lo, sat_args, sat_cons, sat_call, sat_cons, sat_var rfl, sat_cons, sat_var rfl, sat_cons, sat_bin, sat_var rfl, sat_var rfl, ixd_seq rfl]
  refine o_itemL (y := .str ls[i]) (by rw [List.getElem?_map, List.getElem?_eq_getElem hi]; rfl) ?_
  rw [sat_nil]
  have mi := List.getElem_mem hi
  refine ⟨rfl, bent_ok hs1 (hz _ mi) (hf _ mi) fun z s2 hz2 hf2 hs2 g2 => ?_⟩
  rw [sat_nil, sat_lst]
  refine ⟨sl1, ?_⟩
  show Sat (pAdd _ (.lst (([z] : List Str).map .str)) s2) _
  rw [o_addLs (by rw [List.length_take]; simp; omega), sat_sl, sat_var rfl, sat_oSome, sat_bin, sat_var rfl, sat_c, o_addI]
  show Sat (oNone _ s2) _
  rw [sat_oNone]
  show Sat (pSl (.lst (ls.map .str)) (some ((i : Int) + 1)) none s2) _
  rw [hi1, o_addLs (by rw [List.length_append, List.length_take, List.length_drop]; simp; omega)]
  have sp1 : Spo (ls.take i ++ [z] ++ ls.drop (i + 1)) := by
    refine ⟨by simp, by simp; omega, fun y m => ?_, fun y m => ?_⟩
    · rcases List.mem_append.mp m with m | m
      · rcases List.mem_append.mp m with m | m
        · have := hz _ (List.mem_of_mem_take m); omega
        · rw [List.mem_singleton.mp m]; exact hz2
      · have := hz _ (List.mem_of_mem_drop m); omega
    · rcases List.mem_append.mp m with m | m
      · rcases List.mem_append.mp m with m | m
        · exact hf _ (List.mem_of_mem_take m)
        · rw [List.mem_singleton.mp m]; exact hf2
      · exact hf _ (List.mem_of_mem_drop m)
  have sp2 : Spo (ls.drop i ++ ls.take i) := by
    refine ⟨fun e => ?_, by simp; omega, fun y m => ?_, fun y m => ?_⟩
    · have := congrArg List.length e
      simp at this
      omega
    · rcases List.mem_append.mp m with m | m
      · have := hz _ (List.mem_of_mem_drop m); omega
      · have := hz _ (List.mem_of_mem_take m); omega
    · rcases List.mem_append.mp m with m | m
      · exact hf _ (List.mem_of_mem_drop m)
      · exact hf _ (List.mem_of_mem_take m)
  refine seq_mid (fun e s => ∃ ls2 : List Str, Spo ls2 ∧ e = ([some (scr ns), some (PV.loc l), g, u, k, (some (.lst (ls.map .str))), text, lot, parts, part, wanted, name, word, line, (some (.int (i : Int))), (some (.lst (ls2.map .str))), fault, told, bent, weight] : PEnv)) ?_ ?_
  · rw [ss_if, sat_test, sat_bin, sat_call, sat_cons, sat_var rfl, sat_cons, sat_var rfl, sat_cons, sat_c, sat_nil]
    refine ⟨rfl, draw' hs2 (by decide) (by decide) fun q s3 q0 q1 hs3 g3 => ?_⟩
    rw [sat_c, o_eqI, sat_truth]
    by_cases hq : q = 0
    · rw [decide_eq_true hq, if_pos rfl, ss_set, sat_bin, sat_sl, sat_var rfl, sat_oSome, sat_var rfl]
      show Sat (oNone _ s3) _
      rw [sat_oNone]
      show Sat (pSl (.lst (ls.map .str)) (some (i : Int)) none s3) _
      rw [hi0, sat_sl, sat_var rfl, sat_oNone, sat_oSome, sat_var rfl]
      show Sat (pSl (.lst (ls.map .str)) none (some (i : Int)) s3) _
      rw [lo, o_addLs (by rw [List.length_take, List.length_drop]; omega)]
      exact ⟨_, sp2, rfl⟩
    · rw [decide_eq_false hq, if_neg (by simp), ss_nil]
      exact ⟨_, sp1, rfl⟩
  rintro e s3 ⟨ls2, sp, rfl⟩
  exact spoilt_told F sp
end
end PL
/-! PL, part KS: the law. -/
namespace PL
open PySem PySem.Spec PyProof.Rows L2 TL
theorem gkv_new {gs : List GLine} {g : GLine} (h : g.n ∉ gs.map (·.n)) : dput (gs.map gkv) (.inr g.n) g.pair = (gs ++ [g]).map gkv := by
  rw [dput_new]
  · rw [List.map_append]; rfl
  · intro p m e
    obtain ⟨g', m', rfl⟩ := List.mem_map.mp m
    have e : (Sum.inr g'.n : Key) = .inr g.n := e
    injection e with e
    exact h (List.mem_map.mpr ⟨g', m', e⟩)
theorem srt_nd {gs : List GLine} (nd : (gs.map (·.n)).Nodup) : ((srt gs).map (·.n)).Nodup := (((srt_perm gs).map (·.n)).nodup_iff).mpr nd
theorem srt_twice {gs : List GLine} : ((srt gs).map (·.n)).mergeSort leS = (gs.map (·.n)).mergeSort leS := by
  rw [← srt_names]
  exact List.mergeSort_of_pairwise (List.pairwise_mergeSort (fun a b c h h' => leS_trans a b c h h') (fun a b => leS_total a b) _)
theorem lines_free {gs : List GLine} (h : GsOk gs) : ∀ z ∈ (srt gs).map gainS, 10 ∉ tl z := fun z m => by
  obtain ⟨g, mg, rfl⟩ := List.mem_map.mp m
  have ok := h.ok g ((srt_perm gs).mem_iff.mp mg)
  rw [gainS_join]
  refine join_free (by decide +kernel) fun p mp => ?_
  simp only [List.mem_cons, List.not_mem_nil, or_false] at mp
  rcases mp with rfl | rfl | rfl | rfl
  · decide +kernel
  · exact nm_free ok.nm (by decide)
  · exact free_int (by omega)
  · exact free_int (by omega)
theorem read_text {V : Fv} (F : FvOk V) {gs : List GLine} (h : GsOk gs) {s : Store} {Q : PV → Store → Prop} (k : Q (.loc s.length) (s ++ [.dic ((srt gs).map gkv)])) : Sat (m_read_gains V [.str (Txt.join "\n" ((srt gs).map gainS))] s) Q := by
  have hl := lines_len h
  have hj := join_len (y := "\n") (ps := (srt gs).map gainS)
  have hz : (Txt.join "\n" ((srt gs).map gainS)).length ≤ 100000 := by
    have : sumL ((srt gs).map gainS) = (((srt gs).map gainS).map (·.length)).sum := rfl
    omega
  by_cases h0 : gs = []
  · subst h0
    have e0 : srt [] = [] := List.length_eq_zero_iff.mp (by rw [(srt_perm []).length_eq]; rfl)
    rw [e0] at k ⊢
    have e : Txt.join "\n" (([] : List GLine).map gainS) = "" := by rw [join_eq]; rfl
    rw [e]
    exact read_gains_nil k
  · have hne : (srt gs).map gainS ≠ [] := fun e => by
      have e2 := congrArg List.length e
      rw [List.length_map, (srt_perm gs).length_eq] at e2
      exact h0 (List.length_eq_zero_iff.mp e2)
    have hsp : Txt.split (Txt.join "\n" ((srt gs).map gainS)) "\n" = (srt gs).map gainS := split_join (s := 10) (S := []) (by decide +kernel) (by decide +kernel) hne (lines_free h)
    have ht : Txt.join "\n" ((srt gs).map gainS) ≠ "" := fun e => by
      rw [e] at hsp
      have e1 : Txt.split ("" : Str) "\n" = [("" : Str)] := by decide +kernel
      have hs := scan_srt h
      rw [← hsp, e1] at hs
      have e2 : scan "" [("" : Str)] = ([], true) := by
        have : gainP ("" : Str) = none := by decide +kernel
        unfold scan
        rw [this]
      rw [e2] at hs
      have := congrArg Prod.snd hs
      cases this
    refine read_gains_ok F ht hz (by rw [hsp, scan_srt h]) ?_
    rw [hsp, scan_srt h]
    exact k
theorem law_ok {V : Fv} (F : FvOk V) (ns : List Int) (hn : ns.length ≤ 63) : ∃ s, m_law V [scr ns] [] = .ok (.bl true) s := by
  have : Sat (m_law V [scr ns] []) fun v s => v = .bl true := by
    refine sat_body ?_
    unfold f_law
    simp only [List.map_cons, List.map_nil, List.length_cons, List.length_nil, Nat.reduceAdd, Nat.reduceSub, List.reduceReplicate, List.cons_append, List.nil_append]
    rw [ss_seq, ss_set, sat_call, sat_cons, sat_var rfl, sat_nil]
    refine ⟨rfl, (source_ok (ns := ns)).mono ?_⟩
    rintro _ s0 ⟨rfl, o, rfl, hs⟩
    generalize hl : (([] : Store)).length = l at hs ⊢
    generalize ([] : Store) ++ [o] = s0 at *
    have hl0 := hs.lt
    rw [ss_seq, ss_set]
    show Sat (Res.ok (PV.loc s0.length) (s0 ++ [.dic []])) _
    rw [sat_ok, ss_seq, ss_set, sat_args, sat_nil, sat_loc]
    refine ⟨sl0, ?_⟩
    have hs2 : SrcAt (s0 ++ [PO.dic []] ++ [PO.lst []]) l := (hs.gr (L := []) .app (by simp)).gr (L := []) .app (by simp)
    have hg2 : (s0 ++ [PO.dic []] ++ [PO.lst []])[s0.length]? = some (.dic (([] : List GLine).map gkv)) := by simp
    have hu2 : (s0 ++ [PO.dic []] ++ [PO.lst []])[(s0 ++ [PO.dic []]).length]? = some (.lst (([] : List Str).map .str)) := by
      rw [List.getElem?_append_right (Nat.le_refl _)]; simp
    have hup : (s0 ++ [PO.dic []]).length = s0.length + 1 := by simp
    generalize s0 ++ [PO.dic []] ++ [PO.lst []] = s2 at *
    generalize (s0 ++ [PO.dic []]).length = up at *
    generalize s0.length = gp at *
    refine seq_mid (fun e s => ∃ (gs : List GLine) (a b : Option PV), e = ([some (scr ns), some (PV.loc l), some (PV.loc gp), some (PV.loc up), a, none, none, none, none, none, none, b, none, none, none, none, none, none, none, none] : PEnv) ∧ GsOk gs ∧ s[gp]? = some (.dic (gs.map gkv)) ∧ SrcAt s l) ?_ ?_
    · rw [ss_for, sat_iRange1, sat_call, sat_cons, sat_var rfl, sat_cons, sat_var rfl, sat_cons, sat_c, sat_nil]
      refine ⟨rfl, draw' hs2 (by decide) (by decide) fun cnt s3 c0 c1 hs3 g3 => ?_⟩
      have hg3 := g3.at' hg2 (by simp; omega)
      have hu3 := g3.at' hu2 (by simp; omega)
      rw [o_rng]
      refine ⟨by omega, ?_⟩
      refine for_invN (k := 0) (fun i e s => ∃ (gs : List GLine) (a b : Option PV), e = ([some (scr ns), some (PV.loc l), some (PV.loc gp), some (PV.loc up), a, none, none, none, none, none, none, b, none, none, none, none, none, none, none, none] : PEnv) ∧ (∀ g ∈ gs, g.Ok) ∧ (gs.map (·.n)).Nodup ∧ gs.length = i ∧ s[gp]? = some (.dic (gs.map gkv)) ∧ s[up]? = some (.lst ((gs.map (·.n)).map .str)) ∧ SrcAt s l) ⟨[], none, none, rfl, nofun, List.nodup_nil, rfl, hg3, hu3, hs3⟩ ?_ ?_
      · rintro i v e s hv ⟨gs, a, b, rfl, hok, hnd, hlen, hg, hu, hsr⟩
        obtain ⟨hi, rfl⟩ := rngs_get hv
        rw [Nat.zero_add] at hlen ⊢
        refine ⟨_, rfl, ?_⟩
        rw [ss_seq, ss_set, sat_call, sat_cons, sat_var rfl, sat_cons, sat_var rfl, sat_cons, sat_var rfl, sat_nil]
        refine ⟨rfl, name' hsr (Use.at' (n := 10) hu (by rw [List.length_map]; omega) (by omega)) (by decide) fun z s4 zl znm zn hs4 g4 => ?_⟩
        have hg4 := g4.at' hg (by simp; omega)
        have hu4 := g4.at' hu (by simp; omega)
        rw [ss_seq, ss_expr, sat_meth, sat_var rfl]
        refine ⟨o_isL hu4, ?_⟩
        rw [sat_cons, sat_var rfl, sat_nil, o_app hu4]
        refine ⟨by rw [sizeLine_eq, List.length_map, List.length_map]; omega, ?_⟩
        have hs5 : SrcAt (s4.set up (.lst ((gs.map (·.n)).map .str ++ [.str z]))) l := hs4.gr (L := [up]) (.set (by simp)) (by simp; omega)
        have hg5 : (s4.set up (.lst ((gs.map (·.n)).map .str ++ [.str z])))[gp]? = some (.dic (gs.map gkv)) := by rw [List.getElem?_set_ne (by omega)]; exact hg4
        have hu5 : (s4.set up (.lst ((gs.map (·.n)).map .str ++ [.str z])))[up]? = some (.lst ((gs.map (·.n)).map .str ++ [.str z])) := List.getElem?_set_self (lt_of_some hu4)
        generalize s4.set up (.lst ((gs.map (·.n)).map .str ++ [.str z])) = s5 at *
        have fin : ∀ (x y : Int) (s : Store), x.natAbs < 10 ^ 40 → y.natAbs < 10 ^ 40 → SrcAt s l → s[gp]? = some (.dic (gs.map gkv)) → s[up]? = some (.lst ((gs.map (·.n)).map .str ++ [.str z])) →
            Sat (pSetD (.loc gp) (.str z) (.tup [.int x, .int y]) s) fun _ s => ∃ (gs' : List GLine) (a b : Option PV), ([some (scr ns), some (PV.loc l), some (PV.loc gp), some (PV.loc up), (some (PV.int (0 + (i : Int)))), none, none, none, none, none, none, (some (PV.str z)), none, none, none, none, none, none, none, none] : PEnv) = ([some (scr ns), some (PV.loc l), some (PV.loc gp), some (PV.loc up), a, none, none, none, none, none, none, b, none, none, none, none, none, none, none, none] : PEnv) ∧ (∀ g ∈ gs', g.Ok) ∧ (gs'.map (·.n)).Nodup ∧ gs'.length = i + 1 ∧ s[gp]? = some (.dic (gs'.map gkv)) ∧ s[up]? = some (.lst ((gs'.map (·.n)).map .str)) ∧ SrcAt s l := fun x y s hx hy h1 h2 h3 => by
          rw [o_setD h2 (k := .inr z) rfl (by rw [List.length_map]; omega)]
          have e := gkv_new (gs := gs) (g := ⟨z, x, y⟩) zn
          refine ⟨gs ++ [⟨z, x, y⟩], _, _, rfl, fun g m => ?_, ?_, by simp; omega, ?_, ?_, h1.gr (L := [gp]) (.set (by simp)) (by simp; omega)⟩
          · rcases List.mem_append.mp m with m | m
            · exact hok g m
            · rw [List.mem_singleton.mp m]; exact ⟨znm, by show z.length ≤ 12; omega, hx, hy⟩
          · rw [List.map_append, List.nodup_append]
            refine ⟨hnd, by simp, fun a ha b hb e => ?_⟩
            have : b = z := by simpa using hb
            exact zn (by rw [← this, ← e]; exact ha)
          · rw [List.getElem?_set_self (lt_of_some h2)]
            exact congrArg (fun q => some (PO.dic q)) e
          · rw [List.getElem?_set_ne (by omega), h3]
            simp
        rw [ss_sub, sat_args, sat_cons, sat_call, sat_cons, sat_var rfl, sat_cons, sat_var rfl, sat_cons, sat_bin, sat_args, sat_cons, sat_c, sat_cons, sat_c, sat_nil, sat_lst]
        refine ⟨sl2, ?_⟩
        rw [sat_call, sat_cons, sat_var rfl, sat_cons, sat_var rfl, sat_cons, sat_c, sat_nil]
        refine ⟨rfl, draw' hs5 (by decide) (by decide) fun q s6 q0 q1 hs6 g6 => ?_⟩
        have hg6 := g6.at' hg5 (by simp; omega)
        have hu6 := g6.at' hu5 (by simp; omega)
        show Sat (pIx (.lst [.int 0, .int 2]) (.int q) s6) _
        rw [o_ixL]
        have second : ∀ (x : Int) (s : Store), x.natAbs < 10 ^ 40 → SrcAt s l → s[gp]? = some (.dic (gs.map gkv)) → s[up]? = some (.lst ((gs.map (·.n)).map .str ++ [.str z])) → ∀ Q : PV → Store → Prop,
            (∀ y s, y.natAbs < 10 ^ 40 → SrcAt s l → s[gp]? = some (.dic (gs.map gkv)) → s[up]? = some (.lst ((gs.map (·.n)).map .str ++ [.str z])) → Q (.int y) s) → Sat (m_law_gain [scr ns, .loc l, .int 0] s) Q := fun x s hx h1 h2 h3 Q q => gain0_ok h1 fun y s' hy h4 g4 => q y s' (Nat.lt_of_le_of_lt hy (by decide)) h4 (g4.at' h2 (by simp; omega)) (g4.at' h3 (by simp; omega))
        refine draw_len q0 q1 fun y hy => ?_
        simp only [List.mem_cons, List.not_mem_nil, or_false] at hy
        rcases hy with rfl | rfl
        · rw [sat_nil]
          refine ⟨rfl, gain0_ok hs6 fun x s7 hx hs7 g7 => ?_⟩
          have hg7 := g7.at' hg6 (by simp; omega)
          have hu7 := g7.at' hu6 (by simp; omega)
          have hx : x.natAbs < 10 ^ 40 := Nat.lt_of_le_of_lt hx (by decide)
          rw [sat_cons, sat_call, sat_cons, sat_var rfl, sat_cons, sat_var rfl, sat_cons, sat_c, sat_nil]
          refine ⟨rfl, second x s7 hx hs7 hg7 hu7 _ fun y s8 hy hs8 hg8 hu8 => ?_⟩
          rw [sat_nil, sat_tup]
          refine ⟨sl2, ?_⟩
          rw [sat_var rfl, sat_var rfl]
          exact fin x y s8 hx hy hs8 hg8 hu8
        · rw [sat_nil]
          refine ⟨rfl, gain2_ok hs6 fun x s7 hx hs7 g7 => ?_⟩
          have hg7 := g7.at' hg6 (by simp; omega)
          have hu7 := g7.at' hu6 (by simp; omega)
          rw [sat_cons, sat_call, sat_cons, sat_var rfl, sat_cons, sat_var rfl, sat_cons, sat_c, sat_nil]
          refine ⟨rfl, second x s7 hx hs7 hg7 hu7 _ fun y s8 hy hs8 hg8 hu8 => ?_⟩
          rw [sat_nil, sat_tup]
          refine ⟨sl2, ?_⟩
          rw [sat_var rfl, sat_var rfl]
          exact fin x y s8 hx hy hs8 hg8 hu8
      · rintro e s ⟨gs, a, b, rfl, hok, hnd, hlen, hg, hu, hsr⟩
        rw [rngs_len] at hlen
        exact ⟨gs, a, b, rfl, ⟨hok, hnd, by omega⟩, hg, hsr⟩
    rintro e s3 ⟨gs, a, b, rfl, hG, hg, hs3⟩
    have hGl := hG.len
    have dc : ∀ s : Store, s[gp]? = some (.dic (gs.map gkv)) → dicOf s (.loc gp) = some (gs.map gkv) := fun s h => by unfold dicOf; simp only [h]
    have hsl : (srt gs).length = gs.length := (srt_perm gs).length_eq
    -- the lines
    rw [ss_seq, ss_set, sat_comp, sat_iVal, sat_args, sat_cons, sat_var rfl, sat_nil, o_sortD (dc s3 hg) (keys_gkv gs) (by rw [List.length_map]; omega), srt_names, o_itL]
    have em : ((srt gs).map (·.n)).map PV.str = (srt gs).map fun g => PV.str g.n := by simp
    rw [em]
    refine comp_map (as := srt gs) (f := fun g => PV.str g.n) (g := fun g => PV.str (gainS g)) (by simp [wipeP]) (by omega) (fun g mg => det fun Q k => by
      have mg' := (srt_perm gs).mem_iff.mp mg
      have look : ∀ (env : PEnv) (j : Int) (x : PV), env[2]? = some (some (.loc gp)) → env[11]? = some (some (.str g.n)) → (∀ Q : PV → Store → Prop, Q x s3 → Sat (pIxD g.pair (.int j) s3) Q) → eBin pIxD (eBin pIxD (eVar 2) (eVar 11)) (eC (.int j)) env s3 = .ok x s3 := fun env j x h1 h2 h3 => det fun Q k => by
        rw [sat_bin, sat_bin, sat_var h1, sat_var h2]
        show Sat (pIxD (.loc gp) (keyPV (.inr g.n)) s3) _
        rw [o_getD (dc s3 hg) (get_gkv hG.nd mg'), sat_c]
        exact h3 Q k
      refine line_made (hG.ok g mg') k (det fun Q k => by rw [sat_var (v := .str g.n) (by simp [wipeP])]; exact k) (look _ _ _ (by simp [wipeP]) (by simp [wipeP]) fun Q q => ?_) (look _ _ _ (by simp [wipeP]) (by simp [wipeP]) fun Q q => ?_)
      · show Sat (pIxD (.tup [.int g.a, .int g.b]) (.int 0) s3) Q
        rw [o_ixDT, o_ixT, ixW_0]; exact q
      · show Sat (pIxD (.tup [.int g.a, .int g.b]) (.int 1) s3) Q
        rw [o_ixDT, o_ixT, ixW_1]; exact q) ?_ _ trivial
    have em2 : ((srt gs).map fun g => PV.str (gainS g)) = ((srt gs).map gainS).map PV.str := by simp
    rw [o_finF, em2]
    have hlL := lines_len hG
    rw [ss_seq, ss_set, sat_meth, sat_c]
    refine ⟨rfl, ?_⟩
    rw [sat_cons, sat_var rfl, sat_nil, o_join (b := false) rfl (by omega)]
    rw [ss_seq, ss_if, sat_or, sat_not, sat_test, sat_call, sat_cons, sat_call, sat_cons, sat_var rfl, sat_nil]
    refine ⟨rfl, format_gains_ok hG hg fun s4 g4 => ?_⟩
    have hg4 := g4.at' hg (by simp)
    have hs4 := hs3.gr g4 (by simp)
    rw [sat_cons, sat_var rfl, sat_nil]
    refine ⟨rfl, ?_⟩
    rw [told_ret (d := 0) Dt.s (by decide), sat_ok, sat_truth, Bool.not_true, if_neg (by simp), sat_not, sat_test, sat_call, sat_cons, sat_call, sat_cons, sat_var rfl, sat_nil]
    refine ⟨rfl, read_text F hG ?_⟩
    have hs5 : SrcAt (s4 ++ [.dic ((srt gs).map gkv)]) l := hs4.gr (L := []) .app (by simp)
    have hg5 : (s4 ++ [.dic ((srt gs).map gkv)])[gp]? = some (.dic (gs.map gkv)) := (Gr.app (L := [])).at' hg4 (by simp)
    have hr5 : (s4 ++ [.dic ((srt gs).map gkv)])[s4.length]? = some (.dic ((srt gs).map gkv)) := by simp
    generalize s4 ++ [.dic ((srt gs).map gkv)] = s5 at *
    rw [sat_cons, sat_var rfl, sat_nil]
    refine ⟨rfl, ?_⟩
    have et : m_law_told [.loc s4.length, .loc gp] s5 = .ok (.bl true) s5 := told_dict2 (n := 59) (d := 1) hr5 hg5 (keys_gkv _) (keys_gkv _) (by rw [List.length_map]; omega) (by rw [List.length_map]; omega) srt_twice (fun p m => by
      obtain ⟨g, mg, rfl⟩ := List.mem_map.mp m
      exact get_gkv (srt_nd hG.nd) ((srt_perm gs).mem_iff.mpr mg)) hG.nd (fun p m => by
      obtain ⟨g, mg, rfl⟩ := List.mem_map.mp m
      refine Dt.t (by simp) fun x mx => ?_
      simp only [List.mem_cons, List.not_mem_nil, or_false] at mx
      rcases mx with rfl | rfl <;> exact .i) (by decide)
    rw [et, sat_ok, sat_truth, Bool.not_true, if_neg (by simp), ss_nil]
    -- the lot
    rw [ss_seq, ss_set, sat_call, sat_cons, sat_var rfl, sat_cons, sat_var rfl, sat_cons, sat_bin, sat_c, sat_call, sat_cons, sat_var rfl, sat_cons, sat_var rfl, sat_cons, sat_c, sat_nil]
    refine ⟨rfl, draw' hs5 (by decide) (by decide) fun q1 s6 a0 a1 hs6 _ => ?_⟩
    rw [o_addI, sat_nil]
    refine ⟨rfl, lot_ok hs6 (by omega) (by omega) fun ws s7 hwl hw hwm hs7 => ?_⟩
    have hw8 : ws.length ≤ 8 := by omega
    have hw0 : ws ≠ [] := fun e => by rw [e] at hwl; simp at hwl; omega
    -- the parts
    rw [ss_seq, ss_set, sat_args, sat_cons, sat_comp, sat_iRange1, sat_c, o_rng]
    refine ⟨by decide, ?_⟩
    refine comp_rng (fun y => ∃ p, y = frPV p ∧ FrOk p) (fun t => SrcAt t l) (by simp [wipeP]) (by decide) hs7 (fun j t hI => ?_) fun ys s8 hyl hE hs8 => ?_
    · rw [sat_call, sat_cons, sat_call, sat_cons, sat_var (v := scr ns) (by simp [wipeP]), sat_cons, sat_var (v := .loc l) (by simp [wipeP]), sat_cons, sat_c, sat_nil]
      refine ⟨rfl, gain0_ok hI fun t1 s8 ht1 hs8 _ => ?_⟩
      rw [sat_cons, sat_bin, sat_c, sat_call, sat_cons, sat_var (v := scr ns) (by simp [wipeP]), sat_cons, sat_var (v := .loc l) (by simp [wipeP]), sat_cons, sat_c, sat_nil]
      refine ⟨rfl, draw' hs8 (by decide) (by decide) fun q2 s9 b0 b1 hs9 _ => ?_⟩
      rw [o_addI, sat_nil]
      exact ⟨rfl, fraction_made ht1 (by omega) (by omega) fun p h1 h2 h3 h4 => ⟨⟨p, rfl, h1, h2, h3, h4⟩, hs9⟩⟩
    obtain ⟨ps, rfl, hps⟩ : ∃ ps : List (Int × Int), ys = ps.map frPV ∧ ∀ p ∈ ps, FrOk p := by
      clear hyl
      induction ys with
      | nil => exact ⟨[], rfl, nofun⟩
      | cons y ys ih =>
        obtain ⟨ps, e, h⟩ := ih fun z m => hE z (List.mem_cons_of_mem _ m)
        obtain ⟨p, rfl, hp⟩ := hE y List.mem_cons_self
        refine ⟨p :: ps, by rw [e]; rfl, fun x m => ?_⟩
        rcases List.mem_cons.mp m with rfl | m
        · exact hp
        · exact h x m
    rw [o_finF, sat_nil, sat_one, o_tupL]
    have hp4 : ps.length = 4 := by simpa using hyl
    rw [ss_seq, ss_set, sat_sl, sat_var rfl, sat_oNone, sat_oSome, sat_call, sat_cons, sat_var rfl, sat_cons, sat_var rfl, sat_cons, sat_c, sat_nil]
    refine ⟨rfl, draw' hs8 (by decide) (by decide) fun q3 s9 d0 d1 hs9 _ => ?_⟩
    obtain ⟨j, rfl⟩ := Int.eq_ofNat_of_zero_le d0
    show Sat (pSl (.tup (ps.map frPV)) none (some (j : Int)) s9) _
    have ecut : ∀ Q : PV → Store → Prop, Sat (pSl (.tup (ps.map frPV)) none (some (j : Int)) s9) Q = Q (.tup ((ps.take j).map frPV)) s9 := fun Q => by
      have : pSl (.tup (ps.map frPV)) none (some (j : Int)) s9 = .ok (.tup (cutP (ps.map frPV) none (some (j : Int)))) s9 := rfl
      rw [this, sat_ok, cut_lo (by rw [List.length_map]; omega), List.map_take]
    rw [ecut]
    have hps' : ∀ p ∈ ps.take j, FrOk p := fun p m => hps p (List.mem_of_mem_take m)
    have hpl' : (ps.take j).length ≤ 5 := by rw [List.length_take]; omega
    generalize ps.take j = pq at *
    -- each part, written and read
    refine seq_mid (fun e s => ∃ (x y : Option PV), e = ([some (scr ns), some (PV.loc l), some (PV.loc gp), some (PV.loc up), a, (some (PV.lst (((srt gs).map gainS).map PV.str))), (some (PV.str (Txt.join "\n" ((srt gs).map gainS)))), (some (PV.tup (ws.map PV.int))), (some (PV.tup (pq.map frPV))), x, none, b, y, none, none, none, none, none, none, none] : PEnv) ∧ s = s9) ?_ ?_
    · rw [ss_for, sat_iVal, sat_var rfl, o_itT]
      refine for_invN (k := 0) (fun _ e s => ∃ (x y : Option PV), e = ([some (scr ns), some (PV.loc l), some (PV.loc gp), some (PV.loc up), a, (some (PV.lst (((srt gs).map gainS).map PV.str))), (some (PV.str (Txt.join "\n" ((srt gs).map gainS)))), (some (PV.tup (ws.map PV.int))), (some (PV.tup (pq.map frPV))), x, none, b, y, none, none, none, none, none, none, none] : PEnv) ∧ s = s9) ⟨none, none, rfl, rfl⟩ ?_ (fun e s h => h)
      rintro i v e s hv ⟨x, y, rfl, rfl⟩
      obtain ⟨p, mp, rfl⟩ := List.mem_map.mp (List.mem_of_getElem? hv)
      have hp := hps' p mp
      have l1 := int_len hp.b1
      have l2 := int_len hp.b2
      have x0 : ∀ Q : PV → Store → Prop, Sat (pIxD (frPV p) (.int 0) s) Q = Q (.int p.1) s := fun Q => by
        show Sat (pIxD (.tup [.int p.1, .int p.2]) (.int 0) s) Q = _
        rw [o_ixDT, o_ixT, ixW_0]
      have x1 : ∀ Q : PV → Store → Prop, Sat (pIxD (frPV p) (.int 1) s) Q = Q (.int p.2) s := fun Q => by
        show Sat (pIxD (.tup [.int p.1, .int p.2]) (.int 1) s) Q = _
        rw [o_ixDT, o_ixT, ixW_1]
      refine ⟨_, rfl, ?_⟩
      rw [ss_seq, ss_set, sat_bin, sat_bin, sat_args, sat_cons, sat_bin, sat_var rfl, sat_c, x0, sat_nil, sat_one, o_str]
      refine ⟨log_big hp.b1, ?_⟩
      rw [sat_c, o_addS]
      refine ⟨by rw [slash1, sizeLine_eq]; omega, ?_⟩
      rw [sat_args, sat_cons, sat_bin, sat_var rfl, sat_c, x1, sat_nil, sat_one, o_str]
      refine ⟨log_big hp.b2, ?_⟩
      rw [o_addS]
      refine ⟨by rw [len_app, slash1, sizeLine_eq]; omega, ?_⟩
      rw [ss_if, sat_or, sat_not, sat_test, sat_call, sat_cons, sat_call, sat_cons, sat_var rfl, sat_nil, format_fraction_eq hp, sat_ok]
      refine ⟨rfl, ?_⟩
      rw [sat_cons, sat_var (v := .str (frS p)) rfl, sat_nil]
      refine ⟨rfl, ?_⟩
      rw [told_ret (d := 0) Dt.s (by decide), sat_ok, sat_truth, Bool.not_true, if_neg (by simp), sat_not, sat_test, sat_call, sat_cons, sat_call, sat_cons, sat_var (v := .str (frS p)) rfl, sat_nil]
      refine ⟨rfl, fraction_ok (by have := frS_len hp; omega) ?_⟩
      rw [frac_back hp, sat_cons, sat_var rfl, sat_nil]
      refine ⟨rfl, ?_⟩
      have hd : Dt 1 (frPV p) := by
        refine Dt.t (by simp) fun x mx => ?_
        simp only [List.mem_cons, List.not_mem_nil, or_false] at mx
        rcases mx with rfl | rfl <;> exact .i
      show Sat (m_law_told [frPV p, frPV p] s) _
      rw [told_ret hd (by decide), sat_ok, sat_truth, Bool.not_true, if_neg (by simp), ss_nil]
      exact ⟨_, _, rfl, rfl⟩
    rintro e s10 ⟨x9, y12, rfl, rfl⟩
    -- wanted
    rw [ss_seq, ss_set, sat_args, sat_cons, sat_meth, sat_c]
    refine ⟨rfl, ?_⟩
    rw [sat_cons, sat_bin, sat_args, sat_cons, sat_c, sat_nil, sat_lst]
    refine ⟨sl1, ?_⟩
    rw [sat_comp, sat_iVal, sat_var rfl, o_itT]
    refine comp_map (as := ws) (f := PV.int) (g := fun w => PV.str (strInt w)) (by simp [wipeP]) (by omega) (fun w mw => det fun Q k => by
      rw [sat_args, sat_cons, sat_var (v := .int w) (by simp [wipeP]), sat_nil, sat_one, o_str]
      exact ⟨log_big (Nat.lt_of_lt_of_le (show w.natAbs < 1000 by have := hw w mw; omega) (by decide)), k⟩) ?_ _ trivial
    rw [o_finF, o_addL]
    refine ⟨by rw [sizeLine_eq, List.length_map, List.length_singleton]; omega, ?_⟩
    have el : [PV.str "lot"] ++ ws.map (fun w => PV.str (strInt w)) = (lotS ws).map .str := by unfold lotS; simp
    rw [el, sat_nil, o_join (b := false) rfl (by have := lotS_len hw hw8; omega), sat_nil, sat_loc]
    refine ⟨sl1, ?_⟩
    have hwb := hw
    -- the two lines that are wanted
    have hlA := lotS_len hw hw8
    have hlB := partS_len hps' hpl'
    have jA := join_len (y := " ") (ps := lotS ws)
    have jB := join_len (y := " ") (ps := partS pq)
    have eA : sumL (lotS ws) = ((lotS ws).map (·.length)).sum := rfl
    have eB : sumL (partS pq) = ((partS pq).map (·.length)).sum := rfl
    have fA : 10 ∉ tl (Txt.join " " (lotS ws)) := join_free (by decide +kernel) fun p mp => by
      unfold lotS at mp
      rcases List.mem_cons.mp mp with rfl | mp
      · decide +kernel
      · obtain ⟨w, _, rfl⟩ := List.mem_map.mp mp
        exact free_int (by omega)
    have fB : 10 ∉ tl (Txt.join " " (partS pq)) := join_free (by decide +kernel) fun p mp => by
      unfold partS at mp
      rcases List.mem_cons.mp mp with rfl | mp
      · decide +kernel
      · obtain ⟨w, _, rfl⟩ := List.mem_map.mp mp
        unfold frS
        rw [tl_app, tl_app]
        intro z
        rcases List.mem_append.mp z with z | z
        · rcases List.mem_append.mp z with z | z
          · exact free_int (by omega) z
          · revert z; decide +kernel
        · exact free_int (by omega) z
    have hsA : SrcAt (s10 ++ [PO.lst [PV.str (Txt.join " " (lotS ws))]]) l := hs9.gr (L := []) .app (by simp)
    have hwA : (s10 ++ [PO.lst [PV.str (Txt.join " " (lotS ws))]])[s10.length]? = some (.lst [PV.str (Txt.join " " (lotS ws))]) := by simp
    have hlt := hs9.lt
    have hne : s10.length ≠ l := by omega
    generalize s10 ++ [PO.lst [PV.str (Txt.join " " (lotS ws))]] = sA at *
    generalize s10.length = wp at *
    rw [ss_seq, ss_expr, sat_meth, sat_var rfl]
    refine ⟨o_isL hwA, ?_⟩
    rw [sat_cons, sat_meth, sat_c]
    refine ⟨rfl, ?_⟩
    rw [sat_cons, sat_bin, sat_args, sat_cons, sat_c, sat_nil, sat_lst]
    refine ⟨sl1, ?_⟩
    rw [sat_comp, sat_iVal, sat_var rfl, o_itT]
    refine comp_map (as := pq) (f := frPV) (g := fun p => PV.str (frS p)) (by simp [wipeP]) (by omega) (fun p mp => det fun Q k => by
      have hp := hps' p mp
      have l1 := int_len hp.b1
      have l2 := int_len hp.b2
      have x0 : ∀ Q : PV → Store → Prop, Sat (pIxD (frPV p) (.int 0) sA) Q = Q (.int p.1) sA := fun Q => by
        show Sat (pIxD (.tup [.int p.1, .int p.2]) (.int 0) sA) Q = _
        rw [o_ixDT, o_ixT, ixW_0]
      have x1 : ∀ Q : PV → Store → Prop, Sat (pIxD (frPV p) (.int 1) sA) Q = Q (.int p.2) sA := fun Q => by
        show Sat (pIxD (.tup [.int p.1, .int p.2]) (.int 1) sA) Q = _
        rw [o_ixDT, o_ixT, ixW_1]
      rw [sat_bin, sat_bin, sat_args, sat_cons, sat_bin, sat_var (v := frPV p) (by simp [wipeP]), sat_c, x0, sat_nil, sat_one, o_str]
      refine ⟨log_big hp.b1, ?_⟩
      rw [sat_c, o_addS]
      refine ⟨by rw [slash1, sizeLine_eq]; omega, ?_⟩
      rw [sat_args, sat_cons, sat_bin, sat_var (v := frPV p) (by simp [wipeP]), sat_c, x1, sat_nil, sat_one, o_str]
      refine ⟨log_big hp.b2, ?_⟩
      rw [o_addS]
      exact ⟨by rw [len_app, slash1, sizeLine_eq]; omega, k⟩) ?_ _ trivial
    rw [o_finF, o_addL]
    refine ⟨by rw [sizeLine_eq, List.length_map, List.length_singleton]; omega, ?_⟩
    have el2 : [PV.str "prices"] ++ pq.map (fun p => PV.str (frS p)) = (partS pq).map .str := by unfold partS; simp
    rw [el2, sat_nil, o_join (b := false) rfl (by omega), sat_nil, o_app hwA]
    refine ⟨by rw [sizeLine_eq]; simp, ?_⟩
    have hsB : SrcAt (sA.set wp (.lst ([PV.str (Txt.join " " (lotS ws))] ++ [PV.str (Txt.join " " (partS pq))]))) l := hsA.gr (L := [wp]) (.set (by simp)) (by simp; omega)
    have hwB : (sA.set wp (.lst ([PV.str (Txt.join " " (lotS ws))] ++ [PV.str (Txt.join " " (partS pq))])))[wp]? = some (.lst [PV.str (Txt.join " " (lotS ws)), PV.str (Txt.join " " (partS pq))]) := by rw [List.getElem?_set_self (lt_of_some hwA)]; rfl
    generalize sA.set wp (.lst ([PV.str (Txt.join " " (lotS ws))] ++ [PV.str (Txt.join " " (partS pq))])) = sB at *
    have hsq : seqOf sB (.loc wp) = some (false, [PV.str (Txt.join " " (lotS ws)), PV.str (Txt.join " " (partS pq))]) := by unfold seqOf; simp only [hwB]
    have w0 : ∀ Q : PV → Store → Prop, Sat (pIxD (.loc wp) (.int 0) sB) Q = Q (.str (Txt.join " " (lotS ws))) sB := fun Q => by rw [ixd_seq hsq, o_ixP hwB, ixW_0]
    have w1 : ∀ Q : PV → Store → Prop, Sat (pIxD (.loc wp) (.int 1) sB) Q = Q (.str (Txt.join " " (partS pq))) sB := fun Q => by rw [ixd_seq hsq, o_ixP hwB, ixW_1]
    rw [ss_seq, ss_if, sat_or, sat_not, sat_test, sat_call, sat_cons, sat_call, sat_cons, sat_var (v := .tup (ws.map .int)) rfl, sat_nil, format_lot_eq hw hw8, sat_ok]
    refine ⟨rfl, ?_⟩
    rw [sat_cons, sat_bin, sat_var (v := .loc wp) rfl, sat_c, w0, sat_nil]
    refine ⟨rfl, ?_⟩
    rw [told_ret (d := 0) Dt.s (by decide), sat_ok, sat_truth, Bool.not_true, if_neg (by simp), sat_not, sat_test, sat_call, sat_cons, sat_call, sat_cons, sat_c, sat_cons, sat_var (v := .tup (pq.map frPV)) rfl, sat_nil, format_parts_eq hps' hpl', sat_ok]
    refine ⟨rfl, ?_⟩
    rw [sat_cons, sat_bin, sat_var (v := .loc wp) rfl, sat_c, w1, sat_nil]
    refine ⟨rfl, ?_⟩
    rw [told_ret (d := 0) Dt.s (by decide), sat_ok, sat_truth, Bool.not_true, if_neg (by simp), ss_nil]
    rw [ss_seq, ss_if, sat_or, sat_not, sat_test, sat_call, sat_cons, sat_call, sat_cons, sat_bin, sat_var (v := .loc wp) rfl, sat_c, w0, sat_nil]
    refine ⟨rfl, read_lot_ok F (by omega) ?_⟩
    rw [lot_back hw hw0 hwm, sat_cons, sat_var (v := .tup (ws.map .int)) rfl, sat_nil]
    refine ⟨rfl, ?_⟩
    rw [told_ret (dt_ints (d := 0) (by omega)) (by decide), sat_ok, sat_truth, Bool.not_true, if_neg (by simp), sat_not, sat_test, sat_call, sat_cons, sat_call, sat_cons, sat_c, sat_cons, sat_bin, sat_var (v := .loc wp) rfl, sat_c, w1, sat_nil]
    refine ⟨rfl, read_parts_ok F (by omega) ?_⟩
    rw [parts_back hps', sat_cons, sat_var (v := .tup (pq.map frPV)) rfl, sat_nil]
    refine ⟨rfl, ?_⟩
    rw [told_ret (dt_frs (d := 0) (by omega)) (by decide), sat_ok, sat_truth, Bool.not_true, if_neg (by simp), ss_nil]
    rw [ss_seq]
    refine bents_ok F hsB hne hwB (by omega) fA (by omega) fB fun k2 w2 l2 b2 sC hsC gC => ?_
    rw [ss_seq]
    refine (spoilt_ok F hsC (by rw [List.length_map, hsl]; exact hG.len) (fun z m => ?_) (lines_free hG)).mono (fun e s _ => ?_) (fun v s h => h)
    · obtain ⟨x, mx, rfl⟩ := List.mem_map.mp m
      have := gainS_len (hG.ok x ((srt_perm gs).mem_iff.mp mx))
      omega
    · rw [ss_ret, sat_c]
  obtain ⟨v, s, e, rfl⟩ := this.elim
  exact ⟨s, e⟩
end PL
/-! printed by gen.py: the text's places -/
namespace PL
open PySem PySem.Spec PyProof.Rows L2
def topS (i : Nat) : Stmt := PySem.Challenge.pw_sequencesandadvice_k84_texts_of_gains_an.main.body.getD i (.Pass ⟨0, 0, 0, 0⟩)
structure Blt (mg : Str → Option Value) : Prop where
  b_abs : mg "abs" = none
  b_bool : mg "bool" = none
  b_dict : mg "dict" = none
  b_enumerate : mg "enumerate" = none
  b_int : mg "int" = none
  b_isinstance : mg "isinstance" = none
  b_len : mg "len" = none
  b_list : mg "list" = none
  b_max : mg "max" = none
  b_range : mg "range" = none
  b_sorted : mg "sorted" = none
  b_str : mg "str" = none
  b_sum : mg "sum" = none
  b_tuple : mg "tuple" = none
  g_gcd : mg "gcd" = some (.builtin "math.gcd")
  c_DIGITS : ∃ t, mg "DIGITS" = some (.str ("0123456789" : Str) t)
  c_LETTERS : ∃ t, mg "LETTERS" = some (.str ("abcdefghijklmnopqrstuvwxyz" : Str) t)
  c_LONGEST_NAME : ∃ t, mg "LONGEST_NAME" = some (.int 12 t)
  c_LONGEST_NUMBER : ∃ t, mg "LONGEST_NUMBER" = some (.int 40 t)
abbrev s_is_name : Stmt := topS 10
theorem sc_is_name : FnScope N_is_name ["word"] (defScope s_is_name) := ⟨rfl, rfl, rfl, by decide +kernel, rfl, by decide +kernel, by decide +kernel⟩
abbrev s_number_in : Stmt := topS 11
theorem sc_number_in : FnScope N_number_in ["word"] (defScope s_number_in) := ⟨rfl, rfl, rfl, by decide +kernel, rfl, by decide +kernel, by decide +kernel⟩
abbrev s_integer_in : Stmt := topS 13
theorem sc_integer_in : FnScope N_integer_in ["word"] (defScope s_integer_in) := ⟨rfl, rfl, rfl, by decide +kernel, rfl, by decide +kernel, by decide +kernel⟩
abbrev s_fraction_in : Stmt := topS 14
theorem sc_fraction_in : FnScope N_fraction_in ["word"] (defScope s_fraction_in) := ⟨rfl, rfl, rfl, by decide +kernel, rfl, by decide +kernel, by decide +kernel⟩
abbrev s_format_fraction : Stmt := topS 15
theorem sc_format_fraction : FnScope N_format_fraction ["part"] (defScope s_format_fraction) := ⟨rfl, rfl, rfl, by decide +kernel, rfl, by decide +kernel, by decide +kernel⟩
abbrev s_read_words : Stmt := topS 16
theorem sc_read_words : FnScope N_read_words ["words", "reader"] (defScope s_read_words) := ⟨rfl, rfl, rfl, by decide +kernel, rfl, by decide +kernel, by decide +kernel⟩
abbrev s_format_gains : Stmt := topS 17
theorem sc_format_gains : FnScope N_format_gains ["gains"] (defScope s_format_gains) := ⟨rfl, rfl, rfl, by decide +kernel, rfl, by decide +kernel, by decide +kernel⟩
abbrev s_read_gain : Stmt := topS 18
theorem sc_read_gain : FnScope N_read_gain ["line"] (defScope s_read_gain) := ⟨rfl, rfl, rfl, by decide +kernel, rfl, by decide +kernel, by decide +kernel⟩
abbrev s_read_gains : Stmt := topS 19
theorem sc_read_gains : FnScope N_read_gains ["text"] (defScope s_read_gains) := ⟨rfl, rfl, rfl, by decide +kernel, rfl, by decide +kernel, by decide +kernel⟩
abbrev s_format_lot : Stmt := topS 20
theorem sc_format_lot : FnScope N_format_lot ["lot"] (defScope s_format_lot) := ⟨rfl, rfl, rfl, by decide +kernel, rfl, by decide +kernel, by decide +kernel⟩
abbrev s_read_lot : Stmt := topS 21
theorem sc_read_lot : FnScope N_read_lot ["line"] (defScope s_read_lot) := ⟨rfl, rfl, rfl, by decide +kernel, rfl, by decide +kernel, by decide +kernel⟩
abbrev s_format_parts : Stmt := topS 22
theorem sc_format_parts : FnScope N_format_parts ["word", "parts"] (defScope s_format_parts) := ⟨rfl, rfl, rfl, by decide +kernel, rfl, by decide +kernel, by decide +kernel⟩
abbrev s_read_parts : Stmt := topS 23
theorem sc_read_parts : FnScope N_read_parts ["word", "line"] (defScope s_read_parts) := ⟨rfl, rfl, rfl, by decide +kernel, rfl, by decide +kernel, by decide +kernel⟩
abbrev s_law_source : Stmt := topS 25
theorem sc_law_source : FnScope N_law_source ["script"] (defScope s_law_source) := ⟨rfl, rfl, rfl, by decide +kernel, rfl, by decide +kernel, by decide +kernel⟩
abbrev s_law_draw : Stmt := topS 26
theorem sc_law_draw : FnScope N_law_draw ["script", "source", "limit"] (defScope s_law_draw) := ⟨rfl, rfl, rfl, by decide +kernel, rfl, by decide +kernel, by decide +kernel⟩
abbrev s_law_name : Stmt := topS 27
theorem sc_law_name : FnScope N_law_name ["script", "source", "used"] (defScope s_law_name) := ⟨rfl, rfl, rfl, by decide +kernel, rfl, by decide +kernel, by decide +kernel⟩
abbrev s_law_gcd : Stmt := topS 28
theorem sc_law_gcd : FnScope N_law_gcd ["a", "b"] (defScope s_law_gcd) := ⟨rfl, rfl, rfl, by decide +kernel, rfl, by decide +kernel, by decide +kernel⟩
abbrev s_law_is_name : Stmt := topS 29
theorem sc_law_is_name : FnScope N_law_is_name ["word"] (defScope s_law_is_name) := ⟨rfl, rfl, rfl, by decide +kernel, rfl, by decide +kernel, by decide +kernel⟩
abbrev s_law_told : Stmt := topS 30
theorem sc_law_told : FnScope N_law_told ["answer", "due"] (defScope s_law_told) := ⟨rfl, rfl, rfl, by decide +kernel, rfl, by decide +kernel, by decide +kernel⟩
abbrev s_law_fraction : Stmt := topS 31
theorem sc_law_fraction : FnScope N_law_fraction ["top", "bottom"] (defScope s_law_fraction) := ⟨rfl, rfl, rfl, by decide +kernel, rfl, by decide +kernel, by decide +kernel⟩
abbrev s_law_gain : Stmt := topS 32
theorem sc_law_gain : FnScope N_law_gain ["script", "source", "style"] (defScope s_law_gain) := ⟨rfl, rfl, rfl, by decide +kernel, rfl, by decide +kernel, by decide +kernel⟩
abbrev s_law_lot : Stmt := topS 33
theorem sc_law_lot : FnScope N_law_lot ["script", "source", "count"] (defScope s_law_lot) := ⟨rfl, rfl, rfl, by decide +kernel, rfl, by decide +kernel, by decide +kernel⟩
abbrev s_law_own_number : Stmt := topS 34
theorem sc_law_own_number : FnScope N_law_own_number ["word"] (defScope s_law_own_number) := ⟨rfl, rfl, rfl, by decide +kernel, rfl, by decide +kernel, by decide +kernel⟩
abbrev s_law_own_integer : Stmt := topS 35
theorem sc_law_own_integer : FnScope N_law_own_integer ["word"] (defScope s_law_own_integer) := ⟨rfl, rfl, rfl, by decide +kernel, rfl, by decide +kernel, by decide +kernel⟩
abbrev s_law_own_fraction : Stmt := topS 36
theorem sc_law_own_fraction : FnScope N_law_own_fraction ["word"] (defScope s_law_own_fraction) := ⟨rfl, rfl, rfl, by decide +kernel, rfl, by decide +kernel, by decide +kernel⟩
abbrev s_law_own_gain : Stmt := topS 37
theorem sc_law_own_gain : FnScope N_law_own_gain ["line"] (defScope s_law_own_gain) := ⟨rfl, rfl, rfl, by decide +kernel, rfl, by decide +kernel, by decide +kernel⟩
abbrev s_law_own_lot : Stmt := topS 38
theorem sc_law_own_lot : FnScope N_law_own_lot ["line"] (defScope s_law_own_lot) := ⟨rfl, rfl, rfl, by decide +kernel, rfl, by decide +kernel, by decide +kernel⟩
abbrev s_law_own_parts : Stmt := topS 39
theorem sc_law_own_parts : FnScope N_law_own_parts ["word", "line"] (defScope s_law_own_parts) := ⟨rfl, rfl, rfl, by decide +kernel, rfl, by decide +kernel, by decide +kernel⟩
abbrev s_law_bent : Stmt := topS 40
theorem sc_law_bent : FnScope N_law_bent ["script", "source", "line"] (defScope s_law_bent) := ⟨rfl, rfl, rfl, by decide +kernel, rfl, by decide +kernel, by decide +kernel⟩
abbrev s_law_lines_fault : Stmt := topS 41
theorem sc_law_lines_fault : FnScope N_law_lines_fault ["lines"] (defScope s_law_lines_fault) := ⟨rfl, rfl, rfl, by decide +kernel, rfl, by decide +kernel, by decide +kernel⟩
abbrev s_law_read_or : Stmt := topS 42
theorem sc_law_read_or : FnScope N_law_read_or ["text"] (defScope s_law_read_or) := ⟨rfl, rfl, rfl, by decide +kernel, rfl, by decide +kernel, by decide +kernel⟩
abbrev s_law_pairs_dict : Stmt := topS 43
theorem sc_law_pairs_dict : FnScope N_law_pairs_dict ["lines"] (defScope s_law_pairs_dict) := ⟨rfl, rfl, rfl, by decide +kernel, rfl, by decide +kernel, by decide +kernel⟩
abbrev s_law : Stmt := topS 44
theorem sc_law : FnScope N_law ["script"] (defScope s_law) := ⟨rfl, rfl, rfl, by decide +kernel, rfl, by decide +kernel, by decide +kernel⟩
end PL
/-! printed by gen.py: is_name is worth its evaluator -/
namespace PL
open PySem PySem.Spec PyProof.Rows L2
section
variable {P : Program} {w : World} {K : PySem.W.Frag} {mg : Str → Option Value} {base : Heap}
theorem has_is_name (B : Blt mg) (d : DefOf K mg "is_name" s_is_name ["word"])   : Has P w K mg base "is_name" ["word"] 1 m_is_name :=
  has_of (k := 0) (N := N_is_name) d sc_is_name fun cdv A outer s H E hr =>
  (mb_cons (ms_if (PW.pt (mw_or (mt_not (mt_chain (os_le hr.units) (os_le hr.units) me_int (me_callB cs_len rfl B.b_len bb_len (ma_cons (me_var 0) ma_nil)) (me_gint rfl (B.c_LONGEST_NAME).choose_spec))) (mw_or1 (mt_cmp (os_notIn hr.units) (me_ix is_ix (me_var 0) me_int) (me_gstr rfl (B.c_LETTERS).choose_spec))))) (mb_one (ms_ret me_bl)) mb_nil)
    (mb_cons (ms_for PassesOwn.never rfl (mi_val (me_var 0)) (mg_one (i := 1) sc_is_name.nd)
    (mb_one (ms_if (PW.pt (mw_and (mt_cmp (os_notIn hr.units) (me_var 1) (me_gstr rfl (B.c_LETTERS).choose_spec)) (mw_and1 (mt_cmp (os_notIn hr.units) (me_var 1) (me_gstr rfl (B.c_DIGITS).choose_spec))))) (mb_one (ms_ret me_bl)) mb_nil)))
    (mb_one (ms_ret me_bl))))
end
end PL
/-! printed by gen.py: number_in is worth its evaluator -/
namespace PL
open PySem PySem.Spec PyProof.Rows L2
section
variable {P : Program} {w : World} {K : PySem.W.Frag} {mg : Str → Option Value} {base : Heap}
theorem has_number_in (B : Blt mg) (d : DefOf K mg "number_in" s_number_in ["word"])   : Has P w K mg base "number_in" ["word"] 1 m_number_in :=
  has_of (k := 0) (N := N_number_in) d sc_number_in fun cdv A outer s H E hr =>
  (mb_cons (ms_if (mt_not (mt_chain (os_le hr.units) (os_le hr.units) me_int (me_callB cs_len rfl B.b_len bb_len (ma_cons (me_var 0) ma_nil)) (me_gint rfl (B.c_LONGEST_NUMBER).choose_spec))) (mb_one (ms_ret me_non)) mb_nil)
    (mb_cons (ms_for PassesOwn.never rfl (mi_val (me_var 0)) (mg_one (i := 1) sc_number_in.nd)
    (mb_one (ms_if (mt_cmp (os_notIn hr.units) (me_var 1) (me_gstr rfl (B.c_DIGITS).choose_spec)) (mb_one (ms_ret me_non)) mb_nil)))
    (mb_cons (ms_if (PW.pt (mw_and (mt_cmp (os_eq hr.units) (me_ix is_ix (me_var 0) me_int) me_str) (mw_and1 (mt_cmp (os_gt hr.units) (me_callB cs_len rfl B.b_len bb_len (ma_cons (me_var 0) ma_nil)) me_int)))) (mb_one (ms_ret me_non)) mb_nil)
    (mb_one (ms_ret (me_callTy cs_int rfl B.b_int bt_int (ma_cons (me_var 0) ma_nil)))))))
end
end PL
/-! printed by gen.py: integer_in is worth its evaluator -/
namespace PL
open PySem PySem.Spec PyProof.Rows L2
section
variable {P : Program} {w : World} {K : PySem.W.Frag} {mg : Str → Option Value} {base : Heap}
theorem has_integer_in (B : Blt mg) (d : DefOf K mg "integer_in" s_integer_in ["word"])  (h_number_in : Has P w K mg base "number_in" ["word"] 1 m_number_in) : Has P w K mg base "integer_in" ["word"] 2 m_integer_in :=
  has_of (k := 1) (N := N_integer_in) d sc_integer_in fun cdv A outer s H E hr =>
  (mb_cons (ms_if (mt_cmp (os_ne hr.units) (me_sl ss_sl (me_var 0) mo_none (mo_some me_int)) me_str) (mb_one (ms_ret (me_callH h_number_in (hr.mono (by decide)) (ma_cons (me_var 0) ma_nil)))) mb_nil)
    (mb_cons (ms_set (i := 1) sc_integer_in.nd (me_callH h_number_in (hr.mono (by decide)) (ma_cons (me_sl ss_sl (me_var 0) (mo_some me_int) mo_none) ma_nil)))
    (mb_cons (ms_if (PW.pt (mw_or (mt_cmp os_is (me_var 1) me_non) (mw_or1 (mt_cmp (os_eq hr.units) (me_var 1) me_int)))) (mb_one (ms_ret me_non)) mb_nil)
    (mb_one (ms_ret (me_un us_neg (me_var 1)))))))
end
end PL
/-! printed by gen.py: fraction_in is worth its evaluator -/
namespace PL
open PySem PySem.Spec PyProof.Rows L2
section
variable {P : Program} {w : World} {K : PySem.W.Frag} {mg : Str → Option Value} {base : Heap}
theorem has_fraction_in (B : Blt mg) (d : DefOf K mg "fraction_in" s_fraction_in ["word"])  (h_number_in : Has P w K mg base "number_in" ["word"] 1 m_number_in) (h_integer_in : Has P w K mg base "integer_in" ["word"] 2 m_integer_in) : Has P w K mg base "fraction_in" ["word"] 3 m_fraction_in :=
  has_of (k := 2) (N := N_fraction_in) d sc_fraction_in fun cdv A outer s H E hr =>
  (mb_cons (ms_set (i := 1) sc_fraction_in.nd (me_bm mts_split PySem.F.plainAttrs_str PySem.F.slot_str_split PySem.F.type_str_split (me_var 0) (ma_cons me_str ma_nil)))
    (mb_cons (ms_if (mt_cmp (os_ne hr.units) (me_callB cs_len rfl B.b_len bb_len (ma_cons (me_var 1) ma_nil)) me_int) (mb_one (ms_ret me_non)) mb_nil)
    (mb_cons (ms_set (i := 2) sc_fraction_in.nd (me_callH h_integer_in (hr.mono (by decide)) (ma_cons (me_ix is_ix (me_var 1) me_int) ma_nil)))
    (mb_cons (ms_set (i := 3) sc_fraction_in.nd (me_callH h_number_in (hr.mono (by decide)) (ma_cons (me_ix is_ix (me_var 1) me_int) ma_nil)))
    (mb_cons (ms_if (PW.pt (mw_or (mt_cmp os_is (me_var 2) me_non) (mw_or (mt_cmp os_is (me_var 3) me_non) (mw_or (mt_cmp (os_eq hr.units) (me_var 3) me_int) (mw_or1 (mt_cmp (os_ne hr.units) (me_callG cs_gcd rfl B.g_gcd (ma_cons (me_var 2) (ma_cons (me_var 3) ma_nil))) me_int)))))) (mb_one (ms_ret me_non)) mb_nil)
    (mb_one (ms_ret (me_tup (ma_cons (me_var 2) (ma_cons (me_var 3) ma_nil))))))))))
end
end PL
/-! printed by gen.py: format_fraction is worth its evaluator -/
namespace PL
open PySem PySem.Spec PyProof.Rows L2
section
variable {P : Program} {w : World} {K : PySem.W.Frag} {mg : Str → Option Value} {base : Heap}
theorem has_format_fraction (B : Blt mg) (d : DefOf K mg "format_fraction" s_format_fraction ["part"])   : Has P w K mg base "format_fraction" ["part"] 1 m_format_fraction :=
  has_of (k := 0) (N := N_format_fraction) d sc_format_fraction fun cdv A outer s H E hr =>
  (mb_one (ms_ret (me_bin os_add (me_bin os_add (me_callTy cs_str rfl B.b_str bt_str (ma_cons (me_ix is_ix (me_var 0) me_int) ma_nil)) me_str) (me_callTy cs_str rfl B.b_str bt_str (ma_cons (me_ix is_ix (me_var 0) me_int) ma_nil)))))
end
end PL
/-! printed by gen.py: _read_words is worth its evaluator -/
namespace PL
open PySem PySem.Spec PyProof.Rows L2
section
variable {P : Program} {w : World} {K : PySem.W.Frag} {mg : Str → Option Value} {base : Heap}
theorem has_read_words (B : Blt mg) (d : DefOf K mg "_read_words" s_read_words ["words", "reader"])  {V : Fv} (tab : TabOk P w K mg base 1 3 V.T)  : Has P w K mg base "_read_words" ["words", "reader"] 4 (m_read_words V) :=
  has_of (k := 3) (N := N_read_words) d sc_read_words fun cdv A outer s H E hr =>
  (mb_cons (ms_setCompG false (i := 2) (own := [("word", 3)]) rfl sc_read_words.nd (mi_val (me_var 0)) (blkOk_by (own := [("word", 3)]) (N := N_read_words) (sc := defScope s_read_words) (by decide +kernel)) (fun _ _ _ _ _ => (mg_one (i := 3) sc_read_words.nd)) (fun _ _ _ _ _ => mts_nil) (fun _ _ _ _ _ => (me_callA (i := 1) tab (hr.mono (by decide)) (by rfl) (by first | exact Or.inl rfl | exact Or.inr (Or.inl rfl) | exact Or.inr (Or.inr rfl)) (ma_cons (me_var 3) ma_nil))))
    (mb_cons (ms_if (mt_cmp (os_in hr.units) me_non (me_var 2)) (mb_one (ms_ret me_non)) mb_nil)
    (mb_one (ms_ret (me_callTy cs_tuple rfl B.b_tuple bt_tuple (ma_cons (me_var 2) ma_nil))))))
end
end PL
/-! printed by gen.py: format_gains is worth its evaluator -/
namespace PL
open PySem PySem.Spec PyProof.Rows L2
section
variable {P : Program} {w : World} {K : PySem.W.Frag} {mg : Str → Option Value} {base : Heap}
theorem has_format_gains (B : Blt mg) (d : DefOf K mg "format_gains" s_format_gains ["gains"])   : Has P w K mg base "format_gains" ["gains"] 1 m_format_gains :=
  has_of (k := 0) (N := N_format_gains) d sc_format_gains fun cdv A outer s H E hr =>
  (mb_cons (ms_set (i := 1) sc_format_gains.nd (me_loc ma_nil))
    (mb_cons (ms_for PassesOwn.never rfl (mi_val (me_callB (cs_sortedD rfl hr.units) rfl B.b_sorted bb_sorted (ma_cons (me_var 0) ma_nil))) (mg_one (i := 2) sc_format_gains.nd)
    (mb_cons (ms_tg (mg_tup rfl (mgs_cons (i := 3) sc_format_gains.nd (mgs_cons (i := 4) sc_format_gains.nd mgs_nil))) (me_ix (is_ixD hr.units) (me_var 0) (me_var 2)))
    (mb_one (ms_expr (me_bm mts_append PySem.F.plainAttrs_list PySem.F.slot_list_append PySem.F.type_list_append (me_var 1) (ma_cons (me_bin os_add (me_bin os_add (me_bin os_add (me_bin os_add (me_bin os_add me_str (me_var 2)) me_str) (me_callTy cs_str rfl B.b_str bt_str (ma_cons (me_var 3) ma_nil))) me_str) (me_callTy cs_str rfl B.b_str bt_str (ma_cons (me_var 4) ma_nil))) ma_nil))))))
    (mb_one (ms_ret (me_bm mts_join PySem.F.plainAttrs_str PySem.F.slot_str_join PySem.F.type_str_join me_str (ma_cons (me_var 1) ma_nil))))))
end
end PL
/-! printed by gen.py: read_gain is worth its evaluator -/
namespace PL
open PySem PySem.Spec PyProof.Rows L2
section
variable {P : Program} {w : World} {K : PySem.W.Frag} {mg : Str → Option Value} {base : Heap}
theorem has_read_gain (B : Blt mg) (d : DefOf K mg "read_gain" s_read_gain ["line"])  {V : Fv} (gf_integer_in : mg "integer_in" = some (.ref V.integer_in)) (h_is_name : Has P w K mg base "is_name" ["word"] 1 m_is_name) (h_read_words : Has P w K mg base "_read_words" ["words", "reader"] 4 (m_read_words V)) : Has P w K mg base "read_gain" ["line"] 5 (m_read_gain V) :=
  has_of (k := 4) (N := N_read_gain) d sc_read_gain fun cdv A outer s H E hr =>
  (mb_cons (ms_set (i := 1) sc_read_gain.nd (me_bm mts_split PySem.F.plainAttrs_str PySem.F.slot_str_split PySem.F.type_str_split (me_var 0) (ma_cons me_str ma_nil)))
    (mb_cons (ms_if (PW.pt (mw_or (mt_cmp (os_ne hr.units) (me_callB cs_len rfl B.b_len bb_len (ma_cons (me_var 1) ma_nil)) me_int) (mw_or (mt_cmp (os_ne hr.units) (me_ix is_ix (me_var 1) me_int) me_str) (mw_or1 (mt_not (mt_val (me_callH h_is_name (hr.mono (by decide)) (ma_cons (me_ix is_ix (me_var 1) me_int) ma_nil)))))))) (mb_one (ms_ret me_non)) mb_nil)
    (mb_cons (ms_set (i := 2) sc_read_gain.nd (me_callH h_read_words (hr.mono (by decide)) (ma_cons (me_sl ss_sl (me_var 1) (mo_some me_int) mo_none) (ma_cons (me_gval (v := .ref V.integer_in) rfl gf_integer_in rfl) ma_nil))))
    (mb_cons (ms_if (mt_cmp os_is (me_var 2) me_non) (mb_one (ms_ret me_non)) mb_nil)
    (mb_one (ms_ret (me_tup (ma_cons (me_ix is_ix (me_var 1) me_int) (ma_cons (me_var 2) ma_nil)))))))))
end
end PL
/-! printed by gen.py: read_gains is worth its evaluator -/
namespace PL
open PySem PySem.Spec PyProof.Rows L2
section
variable {P : Program} {w : World} {K : PySem.W.Frag} {mg : Str → Option Value} {base : Heap}
theorem has_read_gains (B : Blt mg) (d : DefOf K mg "read_gains" s_read_gains ["text"])  {V : Fv} {C_BadText fI_BadText : Addr} (x_BadText : PLX.XTxt P K mg "BadText" C_BadText fI_BadText "line" "BadText.__init__" PLX.xStr PLX.PInt) (h_read_gain : Has P w K mg base "read_gain" ["line"] 5 (m_read_gain V)) : HasX P w K mg base "read_gains" ["text"] 6 (m_read_gains V) :=
  hasX_of (k := 5) (N := N_read_gains) d sc_read_gains fun cdv A outer s H E hr =>
  (mb_cons (ms_set (i := 1) sc_read_gains.nd me_dict0)
    (mb_cons (ms_if (mt_cmp (os_eq hr.units) (me_var 0) me_str) (mb_one (ms_ret (me_var 1))) mb_nil)
    (mb_cons (ms_set (i := 2) sc_read_gains.nd me_str)
    (mb_cons (ms_for (passes_of rfl) rfl (mi_enum rfl B.b_enumerate (me_bm mts_split PySem.F.plainAttrs_str PySem.F.slot_str_split PySem.F.type_str_split (me_var 0) (ma_cons me_str ma_nil))) (mg_tup rfl (mgs_cons (i := 3) sc_read_gains.nd (mgs_cons (i := 4) sc_read_gains.nd mgs_nil)))
    (mb_cons (ms_set (i := 5) sc_read_gains.nd (me_callH h_read_gain (hr.mono (by decide)) (ma_cons (me_var 4) ma_nil)))
    (mb_cons (ms_if (PW.pt (mw_or (mt_cmp os_is (me_var 5) me_non) (mw_or1 (mt_not (mt_cmp (os_lt hr.units) (me_var 2) (me_ix (is_ixD hr.units) (me_var 5) me_int)))))) (mb_one (ms_raise (k := 0) cond_int rfl (takes_of rfl rfl rfl rfl) x_BadText (hr.mono (by decide)) (me_bin os_add (me_var 3) me_int))) mb_nil)
    (mb_cons (ms_set (i := 2) sc_read_gains.nd (me_ix (is_ixD hr.units) (me_var 5) me_int))
    (mb_one (ms_sub (sts_setD hr.units) (me_var 1) (me_var 2) (me_ix (is_ixD hr.units) (me_var 5) me_int)))))))
    (mb_one (ms_ret (me_var 1)))))))
end
end PL
/-! printed by gen.py: format_lot is worth its evaluator -/
namespace PL
open PySem PySem.Spec PyProof.Rows L2
section
variable {P : Program} {w : World} {K : PySem.W.Frag} {mg : Str → Option Value} {base : Heap}
theorem has_format_lot (B : Blt mg) (d : DefOf K mg "format_lot" s_format_lot ["lot"])   : Has P w K mg base "format_lot" ["lot"] 1 m_format_lot :=
  has_of (k := 0) (N := N_format_lot) d sc_format_lot fun cdv A outer s H E hr =>
  (mb_one (ms_ret (me_bm mts_join PySem.F.plainAttrs_str PySem.F.slot_str_join PySem.F.type_str_join me_str (ma_cons (me_bin os_add (me_lst (ma_cons me_str ma_nil)) (me_compG false (own := [("weight", 1)]) rfl sc_format_lot.nd (mi_val (me_var 0)) (blkOk_by (own := [("weight", 1)]) (N := N_format_lot) (sc := defScope s_format_lot) (by decide +kernel)) (fun _ _ _ _ _ => (mg_one (i := 1) sc_format_lot.nd)) (fun _ _ _ _ _ => mts_nil) (fun _ _ _ _ _ => (me_callTy cs_str rfl B.b_str bt_str (ma_cons (me_var 1) ma_nil))))) ma_nil))))
end
end PL
/-! printed by gen.py: read_lot is worth its evaluator -/
namespace PL
open PySem PySem.Spec PyProof.Rows L2
section
variable {P : Program} {w : World} {K : PySem.W.Frag} {mg : Str → Option Value} {base : Heap}
theorem has_read_lot (B : Blt mg) (d : DefOf K mg "read_lot" s_read_lot ["line"])  {V : Fv} (gf_number_in : mg "number_in" = some (.ref V.number_in)) (h_read_words : Has P w K mg base "_read_words" ["words", "reader"] 4 (m_read_words V)) : Has P w K mg base "read_lot" ["line"] 5 (m_read_lot V) :=
  has_of (k := 4) (N := N_read_lot) d sc_read_lot fun cdv A outer s H E hr =>
  (mb_cons (ms_set (i := 1) sc_read_lot.nd (me_bm mts_split PySem.F.plainAttrs_str PySem.F.slot_str_split PySem.F.type_str_split (me_var 0) (ma_cons me_str ma_nil)))
    (mb_cons (ms_if (PW.pt (mw_or (mt_cmp (os_ne hr.units) (me_ix is_ix (me_var 1) me_int) me_str) (mw_or1 (mt_cmp (os_lt hr.units) (me_callB cs_len rfl B.b_len bb_len (ma_cons (me_var 1) ma_nil)) me_int)))) (mb_one (ms_ret me_non)) mb_nil)
    (mb_cons (ms_set (i := 2) sc_read_lot.nd (me_callH h_read_words (hr.mono (by decide)) (ma_cons (me_sl ss_sl (me_var 1) (mo_some me_int) mo_none) (ma_cons (me_gval (v := .ref V.number_in) rfl gf_number_in rfl) ma_nil))))
    (mb_cons (ms_if (PW.pt (mw_or (mt_cmp os_is (me_var 2) me_non) (mw_or1 (mt_cmp (os_eq hr.units) (me_callB (cs_max rfl hr.units) rfl B.b_max bb_max (ma_cons (me_var 2) ma_nil)) me_int)))) (mb_one (ms_ret me_non)) mb_nil)
    (mb_one (ms_ret (me_var 2)))))))
end
end PL
/-! printed by gen.py: format_parts is worth its evaluator -/
namespace PL
open PySem PySem.Spec PyProof.Rows L2
section
variable {P : Program} {w : World} {K : PySem.W.Frag} {mg : Str → Option Value} {base : Heap}
theorem has_format_parts (B : Blt mg) (d : DefOf K mg "format_parts" s_format_parts ["word", "parts"])  (h_format_fraction : Has P w K mg base "format_fraction" ["part"] 1 m_format_fraction) : Has P w K mg base "format_parts" ["word", "parts"] 2 m_format_parts :=
  has_of (k := 1) (N := N_format_parts) d sc_format_parts fun cdv A outer s H E hr =>
  (mb_one (ms_ret (me_bm mts_join PySem.F.plainAttrs_str PySem.F.slot_str_join PySem.F.type_str_join me_str (ma_cons (me_bin os_add (me_lst (ma_cons (me_var 0) ma_nil)) (me_compG false (own := [("part", 2)]) rfl sc_format_parts.nd (mi_val (me_var 1)) (blkOk_by (own := [("part", 2)]) (N := N_format_parts) (sc := defScope s_format_parts) (by decide +kernel)) (fun _ _ _ _ _ => (mg_one (i := 2) sc_format_parts.nd)) (fun _ _ _ _ _ => mts_nil) (fun _ _ _ _ _ => (me_callH h_format_fraction (hr.mono (by decide)) (ma_cons (me_var 2) ma_nil))))) ma_nil))))
end
end PL
/-! printed by gen.py: read_parts is worth its evaluator -/
namespace PL
open PySem PySem.Spec PyProof.Rows L2
section
variable {P : Program} {w : World} {K : PySem.W.Frag} {mg : Str → Option Value} {base : Heap}
theorem has_read_parts (B : Blt mg) (d : DefOf K mg "read_parts" s_read_parts ["word", "line"])  {V : Fv} (gf_fraction_in : mg "fraction_in" = some (.ref V.fraction_in)) (h_read_words : Has P w K mg base "_read_words" ["words", "reader"] 4 (m_read_words V)) : Has P w K mg base "read_parts" ["word", "line"] 5 (m_read_parts V) :=
  has_of (k := 4) (N := N_read_parts) d sc_read_parts fun cdv A outer s H E hr =>
  (mb_cons (ms_set (i := 2) sc_read_parts.nd (me_bm mts_split PySem.F.plainAttrs_str PySem.F.slot_str_split PySem.F.type_str_split (me_var 1) (ma_cons me_str ma_nil)))
    (mb_cons (ms_if (mt_cmp (os_ne hr.units) (me_ix is_ix (me_var 2) me_int) (me_var 0)) (mb_one (ms_ret me_non)) mb_nil)
    (mb_one (ms_ret (me_callH h_read_words (hr.mono (by decide)) (ma_cons (me_sl ss_sl (me_var 2) (mo_some me_int) mo_none) (ma_cons (me_gval (v := .ref V.fraction_in) rfl gf_fraction_in rfl) ma_nil)))))))
end
end PL
/-! printed by gen.py: _law_source is worth its evaluator -/
namespace PL
open PySem PySem.Spec PyProof.Rows L2
section
variable {P : Program} {w : World} {K : PySem.W.Frag} {mg : Str → Option Value} {base : Heap}
theorem has_law_source (B : Blt mg) (d : DefOf K mg "_law_source" s_law_source ["script"])   : Has P w K mg base "_law_source" ["script"] 1 m_law_source :=
  has_of (k := 0) (N := N_law_source) d sc_law_source fun cdv A outer s H E hr =>
  (mb_cons (ms_set (i := 1) sc_law_source.nd me_int)
    (mb_cons (ms_for PassesOwn.never rfl (mi_val (me_var 0)) (mg_one (i := 2) sc_law_source.nd)
    (mb_one (ms_set (i := 1) sc_law_source.nd (me_bin os_mod (me_callTy cs_int rfl B.b_int bt_int (ma_cons (me_bin os_add (me_bin os_add (me_bin os_mul (me_var 1) me_int) (me_bin os_mul (me_var 2) me_int)) me_int) ma_nil)) me_int))))
    (mb_one (ms_ret (me_loc (ma_cons me_int (ma_cons me_int (ma_cons (me_var 1) ma_nil))))))))
end
end PL
/-! printed by gen.py: _law_draw is worth its evaluator -/
namespace PL
open PySem PySem.Spec PyProof.Rows L2
section
variable {P : Program} {w : World} {K : PySem.W.Frag} {mg : Str → Option Value} {base : Heap}
theorem has_law_draw (B : Blt mg) (d : DefOf K mg "_law_draw" s_law_draw ["script", "source", "limit"])   : Has P w K mg base "_law_draw" ["script", "source", "limit"] 1 m_law_draw :=
  has_of (k := 0) (N := N_law_draw) d sc_law_draw fun cdv A outer s H E hr =>
  (mb_cons (ms_if (PW.pt (mw_and (mt_cmp (os_eq hr.units) (me_ix is_ix (me_var 1) me_int) me_int) (mw_and1 (mt_cmp (os_lt hr.units) (me_ix is_ix (me_var 1) me_int) (me_callB cs_len rfl B.b_len bb_len (ma_cons (me_var 0) ma_nil)))))) (mb_cons (ms_set (i := 3) sc_law_draw.nd (me_callB cs_abs rfl B.b_abs bb_abs (ma_cons (me_ix is_ix (me_var 0) (me_ix is_ix (me_var 1) me_int)) ma_nil)))
    (mb_cons (ms_sub sts_set (me_var 1) me_int (me_bin os_add (me_ix is_ix (me_var 1) me_int) me_int))
    (mb_cons (ms_if (mt_cmp (os_lt hr.units) (me_var 3) (me_bin os_pow me_int me_int)) (mb_cons (ms_set (i := 3) sc_law_draw.nd (me_bin os_mod (me_callTy cs_int rfl B.b_int bt_int (ma_cons (me_bin os_add (me_bin os_add (me_bin os_mul (me_var 3) me_int) (me_bin os_mul (me_ix is_ix (me_var 1) me_int) me_int)) (me_ix is_ix (me_var 1) me_int)) ma_nil)) me_int))
    (mb_one (ms_set (i := 3) sc_law_draw.nd (me_bin os_mod (me_callTy cs_int rfl B.b_int bt_int (ma_cons (me_bin os_add (me_bin os_add (me_bin os_mul (me_var 3) (me_var 3)) (me_bin os_mul (me_var 3) me_int)) (me_ix is_ix (me_var 1) me_int)) ma_nil)) me_int)))) mb_nil)
    (mb_one (ms_sub sts_set (me_var 1) me_int (me_var 3)))))) mb_nil)
    (mb_cons (ms_if (mt_cmp (os_gt hr.units) (me_ix is_ix (me_var 1) me_int) me_int) (mb_cons (ms_set (i := 4) sc_law_draw.nd (me_bin os_mod (me_callTy cs_int rfl B.b_int bt_int (ma_cons (me_ix is_ix (me_var 1) me_int) ma_nil)) (me_var 2)))
    (mb_cons (ms_sub sts_set (me_var 1) me_int (me_bin os_fdiv (me_ix is_ix (me_var 1) me_int) (me_var 2)))
    (mb_one (ms_ret (me_var 4))))) mb_nil)
    (mb_cons (ms_sub sts_set (me_var 1) me_int (me_bin os_mod (me_callTy cs_int rfl B.b_int bt_int (ma_cons (me_bin os_add (me_bin os_mul (me_ix is_ix (me_var 1) me_int) me_int) me_int) ma_nil)) me_int))
    (mb_one (ms_ret (me_bin os_mod (me_callTy cs_int rfl B.b_int bt_int (ma_cons (me_bin os_fdiv (me_ix is_ix (me_var 1) me_int) me_int) ma_nil)) (me_var 2)))))))
end
end PL
/-! printed by gen.py: _law_name is worth its evaluator -/
namespace PL
open PySem PySem.Spec PyProof.Rows L2
section
variable {P : Program} {w : World} {K : PySem.W.Frag} {mg : Str → Option Value} {base : Heap}
theorem has_law_name (B : Blt mg) (d : DefOf K mg "_law_name" s_law_name ["script", "source", "used"])  (h_law_draw : Has P w K mg base "_law_draw" ["script", "source", "limit"] 1 m_law_draw) : Has P w K mg base "_law_name" ["script", "source", "used"] 2 m_law_name :=
  has_of (k := 1) (N := N_law_name) d sc_law_name fun cdv A outer s H E hr =>
  (mb_cons (ms_set (i := 3) sc_law_name.nd me_str)
    (mb_cons (ms_set (i := 4) sc_law_name.nd (me_bin os_add (me_var 3) me_str))
    (mb_cons (ms_set (i := 5) sc_law_name.nd (me_ix is_ix (me_var 3) (me_callH h_law_draw (hr.mono (by decide)) (ma_cons (me_var 0) (ma_cons (me_var 1) (ma_cons me_int ma_nil))))))
    (mb_cons (ms_for PassesOwn.never rfl (mi_range1 rfl B.b_range (me_callH h_law_draw (hr.mono (by decide)) (ma_cons (me_var 0) (ma_cons (me_var 1) (ma_cons me_int ma_nil))))) (mg_one (i := 6) sc_law_name.nd)
    (mb_one (ms_set (i := 5) sc_law_name.nd (me_bin os_add (me_var 5) (me_ix is_ix (me_var 4) (me_callH h_law_draw (hr.mono (by decide)) (ma_cons (me_var 0) (ma_cons (me_var 1) (ma_cons me_int ma_nil)))))))))
    (mb_cons (ms_if (mt_cmp (os_eq hr.units) (me_callH h_law_draw (hr.mono (by decide)) (ma_cons (me_var 0) (ma_cons (me_var 1) (ma_cons me_int ma_nil)))) me_int) (mb_one (ms_set (i := 5) sc_law_name.nd (me_ix is_ix (me_lst (ma_cons me_str (ma_cons me_str (ma_cons me_str (ma_cons me_str (ma_cons me_str (ma_cons me_str ma_nil))))))) (me_callH h_law_draw (hr.mono (by decide)) (ma_cons (me_var 0) (ma_cons (me_var 1) (ma_cons me_int ma_nil))))))) mb_nil)
    (mb_cons (ms_set (i := 7) sc_law_name.nd (me_var 5))
    (mb_cons (ms_for PassesOwn.never rfl (mi_range1 rfl B.b_range (me_bin os_add (me_callB cs_len rfl B.b_len bb_len (ma_cons (me_var 2) ma_nil)) me_int)) (mg_one (i := 6) sc_law_name.nd)
    (mb_one (ms_if (mt_cmp (os_in hr.units) (me_var 5) (me_var 2)) (mb_one (ms_set (i := 5) sc_law_name.nd (me_bin os_add (me_var 7) (me_callTy cs_str rfl B.b_str bt_str (ma_cons (me_var 6) ma_nil))))) mb_nil)))
    (mb_one (ms_ret (me_var 5))))))))))
end
end PL
/-! printed by gen.py: _law_gcd is worth its evaluator -/
namespace PL
open PySem PySem.Spec PyProof.Rows L2
section
variable {P : Program} {w : World} {K : PySem.W.Frag} {mg : Str → Option Value} {base : Heap}
theorem has_law_gcd (B : Blt mg) (d : DefOf K mg "_law_gcd" s_law_gcd ["a", "b"])   : Has P w K mg base "_law_gcd" ["a", "b"] 1 m_law_gcd :=
  has_of (k := 0) (N := N_law_gcd) d sc_law_gcd fun cdv A outer s H E hr =>
  (mb_cons (ms_for PassesOwn.never rfl (mi_range1 rfl B.b_range (me_bin os_add (me_bin os_mul me_int (me_bits (me_callTy cs_int rfl B.b_int bt_int (ma_cons (me_var 1) ma_nil)))) me_int)) (mg_one (i := 2) sc_law_gcd.nd)
    (mb_cons (ms_if (mt_cmp (os_eq hr.units) (me_var 1) me_int) (mb_one (ms_ret (me_var 0))) mb_nil)
    (mb_one (ms_par (i := 0) (j := 1) rfl sc_law_gcd.nd (by decide) (ma_cons (me_var 1) (ma_cons (me_bin os_mod (me_callTy cs_int rfl B.b_int bt_int (ma_cons (me_var 0) ma_nil)) (me_var 1)) ma_nil))))))
    (mb_one (ms_ret (me_var 0))))
end
end PL
/-! printed by gen.py: _law_is_name is worth its evaluator -/
namespace PL
open PySem PySem.Spec PyProof.Rows L2
section
variable {P : Program} {w : World} {K : PySem.W.Frag} {mg : Str → Option Value} {base : Heap}
theorem has_law_is_name (B : Blt mg) (d : DefOf K mg "_law_is_name" s_law_is_name ["word"])   : Has P w K mg base "_law_is_name" ["word"] 1 m_law_is_name :=
  has_of (k := 0) (N := N_law_is_name) d sc_law_is_name fun cdv A outer s H E hr =>
  (mb_cons (ms_set (i := 1) sc_law_is_name.nd me_str)
    (mb_cons (ms_if (PW.pt (mw_or (mt_not (mt_chain (os_le hr.units) (os_le hr.units) me_int (me_callB cs_len rfl B.b_len bb_len (ma_cons (me_var 0) ma_nil)) me_int)) (mw_or1 (mt_cmp (os_notIn hr.units) (me_ix is_ix (me_var 0) me_int) (me_var 1))))) (mb_one (ms_ret me_bl)) mb_nil)
    (mb_one (ms_ret (me_cmp (os_eq hr.units) (me_callB cs_len rfl B.b_len bb_len (ma_cons (me_compG false (own := [("sign", 2)]) rfl sc_law_is_name.nd (mi_val (me_var 0)) (blkOk_by (own := [("sign", 2)]) (N := N_law_is_name) (sc := defScope s_law_is_name) (by decide +kernel)) (fun _ _ _ _ _ => (mg_one (i := 2) sc_law_is_name.nd)) (fun _ _ _ _ _ => (mts_one (PW.pt (mw_and (mt_cmp (os_notIn hr.units) (me_var 2) (me_var 1)) (mw_and1 (mt_cmp (os_notIn hr.units) (me_var 2) me_str)))))) (fun _ _ _ _ _ => (me_var 2))) ma_nil)) me_int)))))
end
end PL
/-! printed by gen.py: _law_told is worth its evaluator -/
namespace PL
open PySem PySem.Spec PyProof.Rows L2
section
variable {P : Program} {w : World} {K : PySem.W.Frag} {mg : Str → Option Value} {base : Heap}
theorem has_law_told (B : Blt mg) (d : DefOf K mg "_law_told" s_law_told ["answer", "due"])   : Has P w K mg base "_law_told" ["answer", "due"] 61 m_law_told :=
  has_rec (k := 1) (n := 60) (N := N_law_told) d sc_law_told (by decide) fun n HS cdv A outer s H E hr =>
  (mb_cons (ms_if (mt_cmp os_is (me_var 1) me_non) (mb_one (ms_ret (me_cmp os_is (me_var 0) me_non))) mb_nil)
    (mb_cons (ms_if (PW.pt (mw_or (mt_val (me_callB cs_isi rfl B.b_isinstance bb_isinstance (ma_cons (me_var 1) (ma_cons (me_bval (v := .ty "bool") rfl B.b_bool bt_bool rfl) ma_nil)))) (mw_or1 (mt_val (me_callB cs_isi rfl B.b_isinstance bb_isinstance (ma_cons (me_var 0) (ma_cons (me_bval (v := .ty "bool") rfl B.b_bool bt_bool rfl) ma_nil))))))) (mb_one (ms_ret (me_and (me_callB cs_isi rfl B.b_isinstance bb_isinstance (ma_cons (me_var 1) (ma_cons (me_bval (v := .ty "bool") rfl B.b_bool bt_bool rfl) ma_nil))) (me_and (me_callB cs_isi rfl B.b_isinstance bb_isinstance (ma_cons (me_var 0) (ma_cons (me_bval (v := .ty "bool") rfl B.b_bool bt_bool rfl) ma_nil))) (me_one (me_cmp (os_eq hr.units) (me_var 0) (me_var 1))))))) mb_nil)
    (mb_cons (ms_if (mt_val (me_callB cs_isi rfl B.b_isinstance bb_isinstance (ma_cons (me_var 1) (ma_cons (me_bval (v := .ty "int") rfl B.b_int bt_int rfl) ma_nil)))) (mb_one (ms_ret (me_and (me_callB cs_isi rfl B.b_isinstance bb_isinstance (ma_cons (me_var 0) (ma_cons (me_bval (v := .ty "int") rfl B.b_int bt_int rfl) ma_nil))) (me_one (me_cmp (os_eq hr.units) (me_var 0) (me_var 1)))))) mb_nil)
    (mb_cons (ms_if (mt_val (me_callB cs_isi rfl B.b_isinstance bb_isinstance (ma_cons (me_var 1) (ma_cons (me_bval (v := .ty "str") rfl B.b_str bt_str rfl) ma_nil)))) (mb_one (ms_ret (me_and (me_callB cs_isi rfl B.b_isinstance bb_isinstance (ma_cons (me_var 0) (ma_cons (me_bval (v := .ty "str") rfl B.b_str bt_str rfl) ma_nil))) (me_one (me_cmp (os_eq hr.units) (me_var 0) (me_var 1)))))) mb_nil)
    (mb_cons (ms_if (mt_val (me_callB cs_isi rfl B.b_isinstance bb_isinstance (ma_cons (me_var 1) (ma_cons (me_bval (v := .ty "dict") rfl B.b_dict bt_dict rfl) ma_nil)))) (mb_cons (ms_if (PW.pt (mw_or (mt_not (mt_val (me_callB cs_isi rfl B.b_isinstance bb_isinstance (ma_cons (me_var 0) (ma_cons (me_bval (v := .ty "dict") rfl B.b_dict bt_dict rfl) ma_nil))))) (mw_or1 (mt_cmp (os_ne hr.units) (me_callB (cs_sortedD rfl hr.units) rfl B.b_sorted bb_sorted (ma_cons (me_var 0) ma_nil)) (me_callB (cs_sortedD rfl hr.units) rfl B.b_sorted bb_sorted (ma_cons (me_var 1) ma_nil)))))) (mb_one (ms_ret me_bl)) mb_nil)
    (mb_one (ms_ret (me_cmp (os_eq hr.units) (me_callB cs_len rfl B.b_len bb_len (ma_cons (me_lock (i := 1) (me_compG false (own := [("name", 3)]) rfl sc_law_told.nd (mi_dict (me_var 1)) (blkOk_by (own := [("name", 3)]) (N := N_law_told) (sc := defScope s_law_told) (by decide +kernel)) (fun _ _ _ _ _ => (mg_one (i := 3) sc_law_told.nd)) (fun _ _ _ _ _ => (mts_one (mt_not (mt_val (me_callH HS hr (ma_cons (me_ix (is_ixD hr.units) (me_var 0) (me_var 3)) (ma_cons (me_ix (is_ixD hr.units) (me_var 1) (me_var 3)) ma_nil))))))) (fun _ _ _ _ _ => (me_var 3)))) ma_nil)) me_int)))) mb_nil)
    (mb_cons (ms_if (PW.pt (mw_or (mt_cmp (os_ne hr.units) (me_callB cs_isi rfl B.b_isinstance bb_isinstance (ma_cons (me_var 1) (ma_cons (me_bval (v := .ty "tuple") rfl B.b_tuple bt_tuple rfl) ma_nil))) (me_callB cs_isi rfl B.b_isinstance bb_isinstance (ma_cons (me_var 0) (ma_cons (me_bval (v := .ty "tuple") rfl B.b_tuple bt_tuple rfl) ma_nil)))) (mw_or1 (mt_cmp (os_ne hr.units) (me_callB cs_isi rfl B.b_isinstance bb_isinstance (ma_cons (me_var 1) (ma_cons (me_bval (v := .ty "list") rfl B.b_list bt_list rfl) ma_nil))) (me_callB cs_isi rfl B.b_isinstance bb_isinstance (ma_cons (me_var 0) (ma_cons (me_bval (v := .ty "list") rfl B.b_list bt_list rfl) ma_nil))))))) (mb_one (ms_ret me_bl)) mb_nil)
    (mb_cons (ms_if (PW.pt (mw_or (mt_not (mt_val (me_callB cs_isi rfl B.b_isinstance bb_isinstance (ma_cons (me_var 0) (ma_cons (me_tup (ma_cons (me_bval (v := .ty "tuple") rfl B.b_tuple bt_tuple rfl) (ma_cons (me_bval (v := .ty "list") rfl B.b_list bt_list rfl) ma_nil))) ma_nil))))) (mw_or1 (mt_cmp (os_ne hr.units) (me_callB cs_len rfl B.b_len bb_len (ma_cons (me_var 0) ma_nil)) (me_callB cs_len rfl B.b_len bb_len (ma_cons (me_var 1) ma_nil)))))) (mb_one (ms_ret me_bl)) mb_nil)
    (mb_cons (ms_for PassesOwn.never rfl (mi_range1 rfl B.b_range (me_callB cs_len rfl B.b_len bb_len (ma_cons (me_var 1) ma_nil))) (mg_one (i := 2) sc_law_told.nd)
    (mb_one (ms_if (mt_not (mt_val (me_callH HS hr (ma_cons (me_ix (is_ixD hr.units) (me_var 0) (me_var 2)) (ma_cons (me_ix (is_ixD hr.units) (me_var 1) (me_var 2)) ma_nil))))) (mb_one (ms_ret me_bl)) mb_nil)))
    (mb_one (ms_ret me_bl))))))))))
end
end PL
/-! printed by gen.py: _law_fraction is worth its evaluator -/
namespace PL
open PySem PySem.Spec PyProof.Rows L2
section
variable {P : Program} {w : World} {K : PySem.W.Frag} {mg : Str → Option Value} {base : Heap}
theorem has_law_fraction (B : Blt mg) (d : DefOf K mg "_law_fraction" s_law_fraction ["top", "bottom"])  (h_law_gcd : Has P w K mg base "_law_gcd" ["a", "b"] 1 m_law_gcd) : Has P w K mg base "_law_fraction" ["top", "bottom"] 2 m_law_fraction :=
  has_of (k := 1) (N := N_law_fraction) d sc_law_fraction fun cdv A outer s H E hr =>
  (mb_cons (ms_if (mt_cmp (os_lt hr.units) (me_var 1) me_int) (mb_one (ms_par (i := 0) (j := 1) rfl sc_law_fraction.nd (by decide) (ma_cons (me_un us_neg (me_var 0)) (ma_cons (me_un us_neg (me_var 1)) ma_nil)))) mb_nil)
    (mb_cons (ms_set (i := 2) sc_law_fraction.nd (me_callH h_law_gcd (hr.mono (by decide)) (ma_cons (me_callB cs_abs rfl B.b_abs bb_abs (ma_cons (me_var 0) ma_nil)) (ma_cons (me_var 1) ma_nil))))
    (mb_one (ms_ret (me_tup (ma_cons (me_bin os_fdiv (me_var 0) (me_var 2)) (ma_cons (me_bin os_fdiv (me_var 1) (me_var 2)) ma_nil)))))))
end
end PL
/-! printed by gen.py: _law_gain is worth its evaluator -/
namespace PL
open PySem PySem.Spec PyProof.Rows L2
section
variable {P : Program} {w : World} {K : PySem.W.Frag} {mg : Str → Option Value} {base : Heap}
theorem has_law_gain (B : Blt mg) (d : DefOf K mg "_law_gain" s_law_gain ["script", "source", "style"])  (h_law_draw : Has P w K mg base "_law_draw" ["script", "source", "limit"] 1 m_law_draw) : Has P w K mg base "_law_gain" ["script", "source", "style"] 2 m_law_gain :=
  has_of (k := 1) (N := N_law_gain) d sc_law_gain fun cdv A outer s H E hr =>
  (mb_cons (ms_if (mt_cmp (os_eq hr.units) (me_var 2) me_int) (mb_one (ms_ret (me_bin os_sub (me_callH h_law_draw (hr.mono (by decide)) (ma_cons (me_var 0) (ma_cons (me_var 1) (ma_cons me_int ma_nil)))) me_int))) mb_nil)
    (mb_cons (ms_if (mt_cmp (os_eq hr.units) (me_var 2) me_int) (mb_one (ms_ret (me_bin os_sub (me_callH h_law_draw (hr.mono (by decide)) (ma_cons (me_var 0) (ma_cons (me_var 1) (ma_cons me_int ma_nil)))) me_int))) mb_nil)
    (mb_cons (ms_set (i := 3) sc_law_gain.nd (me_bin os_add (me_bin os_mul (me_callH h_law_draw (hr.mono (by decide)) (ma_cons (me_var 0) (ma_cons (me_var 1) (ma_cons (me_bin os_pow me_int me_int) ma_nil)))) (me_bin os_pow me_int me_int)) (me_callH h_law_draw (hr.mono (by decide)) (ma_cons (me_var 0) (ma_cons (me_var 1) (ma_cons (me_bin os_pow me_int me_int) ma_nil))))))
    (mb_cons (ms_if (mt_cmp (os_eq hr.units) (me_callH h_law_draw (hr.mono (by decide)) (ma_cons (me_var 0) (ma_cons (me_var 1) (ma_cons me_int ma_nil)))) me_int) (mb_one (ms_ret (me_un us_neg (me_var 3)))) mb_nil)
    (mb_one (ms_ret (me_var 3)))))))
end
end PL
/-! printed by gen.py: _law_lot is worth its evaluator -/
namespace PL
open PySem PySem.Spec PyProof.Rows L2
section
variable {P : Program} {w : World} {K : PySem.W.Frag} {mg : Str → Option Value} {base : Heap}
theorem has_law_lot (B : Blt mg) (d : DefOf K mg "_law_lot" s_law_lot ["script", "source", "count"])  (h_law_draw : Has P w K mg base "_law_draw" ["script", "source", "limit"] 1 m_law_draw) : Has P w K mg base "_law_lot" ["script", "source", "count"] 2 m_law_lot :=
  has_of (k := 1) (N := N_law_lot) d sc_law_lot fun cdv A outer s H E hr =>
  (mb_cons (ms_set (i := 3) sc_law_lot.nd (me_callH h_law_draw (hr.mono (by decide)) (ma_cons (me_var 0) (ma_cons (me_var 1) (ma_cons me_int ma_nil)))))
    (mb_cons (ms_set (i := 4) sc_law_lot.nd (me_loc ma_nil))
    (mb_cons (ms_for PassesOwn.never rfl (mi_range1 rfl B.b_range (me_var 2)) (mg_one (i := 5) sc_law_lot.nd)
    (mb_cons (ms_set (i := 6) sc_law_lot.nd (me_callH h_law_draw (hr.mono (by decide)) (ma_cons (me_var 0) (ma_cons (me_var 1) (ma_cons me_int ma_nil)))))
    (mb_cons (ms_if (PW.pt (mw_and (mt_cmp (os_eq hr.units) (me_var 3) me_int) (mw_and1 (mt_cmp (os_lt hr.units) (me_var 6) me_int)))) (mb_one (ms_set (i := 6) sc_law_lot.nd me_int)) mb_nil)
    (mb_one (ms_expr (me_bm mts_append PySem.F.plainAttrs_list PySem.F.slot_list_append PySem.F.type_list_append (me_var 4) (ma_cons (me_var 6) ma_nil)))))))
    (mb_cons (ms_if (PW.pt (mw_or (mt_cmp (os_eq hr.units) (me_var 3) me_int) (mw_or1 (mt_cmp (os_eq hr.units) (me_callB (cs_sum rfl) rfl B.b_sum bb_sum (ma_cons (me_var 4) ma_nil)) me_int)))) (mb_cons (ms_setCompG true (i := 4) (own := [("k", 5)]) rfl sc_law_lot.nd (mi_range1 rfl B.b_range (me_var 2)) (blkOk_by (own := [("k", 5)]) (N := N_law_lot) (sc := defScope s_law_lot) (by decide +kernel)) (fun _ _ _ _ _ => (mg_one (i := 5) sc_law_lot.nd)) (fun _ _ _ _ _ => mts_nil) (fun _ _ _ _ _ => me_int))
    (mb_one (ms_sub sts_set (me_var 4) (me_callH h_law_draw (hr.mono (by decide)) (ma_cons (me_var 0) (ma_cons (me_var 1) (ma_cons (me_var 2) ma_nil)))) me_int))) mb_nil)
    (mb_one (ms_ret (me_callTy cs_tuple rfl B.b_tuple bt_tuple (ma_cons (me_var 4) ma_nil))))))))
end
end PL
/-! printed by gen.py: _law_own_number is worth its evaluator -/
namespace PL
open PySem PySem.Spec PyProof.Rows L2
section
variable {P : Program} {w : World} {K : PySem.W.Frag} {mg : Str → Option Value} {base : Heap}
theorem has_law_own_number (B : Blt mg) (d : DefOf K mg "_law_own_number" s_law_own_number ["word"])   : Has P w K mg base "_law_own_number" ["word"] 1 m_law_own_number :=
  has_of (k := 0) (N := N_law_own_number) d sc_law_own_number fun cdv A outer s H E hr =>
  (mb_cons (ms_if (PW.pt (mw_or (mt_cmp (os_lt hr.units) (me_callB cs_len rfl B.b_len bb_len (ma_cons (me_var 0) ma_nil)) me_int) (mw_or (mt_cmp (os_gt hr.units) (me_callB cs_len rfl B.b_len bb_len (ma_cons (me_var 0) ma_nil)) me_int) (mw_or1 (mt_cmp (os_gt hr.units) (me_callB cs_len rfl B.b_len bb_len (ma_cons (me_compG false (own := [("sign", 1)]) rfl sc_law_own_number.nd (mi_val (me_var 0)) (blkOk_by (own := [("sign", 1)]) (N := N_law_own_number) (sc := defScope s_law_own_number) (by decide +kernel)) (fun _ _ _ _ _ => (mg_one (i := 1) sc_law_own_number.nd)) (fun _ _ _ _ _ => (mts_one (mt_cmp (os_notIn hr.units) (me_var 1) me_str))) (fun _ _ _ _ _ => (me_var 1))) ma_nil)) me_int))))) (mb_one (ms_ret me_non)) mb_nil)
    (mb_cons (ms_if (PW.pt (mw_and (mt_cmp (os_eq hr.units) (me_ix is_ix (me_var 0) me_int) me_str) (mw_and1 (mt_cmp (os_gt hr.units) (me_callB cs_len rfl B.b_len bb_len (ma_cons (me_var 0) ma_nil)) me_int)))) (mb_one (ms_ret me_non)) mb_nil)
    (mb_one (ms_ret (me_callTy cs_int rfl B.b_int bt_int (ma_cons (me_var 0) ma_nil))))))
end
end PL
/-! printed by gen.py: _law_own_integer is worth its evaluator -/
namespace PL
open PySem PySem.Spec PyProof.Rows L2
section
variable {P : Program} {w : World} {K : PySem.W.Frag} {mg : Str → Option Value} {base : Heap}
theorem has_law_own_integer (B : Blt mg) (d : DefOf K mg "_law_own_integer" s_law_own_integer ["word"])  (h_law_own_number : Has P w K mg base "_law_own_number" ["word"] 1 m_law_own_number) : Has P w K mg base "_law_own_integer" ["word"] 2 m_law_own_integer :=
  has_of (k := 1) (N := N_law_own_integer) d sc_law_own_integer fun cdv A outer s H E hr =>
  (mb_cons (ms_if (mt_cmp (os_eq hr.units) (me_sl ss_sl (me_var 0) mo_none (mo_some me_int)) me_str) (mb_cons (ms_set (i := 1) sc_law_own_integer.nd (me_callH h_law_own_number (hr.mono (by decide)) (ma_cons (me_sl ss_sl (me_var 0) (mo_some me_int) mo_none) ma_nil)))
    (mb_cons (ms_if (PW.pt (mw_or (mt_cmp os_is (me_var 1) me_non) (mw_or1 (mt_cmp (os_eq hr.units) (me_var 1) me_int)))) (mb_one (ms_ret me_non)) mb_nil)
    (mb_one (ms_ret (me_un us_neg (me_var 1)))))) mb_nil)
    (mb_one (ms_ret (me_callH h_law_own_number (hr.mono (by decide)) (ma_cons (me_var 0) ma_nil)))))
end
end PL
/-! printed by gen.py: _law_own_fraction is worth its evaluator -/
namespace PL
open PySem PySem.Spec PyProof.Rows L2
section
variable {P : Program} {w : World} {K : PySem.W.Frag} {mg : Str → Option Value} {base : Heap}
theorem has_law_own_fraction (B : Blt mg) (d : DefOf K mg "_law_own_fraction" s_law_own_fraction ["word"])  (h_law_gcd : Has P w K mg base "_law_gcd" ["a", "b"] 1 m_law_gcd) (h_law_own_number : Has P w K mg base "_law_own_number" ["word"] 1 m_law_own_number) (h_law_own_integer : Has P w K mg base "_law_own_integer" ["word"] 2 m_law_own_integer) : Has P w K mg base "_law_own_fraction" ["word"] 3 m_law_own_fraction :=
  has_of (k := 2) (N := N_law_own_fraction) d sc_law_own_fraction fun cdv A outer s H E hr =>
  (mb_cons (ms_set (i := 1) sc_law_own_fraction.nd (me_bm mts_split PySem.F.plainAttrs_str PySem.F.slot_str_split PySem.F.type_str_split (me_var 0) (ma_cons me_str ma_nil)))
    (mb_cons (ms_if (mt_cmp (os_ne hr.units) (me_callB cs_len rfl B.b_len bb_len (ma_cons (me_var 1) ma_nil)) me_int) (mb_one (ms_ret me_non)) mb_nil)
    (mb_cons (ms_set (i := 2) sc_law_own_fraction.nd (me_callH h_law_own_integer (hr.mono (by decide)) (ma_cons (me_ix is_ix (me_var 1) me_int) ma_nil)))
    (mb_cons (ms_set (i := 3) sc_law_own_fraction.nd (me_callH h_law_own_number (hr.mono (by decide)) (ma_cons (me_ix is_ix (me_var 1) me_int) ma_nil)))
    (mb_cons (ms_if (PW.pt (mw_or (mt_cmp os_is (me_var 2) me_non) (mw_or (mt_cmp os_is (me_var 3) me_non) (mw_or (mt_cmp (os_eq hr.units) (me_var 3) me_int) (mw_or1 (mt_cmp (os_ne hr.units) (me_callH h_law_gcd (hr.mono (by decide)) (ma_cons (me_callB cs_abs rfl B.b_abs bb_abs (ma_cons (me_var 2) ma_nil)) (ma_cons (me_var 3) ma_nil))) me_int)))))) (mb_one (ms_ret me_non)) mb_nil)
    (mb_one (ms_ret (me_tup (ma_cons (me_var 2) (ma_cons (me_var 3) ma_nil))))))))))
end
end PL
/-! printed by gen.py: _law_own_gain is worth its evaluator -/
namespace PL
open PySem PySem.Spec PyProof.Rows L2
section
variable {P : Program} {w : World} {K : PySem.W.Frag} {mg : Str → Option Value} {base : Heap}
theorem has_law_own_gain (B : Blt mg) (d : DefOf K mg "_law_own_gain" s_law_own_gain ["line"])  (h_law_is_name : Has P w K mg base "_law_is_name" ["word"] 1 m_law_is_name) (h_law_own_integer : Has P w K mg base "_law_own_integer" ["word"] 2 m_law_own_integer) : Has P w K mg base "_law_own_gain" ["line"] 3 m_law_own_gain :=
  has_of (k := 2) (N := N_law_own_gain) d sc_law_own_gain fun cdv A outer s H E hr =>
  (mb_cons (ms_set (i := 1) sc_law_own_gain.nd (me_bm mts_split PySem.F.plainAttrs_str PySem.F.slot_str_split PySem.F.type_str_split (me_var 0) (ma_cons me_str ma_nil)))
    (mb_cons (ms_if (PW.pt (mw_or (mt_cmp (os_ne hr.units) (me_callB cs_len rfl B.b_len bb_len (ma_cons (me_var 1) ma_nil)) me_int) (mw_or (mt_cmp (os_ne hr.units) (me_ix is_ix (me_var 1) me_int) me_str) (mw_or1 (mt_not (mt_val (me_callH h_law_is_name (hr.mono (by decide)) (ma_cons (me_ix is_ix (me_var 1) me_int) ma_nil)))))))) (mb_one (ms_ret me_non)) mb_nil)
    (mb_cons (ms_set (i := 2) sc_law_own_gain.nd (me_tup (ma_cons (me_callH h_law_own_integer (hr.mono (by decide)) (ma_cons (me_ix is_ix (me_var 1) me_int) ma_nil)) (ma_cons (me_callH h_law_own_integer (hr.mono (by decide)) (ma_cons (me_ix is_ix (me_var 1) me_int) ma_nil)) ma_nil))))
    (mb_cons (ms_if (PW.pt (mw_or (mt_cmp os_is (me_ix is_ix (me_var 2) me_int) me_non) (mw_or1 (mt_cmp os_is (me_ix is_ix (me_var 2) me_int) me_non)))) (mb_one (ms_ret me_non)) mb_nil)
    (mb_one (ms_ret (me_tup (ma_cons (me_ix is_ix (me_var 1) me_int) (ma_cons (me_var 2) ma_nil)))))))))
end
end PL
/-! printed by gen.py: _law_own_lot is worth its evaluator -/
namespace PL
open PySem PySem.Spec PyProof.Rows L2
section
variable {P : Program} {w : World} {K : PySem.W.Frag} {mg : Str → Option Value} {base : Heap}
theorem has_law_own_lot (B : Blt mg) (d : DefOf K mg "_law_own_lot" s_law_own_lot ["line"])  (h_law_own_number : Has P w K mg base "_law_own_number" ["word"] 1 m_law_own_number) : Has P w K mg base "_law_own_lot" ["line"] 2 m_law_own_lot :=
  has_of (k := 1) (N := N_law_own_lot) d sc_law_own_lot fun cdv A outer s H E hr =>
  (mb_cons (ms_set (i := 1) sc_law_own_lot.nd (me_bm mts_split PySem.F.plainAttrs_str PySem.F.slot_str_split PySem.F.type_str_split (me_var 0) (ma_cons me_str ma_nil)))
    (mb_cons (ms_set (i := 2) sc_law_own_lot.nd (me_callTy cs_tuple rfl B.b_tuple bt_tuple (ma_cons (me_compG false (own := [("word", 3)]) rfl sc_law_own_lot.nd (mi_val (me_sl ss_sl (me_var 1) (mo_some me_int) mo_none)) (blkOk_by (own := [("word", 3)]) (N := N_law_own_lot) (sc := defScope s_law_own_lot) (by decide +kernel)) (fun _ _ _ _ _ => (mg_one (i := 3) sc_law_own_lot.nd)) (fun _ _ _ _ _ => mts_nil) (fun _ _ _ _ _ => (me_callH h_law_own_number (hr.mono (by decide)) (ma_cons (me_var 3) ma_nil)))) ma_nil)))
    (mb_cons (ms_if (PW.pt (mw_or (mt_cmp (os_ne hr.units) (me_ix is_ix (me_var 1) me_int) me_str) (mw_or (mt_cmp (os_eq hr.units) (me_callB cs_len rfl B.b_len bb_len (ma_cons (me_var 2) ma_nil)) me_int) (mw_or (mt_cmp (os_in hr.units) me_non (me_var 2)) (mw_or1 (mt_cmp (os_eq hr.units) (me_callB (cs_max rfl hr.units) rfl B.b_max bb_max (ma_cons (me_var 2) ma_nil)) me_int)))))) (mb_one (ms_ret me_non)) mb_nil)
    (mb_one (ms_ret (me_var 2))))))
end
end PL
/-! printed by gen.py: _law_own_parts is worth its evaluator -/
namespace PL
open PySem PySem.Spec PyProof.Rows L2
section
variable {P : Program} {w : World} {K : PySem.W.Frag} {mg : Str → Option Value} {base : Heap}
theorem has_law_own_parts (B : Blt mg) (d : DefOf K mg "_law_own_parts" s_law_own_parts ["word", "line"])  (h_law_own_fraction : Has P w K mg base "_law_own_fraction" ["word"] 3 m_law_own_fraction) : Has P w K mg base "_law_own_parts" ["word", "line"] 4 m_law_own_parts :=
  has_of (k := 3) (N := N_law_own_parts) d sc_law_own_parts fun cdv A outer s H E hr =>
  (mb_cons (ms_set (i := 2) sc_law_own_parts.nd (me_bm mts_split PySem.F.plainAttrs_str PySem.F.slot_str_split PySem.F.type_str_split (me_var 1) (ma_cons me_str ma_nil)))
    (mb_cons (ms_set (i := 3) sc_law_own_parts.nd (me_callTy cs_tuple rfl B.b_tuple bt_tuple (ma_cons (me_compG false (own := [("one", 4)]) rfl sc_law_own_parts.nd (mi_val (me_sl ss_sl (me_var 2) (mo_some me_int) mo_none)) (blkOk_by (own := [("one", 4)]) (N := N_law_own_parts) (sc := defScope s_law_own_parts) (by decide +kernel)) (fun _ _ _ _ _ => (mg_one (i := 4) sc_law_own_parts.nd)) (fun _ _ _ _ _ => mts_nil) (fun _ _ _ _ _ => (me_callH h_law_own_fraction (hr.mono (by decide)) (ma_cons (me_var 4) ma_nil)))) ma_nil)))
    (mb_cons (ms_if (PW.pt (mw_or (mt_cmp (os_ne hr.units) (me_ix is_ix (me_var 2) me_int) (me_var 0)) (mw_or1 (mt_cmp (os_in hr.units) me_non (me_var 3))))) (mb_one (ms_ret me_non)) mb_nil)
    (mb_one (ms_ret (me_var 3))))))
end
end PL
/-! printed by gen.py: _law_bent is worth its evaluator -/
namespace PL
open PySem PySem.Spec PyProof.Rows L2
section
variable {P : Program} {w : World} {K : PySem.W.Frag} {mg : Str → Option Value} {base : Heap}
theorem has_law_bent (B : Blt mg) (d : DefOf K mg "_law_bent" s_law_bent ["script", "source", "line"])  (h_law_draw : Has P w K mg base "_law_draw" ["script", "source", "limit"] 1 m_law_draw) : Has P w K mg base "_law_bent" ["script", "source", "line"] 2 m_law_bent :=
  has_of (k := 1) (N := N_law_bent) d sc_law_bent fun cdv A outer s H E hr =>
  (mb_cons (ms_set (i := 3) sc_law_bent.nd (me_bm mts_split PySem.F.plainAttrs_str PySem.F.slot_str_split PySem.F.type_str_split (me_var 2) (ma_cons me_str ma_nil)))
    (mb_cons (ms_set (i := 4) sc_law_bent.nd (me_callH h_law_draw (hr.mono (by decide)) (ma_cons (me_var 0) (ma_cons (me_var 1) (ma_cons (me_callB cs_len rfl B.b_len bb_len (ma_cons (me_var 3) ma_nil)) ma_nil)))))
    (mb_cons (ms_set (i := 5) sc_law_bent.nd (me_lst (ma_cons me_str (ma_cons me_str (ma_cons me_str (ma_cons me_str (ma_cons me_str (ma_cons me_str (ma_cons me_str (ma_cons me_str (ma_cons me_str (ma_cons me_str (ma_cons me_str (ma_cons (me_bin os_mulS me_str me_int) (ma_cons me_str (ma_cons me_str ma_nil))))))))))))))))
    (mb_cons (ms_set (i := 6) sc_law_bent.nd (me_callH h_law_draw (hr.mono (by decide)) (ma_cons (me_var 0) (ma_cons (me_var 1) (ma_cons me_int ma_nil)))))
    (mb_cons (ms_set (i := 7) sc_law_bent.nd (me_ix is_ix (me_var 5) (me_callH h_law_draw (hr.mono (by decide)) (ma_cons (me_var 0) (ma_cons (me_var 1) (ma_cons me_int ma_nil))))))
    (mb_cons (ms_if (mt_cmp (os_eq hr.units) (me_var 6) me_int) (mb_one (ms_set (i := 3) sc_law_bent.nd (me_bin os_add (me_sl ss_sl (me_var 3) mo_none (mo_some (me_var 4))) (me_sl ss_sl (me_var 3) (mo_some (me_bin os_add (me_var 4) me_int)) mo_none)))) (mb_one (ms_if (mt_cmp (os_eq hr.units) (me_var 6) me_int) (mb_one (ms_set (i := 3) sc_law_bent.nd (me_bin os_add (me_bin os_add (me_sl ss_sl (me_var 3) mo_none (mo_some (me_var 4))) (me_lst (ma_cons (me_var 7) ma_nil))) (me_sl ss_sl (me_var 3) (mo_some (me_var 4)) mo_none)))) (mb_one (ms_if (mt_cmp (os_eq hr.units) (me_var 6) me_int) (mb_one (ms_set (i := 3) sc_law_bent.nd (me_bin os_add (me_bin os_add (me_sl ss_sl (me_var 3) mo_none (mo_some (me_var 4))) (me_lst (ma_cons (me_var 7) ma_nil))) (me_sl ss_sl (me_var 3) (mo_some (me_bin os_add (me_var 4) me_int)) mo_none)))) (mb_one (ms_set (i := 3) sc_law_bent.nd (me_bin os_add (me_bin os_add (me_sl ss_sl (me_var 3) mo_none (mo_some (me_var 4))) (me_lst (ma_cons (me_bin os_add (me_ix is_ix (me_var 3) (me_var 4)) (me_ix is_ix (me_lst (ma_cons me_str (ma_cons me_str (ma_cons me_str (ma_cons me_str (ma_cons me_str ma_nil)))))) (me_callH h_law_draw (hr.mono (by decide)) (ma_cons (me_var 0) (ma_cons (me_var 1) (ma_cons me_int ma_nil)))))) ma_nil))) (me_sl ss_sl (me_var 3) (mo_some (me_bin os_add (me_var 4) me_int)) mo_none)))))))))
    (mb_one (ms_ret (me_bm mts_join PySem.F.plainAttrs_str PySem.F.slot_str_join PySem.F.type_str_join me_str (ma_cons (me_var 3) ma_nil))))))))))
end
end PL
/-! printed by gen.py: _law_lines_fault is worth its evaluator -/
namespace PL
open PySem PySem.Spec PyProof.Rows L2
section
variable {P : Program} {w : World} {K : PySem.W.Frag} {mg : Str → Option Value} {base : Heap}
theorem has_law_lines_fault (B : Blt mg) (d : DefOf K mg "_law_lines_fault" s_law_lines_fault ["lines"])  (h_law_own_gain : Has P w K mg base "_law_own_gain" ["line"] 3 m_law_own_gain) : Has P w K mg base "_law_lines_fault" ["lines"] 4 m_law_lines_fault :=
  has_of (k := 3) (N := N_law_lines_fault) d sc_law_lines_fault fun cdv A outer s H E hr =>
  (mb_cons (ms_set (i := 1) sc_law_lines_fault.nd me_str)
    (mb_cons (ms_for PassesOwn.never rfl (mi_range1 rfl B.b_range (me_callB cs_len rfl B.b_len bb_len (ma_cons (me_var 0) ma_nil))) (mg_one (i := 2) sc_law_lines_fault.nd)
    (mb_cons (ms_set (i := 3) sc_law_lines_fault.nd (me_callH h_law_own_gain (hr.mono (by decide)) (ma_cons (me_ix is_ix (me_var 0) (me_var 2)) ma_nil)))
    (mb_cons (ms_if (PW.pt (mw_or (mt_cmp os_is (me_var 3) me_non) (mw_or1 (mt_not (mt_cmp (os_lt hr.units) (me_var 1) (me_ix is_ix (me_var 3) me_int)))))) (mb_one (ms_ret (me_bin os_add (me_var 2) me_int))) mb_nil)
    (mb_one (ms_set (i := 1) sc_law_lines_fault.nd (me_ix is_ix (me_var 3) me_int))))))
    (mb_one (ms_ret me_int))))
end
end PL
/-! printed by gen.py: _law_read_or is worth its evaluator -/
namespace PL
open PySem PySem.Spec PyProof.Rows L2
section
variable {P : Program} {w : World} {K : PySem.W.Frag} {mg : Str → Option Value} {base : Heap}
theorem has_law_read_or (B : Blt mg) (d : DefOf K mg "_law_read_or" s_law_read_or ["text"])  {V : Fv} {C_BadText fI_BadText : Addr} (x_BadText : PLX.XTxt P K mg "BadText" C_BadText fI_BadText "line" "BadText.__init__" PLX.xStr PLX.PInt) (te_BadText : PySem.W.exmOne K (.ref C_BadText) (.ref C_BadText) = some true) (is_BadText : IsC K C_BadText) {C_BadGame : Addr} (g_BadGame : mg "BadGame" = some (.ref C_BadGame)) (k_BadText_BadGame : PySem.W.kitOne K (.ref C_BadText) (.ref C_BadGame) = some false) (h_read_gains : HasX P w K mg base "read_gains" ["text"] 6 (m_read_gains V)) : Has P w K mg base "_law_read_or" ["text"] 7 (m_law_read_or V) :=
  has_of (k := 6) (N := N_law_read_or) d sc_law_read_or fun cdv A outer s H E hr =>
  (mb_one (ms_try (i := 1) rfl rfl sc_law_read_or.nd rfl rfl ⟨rfl, by decide, Or.inl x_BadText.gC⟩ x_BadText.gC te_BadText (fun W pn xe tk => (mb_one (ms_ret (me_callX tk h_read_gains (hr.mono (by decide)) (ma_cons (me_var 0) ma_nil)))))
    (fun a oe d pn hz hf => (mb_one (ms_ret (me_lst (ma_cons (me_xf ⟨x_BadText.ga, x_BadText.gg, x_BadText.exC, x_BadText.hdC⟩ x_BadText.noN hz hf (me_var 1)) (ma_cons (me_isE (u := .ref C_BadGame) (v := .ref C_BadGame) is_BadText hz hf B.b_isinstance bb_isinstance k_BadText_BadGame (fun _ r => r) (fun W => me_gval (v := .ref C_BadGame) rfl g_BadGame rfl) (me_var 1)) ma_nil))))))))
end
end PL
/-! printed by gen.py: _law_pairs_dict is worth its evaluator -/
namespace PL
open PySem PySem.Spec PyProof.Rows L2
section
variable {P : Program} {w : World} {K : PySem.W.Frag} {mg : Str → Option Value} {base : Heap}
theorem has_law_pairs_dict (B : Blt mg) (d : DefOf K mg "_law_pairs_dict" s_law_pairs_dict ["lines"])  (h_law_own_gain : Has P w K mg base "_law_own_gain" ["line"] 3 m_law_own_gain) : Has P w K mg base "_law_pairs_dict" ["lines"] 4 m_law_pairs_dict :=
  has_of (k := 3) (N := N_law_pairs_dict) d sc_law_pairs_dict fun cdv A outer s H E hr =>
  (mb_cons (ms_set (i := 1) sc_law_pairs_dict.nd me_dict0)
    (mb_cons (ms_for PassesOwn.never rfl (mi_val (me_var 0)) (mg_one (i := 2) sc_law_pairs_dict.nd)
    (mb_cons (ms_set (i := 3) sc_law_pairs_dict.nd (me_callH h_law_own_gain (hr.mono (by decide)) (ma_cons (me_var 2) ma_nil)))
    (mb_one (ms_sub (sts_setD hr.units) (me_var 1) (me_ix (is_ixD hr.units) (me_var 3) me_int) (me_ix (is_ixD hr.units) (me_var 3) me_int)))))
    (mb_one (ms_ret (me_var 1)))))
end
end PL
/-! printed by gen.py: law is worth its evaluator -/
namespace PL
open PySem PySem.Spec PyProof.Rows L2
section
variable {P : Program} {w : World} {K : PySem.W.Frag} {mg : Str → Option Value} {base : Heap}
theorem has_law (B : Blt mg) (d : DefOf K mg "law" s_law ["script"])  {V : Fv} (h_integer_in : Has P w K mg base "integer_in" ["word"] 2 m_integer_in) (h_fraction_in : Has P w K mg base "fraction_in" ["word"] 3 m_fraction_in) (h_format_fraction : Has P w K mg base "format_fraction" ["part"] 1 m_format_fraction) (h_format_gains : Has P w K mg base "format_gains" ["gains"] 1 m_format_gains) (h_read_gain : Has P w K mg base "read_gain" ["line"] 5 (m_read_gain V)) (h_read_gains : HasX P w K mg base "read_gains" ["text"] 6 (m_read_gains V)) (h_format_lot : Has P w K mg base "format_lot" ["lot"] 1 m_format_lot) (h_read_lot : Has P w K mg base "read_lot" ["line"] 5 (m_read_lot V)) (h_format_parts : Has P w K mg base "format_parts" ["word", "parts"] 2 m_format_parts) (h_read_parts : Has P w K mg base "read_parts" ["word", "line"] 5 (m_read_parts V)) (h_law_source : Has P w K mg base "_law_source" ["script"] 1 m_law_source) (h_law_draw : Has P w K mg base "_law_draw" ["script", "source", "limit"] 1 m_law_draw) (h_law_name : Has P w K mg base "_law_name" ["script", "source", "used"] 2 m_law_name) (h_law_told : Has P w K mg base "_law_told" ["answer", "due"] 61 m_law_told) (h_law_fraction : Has P w K mg base "_law_fraction" ["top", "bottom"] 2 m_law_fraction) (h_law_gain : Has P w K mg base "_law_gain" ["script", "source", "style"] 2 m_law_gain) (h_law_lot : Has P w K mg base "_law_lot" ["script", "source", "count"] 2 m_law_lot) (h_law_own_integer : Has P w K mg base "_law_own_integer" ["word"] 2 m_law_own_integer) (h_law_own_fraction : Has P w K mg base "_law_own_fraction" ["word"] 3 m_law_own_fraction) (h_law_own_gain : Has P w K mg base "_law_own_gain" ["line"] 3 m_law_own_gain) (h_law_own_lot : Has P w K mg base "_law_own_lot" ["line"] 2 m_law_own_lot) (h_law_own_parts : Has P w K mg base "_law_own_parts" ["word", "line"] 4 m_law_own_parts) (h_law_bent : Has P w K mg base "_law_bent" ["script", "source", "line"] 2 m_law_bent) (h_law_lines_fault : Has P w K mg base "_law_lines_fault" ["lines"] 4 m_law_lines_fault) (h_law_read_or : Has P w K mg base "_law_read_or" ["text"] 7 (m_law_read_or V)) (h_law_pairs_dict : Has P w K mg base "_law_pairs_dict" ["lines"] 4 m_law_pairs_dict) : Has P w K mg base "law" ["script"] 62 (m_law V) :=
  has_of (k := 61) (N := N_law) d sc_law fun cdv A outer s H E hr =>
  (mb_cons (ms_set (i := 1) sc_law.nd (me_callH h_law_source (hr.mono (by decide)) (ma_cons (me_var 0) ma_nil)))
    (mb_cons (ms_set (i := 2) sc_law.nd me_dict0)
    (mb_cons (ms_set (i := 3) sc_law.nd (me_loc ma_nil))
    (mb_cons (ms_for PassesOwn.never rfl (mi_range1 rfl B.b_range (me_callH h_law_draw (hr.mono (by decide)) (ma_cons (me_var 0) (ma_cons (me_var 1) (ma_cons me_int ma_nil))))) (mg_one (i := 4) sc_law.nd)
    (mb_cons (ms_set (i := 11) sc_law.nd (me_callH h_law_name (hr.mono (by decide)) (ma_cons (me_var 0) (ma_cons (me_var 1) (ma_cons (me_var 3) ma_nil)))))
    (mb_cons (ms_expr (me_bm mts_append PySem.F.plainAttrs_list PySem.F.slot_list_append PySem.F.type_list_append (me_var 3) (ma_cons (me_var 11) ma_nil)))
    (mb_one (ms_sub (sts_setD hr.units) (me_var 2) (me_var 11) (me_tup (ma_cons (me_callH h_law_gain (hr.mono (by decide)) (ma_cons (me_var 0) (ma_cons (me_var 1) (ma_cons (me_ix (is_ixD hr.units) (me_lst (ma_cons me_int (ma_cons me_int ma_nil))) (me_callH h_law_draw (hr.mono (by decide)) (ma_cons (me_var 0) (ma_cons (me_var 1) (ma_cons me_int ma_nil))))) ma_nil)))) (ma_cons (me_callH h_law_gain (hr.mono (by decide)) (ma_cons (me_var 0) (ma_cons (me_var 1) (ma_cons me_int ma_nil)))) ma_nil))))))))
    (mb_cons (ms_setCompG false (i := 5) (own := [("name", 11)]) rfl sc_law.nd (mi_val (me_callB (cs_sortedD rfl hr.units) rfl B.b_sorted bb_sorted (ma_cons (me_var 2) ma_nil))) (blkOk_by (own := [("name", 11)]) (N := N_law) (sc := defScope s_law) (by decide +kernel)) (fun _ _ _ _ _ => (mg_one (i := 11) sc_law.nd)) (fun _ _ _ _ _ => mts_nil) (fun _ _ _ _ _ => (me_bin os_add (me_bin os_add (me_bin os_add (me_bin os_add (me_bin os_add me_str (me_var 11)) me_str) (me_callTy cs_str rfl B.b_str bt_str (ma_cons (me_ix (is_ixD hr.units) (me_ix (is_ixD hr.units) (me_var 2) (me_var 11)) me_int) ma_nil))) me_str) (me_callTy cs_str rfl B.b_str bt_str (ma_cons (me_ix (is_ixD hr.units) (me_ix (is_ixD hr.units) (me_var 2) (me_var 11)) me_int) ma_nil)))))
    (mb_cons (ms_set (i := 6) sc_law.nd (me_bm mts_join PySem.F.plainAttrs_str PySem.F.slot_str_join PySem.F.type_str_join me_str (ma_cons (me_var 5) ma_nil)))
    (mb_cons (ms_if (PW.pt (mw_or (mt_not (mt_val (me_callH h_law_told (hr.mono (by decide)) (ma_cons (me_callH h_format_gains (hr.mono (by decide)) (ma_cons (me_var 2) ma_nil)) (ma_cons (me_var 6) ma_nil))))) (mw_or1 (mt_not (mt_val (me_callH h_law_told (hr.mono (by decide)) (ma_cons (me_callX0 h_read_gains (hr.mono (by decide)) (ma_cons (me_var 6) ma_nil)) (ma_cons (me_var 2) ma_nil)))))))) (mb_one (ms_ret me_bl)) mb_nil)
    (mb_cons (ms_set (i := 7) sc_law.nd (me_callH h_law_lot (hr.mono (by decide)) (ma_cons (me_var 0) (ma_cons (me_var 1) (ma_cons (me_bin os_add me_int (me_callH h_law_draw (hr.mono (by decide)) (ma_cons (me_var 0) (ma_cons (me_var 1) (ma_cons me_int ma_nil))))) ma_nil)))))
    (mb_cons (ms_set (i := 8) sc_law.nd (me_callTy cs_tuple rfl B.b_tuple bt_tuple (ma_cons (me_compG false (own := [("k", 4)]) rfl sc_law.nd (mi_range1 rfl B.b_range me_int) (blkOk_by (own := [("k", 4)]) (N := N_law) (sc := defScope s_law) (by decide +kernel)) (fun _ _ _ _ _ => (mg_one (i := 4) sc_law.nd)) (fun _ _ _ _ _ => mts_nil) (fun _ _ _ _ _ => (me_callH h_law_fraction (hr.mono (by decide)) (ma_cons (me_callH h_law_gain (hr.mono (by decide)) (ma_cons (me_var 0) (ma_cons (me_var 1) (ma_cons me_int ma_nil)))) (ma_cons (me_bin os_add me_int (me_callH h_law_draw (hr.mono (by decide)) (ma_cons (me_var 0) (ma_cons (me_var 1) (ma_cons me_int ma_nil))))) ma_nil))))) ma_nil)))
    (mb_cons (ms_set (i := 8) sc_law.nd (me_sl ss_sl (me_var 8) mo_none (mo_some (me_callH h_law_draw (hr.mono (by decide)) (ma_cons (me_var 0) (ma_cons (me_var 1) (ma_cons me_int ma_nil)))))))
    (mb_cons (ms_for PassesOwn.never rfl (mi_val (me_var 8)) (mg_one (i := 9) sc_law.nd)
    (mb_cons (ms_set (i := 12) sc_law.nd (me_bin os_add (me_bin os_add (me_callTy cs_str rfl B.b_str bt_str (ma_cons (me_ix (is_ixD hr.units) (me_var 9) me_int) ma_nil)) me_str) (me_callTy cs_str rfl B.b_str bt_str (ma_cons (me_ix (is_ixD hr.units) (me_var 9) me_int) ma_nil))))
    (mb_one (ms_if (PW.pt (mw_or (mt_not (mt_val (me_callH h_law_told (hr.mono (by decide)) (ma_cons (me_callH h_format_fraction (hr.mono (by decide)) (ma_cons (me_var 9) ma_nil)) (ma_cons (me_var 12) ma_nil))))) (mw_or1 (mt_not (mt_val (me_callH h_law_told (hr.mono (by decide)) (ma_cons (me_callH h_fraction_in (hr.mono (by decide)) (ma_cons (me_var 12) ma_nil)) (ma_cons (me_var 9) ma_nil)))))))) (mb_one (ms_ret me_bl)) mb_nil))))
    (mb_cons (ms_set (i := 10) sc_law.nd (me_loc (ma_cons (me_bm mts_join PySem.F.plainAttrs_str PySem.F.slot_str_join PySem.F.type_str_join me_str (ma_cons (me_bin os_add (me_lst (ma_cons me_str ma_nil)) (me_compG false (own := [("weight", 19)]) rfl sc_law.nd (mi_val (me_var 7)) (blkOk_by (own := [("weight", 19)]) (N := N_law) (sc := defScope s_law) (by decide +kernel)) (fun _ _ _ _ _ => (mg_one (i := 19) sc_law.nd)) (fun _ _ _ _ _ => mts_nil) (fun _ _ _ _ _ => (me_callTy cs_str rfl B.b_str bt_str (ma_cons (me_var 19) ma_nil))))) ma_nil)) ma_nil)))
    (mb_cons (ms_expr (me_bm mts_append PySem.F.plainAttrs_list PySem.F.slot_list_append PySem.F.type_list_append (me_var 10) (ma_cons (me_bm mts_join PySem.F.plainAttrs_str PySem.F.slot_str_join PySem.F.type_str_join me_str (ma_cons (me_bin os_add (me_lst (ma_cons me_str ma_nil)) (me_compG false (own := [("part", 9)]) rfl sc_law.nd (mi_val (me_var 8)) (blkOk_by (own := [("part", 9)]) (N := N_law) (sc := defScope s_law) (by decide +kernel)) (fun _ _ _ _ _ => (mg_one (i := 9) sc_law.nd)) (fun _ _ _ _ _ => mts_nil) (fun _ _ _ _ _ => (me_bin os_add (me_bin os_add (me_callTy cs_str rfl B.b_str bt_str (ma_cons (me_ix (is_ixD hr.units) (me_var 9) me_int) ma_nil)) me_str) (me_callTy cs_str rfl B.b_str bt_str (ma_cons (me_ix (is_ixD hr.units) (me_var 9) me_int) ma_nil)))))) ma_nil)) ma_nil)))
    (mb_cons (ms_if (PW.pt (mw_or (mt_not (mt_val (me_callH h_law_told (hr.mono (by decide)) (ma_cons (me_callH h_format_lot (hr.mono (by decide)) (ma_cons (me_var 7) ma_nil)) (ma_cons (me_ix (is_ixD hr.units) (me_var 10) me_int) ma_nil))))) (mw_or1 (mt_not (mt_val (me_callH h_law_told (hr.mono (by decide)) (ma_cons (me_callH h_format_parts (hr.mono (by decide)) (ma_cons me_str (ma_cons (me_var 8) ma_nil))) (ma_cons (me_ix (is_ixD hr.units) (me_var 10) me_int) ma_nil)))))))) (mb_one (ms_ret me_bl)) mb_nil)
    (mb_cons (ms_if (PW.pt (mw_or (mt_not (mt_val (me_callH h_law_told (hr.mono (by decide)) (ma_cons (me_callH h_read_lot (hr.mono (by decide)) (ma_cons (me_ix (is_ixD hr.units) (me_var 10) me_int) ma_nil)) (ma_cons (me_var 7) ma_nil))))) (mw_or1 (mt_not (mt_val (me_callH h_law_told (hr.mono (by decide)) (ma_cons (me_callH h_read_parts (hr.mono (by decide)) (ma_cons me_str (ma_cons (me_ix (is_ixD hr.units) (me_var 10) me_int) ma_nil))) (ma_cons (me_var 8) ma_nil)))))))) (mb_one (ms_ret me_bl)) mb_nil)
    (mb_cons (ms_for PassesOwn.never rfl (mi_range1 rfl B.b_range me_int) (mg_one (i := 4) sc_law.nd)
    (mb_one (ms_for PassesOwn.never rfl (mi_val (me_bin os_add (me_var 10) (me_lst (ma_cons me_str ma_nil)))) (mg_one (i := 13) sc_law.nd)
    (mb_cons (ms_set (i := 18) sc_law.nd (me_callH h_law_bent (hr.mono (by decide)) (ma_cons (me_var 0) (ma_cons (me_var 1) (ma_cons (me_var 13) ma_nil)))))
    (mb_cons (ms_if (PW.pt (mw_or (mt_not (mt_val (me_callH h_law_told (hr.mono (by decide)) (ma_cons (me_callH h_read_lot (hr.mono (by decide)) (ma_cons (me_var 18) ma_nil)) (ma_cons (me_callH h_law_own_lot (hr.mono (by decide)) (ma_cons (me_var 18) ma_nil)) ma_nil))))) (mw_or1 (mt_not (mt_val (me_callH h_law_told (hr.mono (by decide)) (ma_cons (me_callH h_read_gain (hr.mono (by decide)) (ma_cons (me_var 18) ma_nil)) (ma_cons (me_callH h_law_own_gain (hr.mono (by decide)) (ma_cons (me_var 18) ma_nil)) ma_nil)))))))) (mb_one (ms_ret me_bl)) mb_nil)
    (mb_cons (ms_if (mt_not (mt_val (me_callH h_law_told (hr.mono (by decide)) (ma_cons (me_callH h_read_parts (hr.mono (by decide)) (ma_cons me_str (ma_cons (me_var 18) ma_nil))) (ma_cons (me_callH h_law_own_parts (hr.mono (by decide)) (ma_cons me_str (ma_cons (me_var 18) ma_nil))) ma_nil))))) (mb_one (ms_ret me_bl)) mb_nil)
    (mb_one (ms_for PassesOwn.never rfl (mi_val (me_bm mts_split PySem.F.plainAttrs_str PySem.F.slot_str_split PySem.F.type_str_split (me_var 18) (ma_cons me_str ma_nil))) (mg_one (i := 12) sc_law.nd)
    (mb_cons (ms_if (mt_not (mt_val (me_callH h_law_told (hr.mono (by decide)) (ma_cons (me_callH h_integer_in (hr.mono (by decide)) (ma_cons (me_var 12) ma_nil)) (ma_cons (me_callH h_law_own_integer (hr.mono (by decide)) (ma_cons (me_var 12) ma_nil)) ma_nil))))) (mb_one (ms_ret me_bl)) mb_nil)
    (mb_one (ms_if (mt_not (mt_val (me_callH h_law_told (hr.mono (by decide)) (ma_cons (me_callH h_fraction_in (hr.mono (by decide)) (ma_cons (me_var 12) ma_nil)) (ma_cons (me_callH h_law_own_fraction (hr.mono (by decide)) (ma_cons (me_var 12) ma_nil)) ma_nil))))) (mb_one (ms_ret me_bl)) mb_nil)))))))))))
    (mb_cons (ms_if (mt_cmp (os_gt hr.units) (me_callB cs_len rfl B.b_len bb_len (ma_cons (me_var 5) ma_nil)) me_int) (mb_cons (ms_set (i := 14) sc_law.nd (me_callH h_law_draw (hr.mono (by decide)) (ma_cons (me_var 0) (ma_cons (me_var 1) (ma_cons (me_callB cs_len rfl B.b_len bb_len (ma_cons (me_var 5) ma_nil)) ma_nil)))))
    (mb_cons (ms_set (i := 15) sc_law.nd (me_bin os_add (me_bin os_add (me_sl ss_sl (me_var 5) mo_none (mo_some (me_var 14))) (me_lst (ma_cons (me_callH h_law_bent (hr.mono (by decide)) (ma_cons (me_var 0) (ma_cons (me_var 1) (ma_cons (me_ix (is_ixD hr.units) (me_var 5) (me_var 14)) ma_nil)))) ma_nil))) (me_sl ss_sl (me_var 5) (mo_some (me_bin os_add (me_var 14) me_int)) mo_none)))
    (mb_cons (ms_if (mt_cmp (os_eq hr.units) (me_callH h_law_draw (hr.mono (by decide)) (ma_cons (me_var 0) (ma_cons (me_var 1) (ma_cons me_int ma_nil)))) me_int) (mb_one (ms_set (i := 15) sc_law.nd (me_bin os_add (me_sl ss_sl (me_var 5) (mo_some (me_var 14)) mo_none) (me_sl ss_sl (me_var 5) mo_none (mo_some (me_var 14)))))) mb_nil)
    (mb_cons (ms_set (i := 16) sc_law.nd (me_callH h_law_lines_fault (hr.mono (by decide)) (ma_cons (me_var 15) ma_nil)))
    (mb_cons (ms_set (i := 17) sc_law.nd (me_callH h_law_read_or (hr.mono (by decide)) (ma_cons (me_bm mts_join PySem.F.plainAttrs_str PySem.F.slot_str_join PySem.F.type_str_join me_str (ma_cons (me_var 15) ma_nil)) ma_nil)))
    (mb_cons (ms_if (mt_cmp (os_eq hr.units) (me_var 15) (me_lst (ma_cons me_str ma_nil))) (mb_one (ms_ret (me_callH h_law_told (hr.mono (by decide)) (ma_cons (me_var 17) (ma_cons me_dict0 ma_nil))))) mb_nil)
    (mb_cons (ms_if (mt_cmp (os_gt hr.units) (me_var 16) me_int) (mb_one (ms_ret (me_callH h_law_told (hr.mono (by decide)) (ma_cons (me_var 17) (ma_cons (me_lst (ma_cons (me_var 16) (ma_cons me_bl ma_nil))) ma_nil))))) mb_nil)
    (mb_one (ms_ret (me_callH h_law_told (hr.mono (by decide)) (ma_cons (me_var 17) (ma_cons (me_callH h_law_pairs_dict (hr.mono (by decide)) (ma_cons (me_var 15) ma_nil)) ma_nil)))))))))))) mb_nil)
    (mb_one (ms_ret me_bl)))))))))))))))))))
end
end PL
/-! printed by genend.py: the end -/
namespace PL
open PySem PySem.Spec PyProof.Rows L2
abbrev rwL : PySem.W.OpenLaw := PySem.Challenge.rw_sequencesandadvice_k84_texts_of_gains_an
theorem end_mk {w : World} {K : PySem.W.Frag} {h : Heap} {mg : Str → Option Value} {fa : Addr} (X : K.In h) (G : h.Ns mainGlobals mg) (hfa : mg "law" = some (.ref fa))
    {tk_DIGITS : Tok}
    {tk_LETTERS : Tok}
    {tk_LONGEST_NAME : Tok}
    {tk_LONGEST_NUMBER : Tok}
    {C_BadGame : Addr}
    {C_BadText : Addr}
    {f_is_name : Addr} {od_is_name an_is_name : Option Addr} {sl_is_name : Array (Option Value)} {oc_is_name kV_is_name dc_is_name pm_is_name cd_is_name ct_is_name : Value}
    {f_number_in : Addr} {od_number_in an_number_in : Option Addr} {sl_number_in : Array (Option Value)} {oc_number_in kV_number_in dc_number_in pm_number_in cd_number_in ct_number_in : Value}
    {f_integer_in : Addr} {od_integer_in an_integer_in : Option Addr} {sl_integer_in : Array (Option Value)} {oc_integer_in kV_integer_in dc_integer_in pm_integer_in cd_integer_in ct_integer_in : Value}
    {f_fraction_in : Addr} {od_fraction_in an_fraction_in : Option Addr} {sl_fraction_in : Array (Option Value)} {oc_fraction_in kV_fraction_in dc_fraction_in pm_fraction_in cd_fraction_in ct_fraction_in : Value}
    {f_format_fraction : Addr} {od_format_fraction an_format_fraction : Option Addr} {sl_format_fraction : Array (Option Value)} {oc_format_fraction kV_format_fraction dc_format_fraction pm_format_fraction cd_format_fraction ct_format_fraction : Value}
    {f_read_words : Addr} {od_read_words an_read_words : Option Addr} {sl_read_words : Array (Option Value)} {oc_read_words kV_read_words dc_read_words pm_read_words cd_read_words ct_read_words : Value}
    {f_format_gains : Addr} {od_format_gains an_format_gains : Option Addr} {sl_format_gains : Array (Option Value)} {oc_format_gains kV_format_gains dc_format_gains pm_format_gains cd_format_gains ct_format_gains : Value}
    {f_read_gain : Addr} {od_read_gain an_read_gain : Option Addr} {sl_read_gain : Array (Option Value)} {oc_read_gain kV_read_gain dc_read_gain pm_read_gain cd_read_gain ct_read_gain : Value}
    {f_read_gains : Addr} {od_read_gains an_read_gains : Option Addr} {sl_read_gains : Array (Option Value)} {oc_read_gains kV_read_gains dc_read_gains pm_read_gains cd_read_gains ct_read_gains : Value}
    {f_format_lot : Addr} {od_format_lot an_format_lot : Option Addr} {sl_format_lot : Array (Option Value)} {oc_format_lot kV_format_lot dc_format_lot pm_format_lot cd_format_lot ct_format_lot : Value}
    {f_read_lot : Addr} {od_read_lot an_read_lot : Option Addr} {sl_read_lot : Array (Option Value)} {oc_read_lot kV_read_lot dc_read_lot pm_read_lot cd_read_lot ct_read_lot : Value}
    {f_format_parts : Addr} {od_format_parts an_format_parts : Option Addr} {sl_format_parts : Array (Option Value)} {oc_format_parts kV_format_parts dc_format_parts pm_format_parts cd_format_parts ct_format_parts : Value}
    {f_read_parts : Addr} {od_read_parts an_read_parts : Option Addr} {sl_read_parts : Array (Option Value)} {oc_read_parts kV_read_parts dc_read_parts pm_read_parts cd_read_parts ct_read_parts : Value}
    {f_law_source : Addr} {od_law_source an_law_source : Option Addr} {sl_law_source : Array (Option Value)} {oc_law_source kV_law_source dc_law_source pm_law_source cd_law_source ct_law_source : Value}
    {f_law_draw : Addr} {od_law_draw an_law_draw : Option Addr} {sl_law_draw : Array (Option Value)} {oc_law_draw kV_law_draw dc_law_draw pm_law_draw cd_law_draw ct_law_draw : Value}
    {f_law_name : Addr} {od_law_name an_law_name : Option Addr} {sl_law_name : Array (Option Value)} {oc_law_name kV_law_name dc_law_name pm_law_name cd_law_name ct_law_name : Value}
    {f_law_gcd : Addr} {od_law_gcd an_law_gcd : Option Addr} {sl_law_gcd : Array (Option Value)} {oc_law_gcd kV_law_gcd dc_law_gcd pm_law_gcd cd_law_gcd ct_law_gcd : Value}
    {f_law_is_name : Addr} {od_law_is_name an_law_is_name : Option Addr} {sl_law_is_name : Array (Option Value)} {oc_law_is_name kV_law_is_name dc_law_is_name pm_law_is_name cd_law_is_name ct_law_is_name : Value}
    {f_law_told : Addr} {od_law_told an_law_told : Option Addr} {sl_law_told : Array (Option Value)} {oc_law_told kV_law_told dc_law_told pm_law_told cd_law_told ct_law_told : Value}
    {f_law_fraction : Addr} {od_law_fraction an_law_fraction : Option Addr} {sl_law_fraction : Array (Option Value)} {oc_law_fraction kV_law_fraction dc_law_fraction pm_law_fraction cd_law_fraction ct_law_fraction : Value}
    {f_law_gain : Addr} {od_law_gain an_law_gain : Option Addr} {sl_law_gain : Array (Option Value)} {oc_law_gain kV_law_gain dc_law_gain pm_law_gain cd_law_gain ct_law_gain : Value}
    {f_law_lot : Addr} {od_law_lot an_law_lot : Option Addr} {sl_law_lot : Array (Option Value)} {oc_law_lot kV_law_lot dc_law_lot pm_law_lot cd_law_lot ct_law_lot : Value}
    {f_law_own_number : Addr} {od_law_own_number an_law_own_number : Option Addr} {sl_law_own_number : Array (Option Value)} {oc_law_own_number kV_law_own_number dc_law_own_number pm_law_own_number cd_law_own_number ct_law_own_number : Value}
    {f_law_own_integer : Addr} {od_law_own_integer an_law_own_integer : Option Addr} {sl_law_own_integer : Array (Option Value)} {oc_law_own_integer kV_law_own_integer dc_law_own_integer pm_law_own_integer cd_law_own_integer ct_law_own_integer : Value}
    {f_law_own_fraction : Addr} {od_law_own_fraction an_law_own_fraction : Option Addr} {sl_law_own_fraction : Array (Option Value)} {oc_law_own_fraction kV_law_own_fraction dc_law_own_fraction pm_law_own_fraction cd_law_own_fraction ct_law_own_fraction : Value}
    {f_law_own_gain : Addr} {od_law_own_gain an_law_own_gain : Option Addr} {sl_law_own_gain : Array (Option Value)} {oc_law_own_gain kV_law_own_gain dc_law_own_gain pm_law_own_gain cd_law_own_gain ct_law_own_gain : Value}
    {f_law_own_lot : Addr} {od_law_own_lot an_law_own_lot : Option Addr} {sl_law_own_lot : Array (Option Value)} {oc_law_own_lot kV_law_own_lot dc_law_own_lot pm_law_own_lot cd_law_own_lot ct_law_own_lot : Value}
    {f_law_own_parts : Addr} {od_law_own_parts an_law_own_parts : Option Addr} {sl_law_own_parts : Array (Option Value)} {oc_law_own_parts kV_law_own_parts dc_law_own_parts pm_law_own_parts cd_law_own_parts ct_law_own_parts : Value}
    {f_law_bent : Addr} {od_law_bent an_law_bent : Option Addr} {sl_law_bent : Array (Option Value)} {oc_law_bent kV_law_bent dc_law_bent pm_law_bent cd_law_bent ct_law_bent : Value}
    {f_law_lines_fault : Addr} {od_law_lines_fault an_law_lines_fault : Option Addr} {sl_law_lines_fault : Array (Option Value)} {oc_law_lines_fault kV_law_lines_fault dc_law_lines_fault pm_law_lines_fault cd_law_lines_fault ct_law_lines_fault : Value}
    {f_law_read_or : Addr} {od_law_read_or an_law_read_or : Option Addr} {sl_law_read_or : Array (Option Value)} {oc_law_read_or kV_law_read_or dc_law_read_or pm_law_read_or cd_law_read_or ct_law_read_or : Value}
    {f_law_pairs_dict : Addr} {od_law_pairs_dict an_law_pairs_dict : Option Addr} {sl_law_pairs_dict : Array (Option Value)} {oc_law_pairs_dict kV_law_pairs_dict dc_law_pairs_dict pm_law_pairs_dict cd_law_pairs_dict ct_law_pairs_dict : Value}
    {f_law : Addr} {od_law an_law : Option Addr} {sl_law : Array (Option Value)} {oc_law kV_law dc_law pm_law cd_law ct_law : Value}
    {fI_BadText : Addr} {nm_BadText q_BadText : Str} {N_BadText : Addr} {bs_BadText bm_BadText sub_BadText : List Value} {sn_BadText : List Str} {ab_BadText : Bool} {col_BadText : Option Bool} {dd_BadText : Option Addr} {k0_BadText k1_BadText k2_BadText k3_BadText k5_BadText : Option Value}
    {xoc_BadText : Value} {xod_BadText : Option Addr} {xdoc_BadText xpm_BadText : Value} {xan_BadText : Option Addr} {xcda_BadText xcc_BadText : Addr} {xct_BadText : Value} {xsl_BadText : Array (Option Value)} {xccl_BadText : Value} {xcdd_BadText : Option Addr} {xvs_BadText : Array Value} {xccs_BadText : Array (Option Value)} {xcl_BadText : Value} {xcld_BadText : Option Addr} {xcsl_BadText : Array (Option Value)} {xfile_BadText : Str} {xtf_BadText : Tok} {p1_BadText p2_BadText a1_BadText a2_BadText a3_BadText a5_BadText a6_BadText q1_BadText q2_BadText q3_BadText q4_BadText : Pos} {xm_BadText : Expr}
    (z_abs : PySem.W.nsIn K mainGlobals "abs" = some none)
    (z_bool : PySem.W.nsIn K mainGlobals "bool" = some none)
    (z_dict : PySem.W.nsIn K mainGlobals "dict" = some none)
    (z_enumerate : PySem.W.nsIn K mainGlobals "enumerate" = some none)
    (z_int : PySem.W.nsIn K mainGlobals "int" = some none)
    (z_isinstance : PySem.W.nsIn K mainGlobals "isinstance" = some none)
    (z_len : PySem.W.nsIn K mainGlobals "len" = some none)
    (z_list : PySem.W.nsIn K mainGlobals "list" = some none)
    (z_max : PySem.W.nsIn K mainGlobals "max" = some none)
    (z_range : PySem.W.nsIn K mainGlobals "range" = some none)
    (z_sorted : PySem.W.nsIn K mainGlobals "sorted" = some none)
    (z_str : PySem.W.nsIn K mainGlobals "str" = some none)
    (z_sum : PySem.W.nsIn K mainGlobals "sum" = some none)
    (z_tuple : PySem.W.nsIn K mainGlobals "tuple" = some none)
    (z_super : PySem.W.nsIn K mainGlobals "super" = some none)
    (z_gcd : PySem.W.nsIn K mainGlobals "gcd" = some (some (.builtin "math.gcd")))
    (z_DIGITS : PySem.W.nsIn K mainGlobals "DIGITS" = some (some (.str ("0123456789" : Str) tk_DIGITS)))
    (z_LETTERS : PySem.W.nsIn K mainGlobals "LETTERS" = some (some (.str ("abcdefghijklmnopqrstuvwxyz" : Str) tk_LETTERS)))
    (z_LONGEST_NAME : PySem.W.nsIn K mainGlobals "LONGEST_NAME" = some (some (.int 12 tk_LONGEST_NAME)))
    (z_LONGEST_NUMBER : PySem.W.nsIn K mainGlobals "LONGEST_NUMBER" = some (some (.int 40 tk_LONGEST_NUMBER)))
    (g_BadGame : PySem.W.nsIn K mainGlobals "BadGame" = some (some (.ref C_BadGame)))
    (g_BadText : PySem.W.nsIn K mainGlobals "BadText" = some (some (.ref C_BadText)))
    (a_is_name : PySem.W.nsIn K mainGlobals "is_name" = some (some (.ref f_is_name)))
    (l_is_name : K.lookup f_is_name = some ⟨oc_is_name, od_is_name, .func (PySem.W.fnOf "is_name" "is_name" (defArgs s_is_name) (defBody s_is_name) (defScope s_is_name) .none kV_is_name dc_is_name pm_is_name an_is_name cd_is_name ct_is_name), sl_is_name⟩)
    (c_is_name : PySem.W.codeIn K cd_is_name "is_name" = true)
    (k_is_name : PySem.W.keepIn K (.ref f_is_name) = true)
    (a_number_in : PySem.W.nsIn K mainGlobals "number_in" = some (some (.ref f_number_in)))
    (l_number_in : K.lookup f_number_in = some ⟨oc_number_in, od_number_in, .func (PySem.W.fnOf "number_in" "number_in" (defArgs s_number_in) (defBody s_number_in) (defScope s_number_in) .none kV_number_in dc_number_in pm_number_in an_number_in cd_number_in ct_number_in), sl_number_in⟩)
    (c_number_in : PySem.W.codeIn K cd_number_in "number_in" = true)
    (k_number_in : PySem.W.keepIn K (.ref f_number_in) = true)
    (a_integer_in : PySem.W.nsIn K mainGlobals "integer_in" = some (some (.ref f_integer_in)))
    (l_integer_in : K.lookup f_integer_in = some ⟨oc_integer_in, od_integer_in, .func (PySem.W.fnOf "integer_in" "integer_in" (defArgs s_integer_in) (defBody s_integer_in) (defScope s_integer_in) .none kV_integer_in dc_integer_in pm_integer_in an_integer_in cd_integer_in ct_integer_in), sl_integer_in⟩)
    (c_integer_in : PySem.W.codeIn K cd_integer_in "integer_in" = true)
    (k_integer_in : PySem.W.keepIn K (.ref f_integer_in) = true)
    (a_fraction_in : PySem.W.nsIn K mainGlobals "fraction_in" = some (some (.ref f_fraction_in)))
    (l_fraction_in : K.lookup f_fraction_in = some ⟨oc_fraction_in, od_fraction_in, .func (PySem.W.fnOf "fraction_in" "fraction_in" (defArgs s_fraction_in) (defBody s_fraction_in) (defScope s_fraction_in) .none kV_fraction_in dc_fraction_in pm_fraction_in an_fraction_in cd_fraction_in ct_fraction_in), sl_fraction_in⟩)
    (c_fraction_in : PySem.W.codeIn K cd_fraction_in "fraction_in" = true)
    (k_fraction_in : PySem.W.keepIn K (.ref f_fraction_in) = true)
    (a_format_fraction : PySem.W.nsIn K mainGlobals "format_fraction" = some (some (.ref f_format_fraction)))
    (l_format_fraction : K.lookup f_format_fraction = some ⟨oc_format_fraction, od_format_fraction, .func (PySem.W.fnOf "format_fraction" "format_fraction" (defArgs s_format_fraction) (defBody s_format_fraction) (defScope s_format_fraction) .none kV_format_fraction dc_format_fraction pm_format_fraction an_format_fraction cd_format_fraction ct_format_fraction), sl_format_fraction⟩)
    (c_format_fraction : PySem.W.codeIn K cd_format_fraction "format_fraction" = true)
    (k_format_fraction : PySem.W.keepIn K (.ref f_format_fraction) = true)
    (a_read_words : PySem.W.nsIn K mainGlobals "_read_words" = some (some (.ref f_read_words)))
    (l_read_words : K.lookup f_read_words = some ⟨oc_read_words, od_read_words, .func (PySem.W.fnOf "_read_words" "_read_words" (defArgs s_read_words) (defBody s_read_words) (defScope s_read_words) .none kV_read_words dc_read_words pm_read_words an_read_words cd_read_words ct_read_words), sl_read_words⟩)
    (c_read_words : PySem.W.codeIn K cd_read_words "_read_words" = true)
    (k_read_words : PySem.W.keepIn K (.ref f_read_words) = true)
    (a_format_gains : PySem.W.nsIn K mainGlobals "format_gains" = some (some (.ref f_format_gains)))
    (l_format_gains : K.lookup f_format_gains = some ⟨oc_format_gains, od_format_gains, .func (PySem.W.fnOf "format_gains" "format_gains" (defArgs s_format_gains) (defBody s_format_gains) (defScope s_format_gains) .none kV_format_gains dc_format_gains pm_format_gains an_format_gains cd_format_gains ct_format_gains), sl_format_gains⟩)
    (c_format_gains : PySem.W.codeIn K cd_format_gains "format_gains" = true)
    (k_format_gains : PySem.W.keepIn K (.ref f_format_gains) = true)
    (a_read_gain : PySem.W.nsIn K mainGlobals "read_gain" = some (some (.ref f_read_gain)))
    (l_read_gain : K.lookup f_read_gain = some ⟨oc_read_gain, od_read_gain, .func (PySem.W.fnOf "read_gain" "read_gain" (defArgs s_read_gain) (defBody s_read_gain) (defScope s_read_gain) .none kV_read_gain dc_read_gain pm_read_gain an_read_gain cd_read_gain ct_read_gain), sl_read_gain⟩)
    (c_read_gain : PySem.W.codeIn K cd_read_gain "read_gain" = true)
    (k_read_gain : PySem.W.keepIn K (.ref f_read_gain) = true)
    (a_read_gains : PySem.W.nsIn K mainGlobals "read_gains" = some (some (.ref f_read_gains)))
    (l_read_gains : K.lookup f_read_gains = some ⟨oc_read_gains, od_read_gains, .func (PySem.W.fnOf "read_gains" "read_gains" (defArgs s_read_gains) (defBody s_read_gains) (defScope s_read_gains) .none kV_read_gains dc_read_gains pm_read_gains an_read_gains cd_read_gains ct_read_gains), sl_read_gains⟩)
    (c_read_gains : PySem.W.codeIn K cd_read_gains "read_gains" = true)
    (k_read_gains : PySem.W.keepIn K (.ref f_read_gains) = true)
    (a_format_lot : PySem.W.nsIn K mainGlobals "format_lot" = some (some (.ref f_format_lot)))
    (l_format_lot : K.lookup f_format_lot = some ⟨oc_format_lot, od_format_lot, .func (PySem.W.fnOf "format_lot" "format_lot" (defArgs s_format_lot) (defBody s_format_lot) (defScope s_format_lot) .none kV_format_lot dc_format_lot pm_format_lot an_format_lot cd_format_lot ct_format_lot), sl_format_lot⟩)
    (c_format_lot : PySem.W.codeIn K cd_format_lot "format_lot" = true)
    (k_format_lot : PySem.W.keepIn K (.ref f_format_lot) = true)
    (a_read_lot : PySem.W.nsIn K mainGlobals "read_lot" = some (some (.ref f_read_lot)))
    (l_read_lot : K.lookup f_read_lot = some ⟨oc_read_lot, od_read_lot, .func (PySem.W.fnOf "read_lot" "read_lot" (defArgs s_read_lot) (defBody s_read_lot) (defScope s_read_lot) .none kV_read_lot dc_read_lot pm_read_lot an_read_lot cd_read_lot ct_read_lot), sl_read_lot⟩)
    (c_read_lot : PySem.W.codeIn K cd_read_lot "read_lot" = true)
    (k_read_lot : PySem.W.keepIn K (.ref f_read_lot) = true)
    (a_format_parts : PySem.W.nsIn K mainGlobals "format_parts" = some (some (.ref f_format_parts)))
    (l_format_parts : K.lookup f_format_parts = some ⟨oc_format_parts, od_format_parts, .func (PySem.W.fnOf "format_parts" "format_parts" (defArgs s_format_parts) (defBody s_format_parts) (defScope s_format_parts) .none kV_format_parts dc_format_parts pm_format_parts an_format_parts cd_format_parts ct_format_parts), sl_format_parts⟩)
    (c_format_parts : PySem.W.codeIn K cd_format_parts "format_parts" = true)
    (k_format_parts : PySem.W.keepIn K (.ref f_format_parts) = true)
    (a_read_parts : PySem.W.nsIn K mainGlobals "read_parts" = some (some (.ref f_read_parts)))
    (l_read_parts : K.lookup f_read_parts = some ⟨oc_read_parts, od_read_parts, .func (PySem.W.fnOf "read_parts" "read_parts" (defArgs s_read_parts) (defBody s_read_parts) (defScope s_read_parts) .none kV_read_parts dc_read_parts pm_read_parts an_read_parts cd_read_parts ct_read_parts), sl_read_parts⟩)
    (c_read_parts : PySem.W.codeIn K cd_read_parts "read_parts" = true)
    (k_read_parts : PySem.W.keepIn K (.ref f_read_parts) = true)
    (a_law_source : PySem.W.nsIn K mainGlobals "_law_source" = some (some (.ref f_law_source)))
    (l_law_source : K.lookup f_law_source = some ⟨oc_law_source, od_law_source, .func (PySem.W.fnOf "_law_source" "_law_source" (defArgs s_law_source) (defBody s_law_source) (defScope s_law_source) .none kV_law_source dc_law_source pm_law_source an_law_source cd_law_source ct_law_source), sl_law_source⟩)
    (c_law_source : PySem.W.codeIn K cd_law_source "_law_source" = true)
    (k_law_source : PySem.W.keepIn K (.ref f_law_source) = true)
    (a_law_draw : PySem.W.nsIn K mainGlobals "_law_draw" = some (some (.ref f_law_draw)))
    (l_law_draw : K.lookup f_law_draw = some ⟨oc_law_draw, od_law_draw, .func (PySem.W.fnOf "_law_draw" "_law_draw" (defArgs s_law_draw) (defBody s_law_draw) (defScope s_law_draw) .none kV_law_draw dc_law_draw pm_law_draw an_law_draw cd_law_draw ct_law_draw), sl_law_draw⟩)
    (c_law_draw : PySem.W.codeIn K cd_law_draw "_law_draw" = true)
    (k_law_draw : PySem.W.keepIn K (.ref f_law_draw) = true)
    (a_law_name : PySem.W.nsIn K mainGlobals "_law_name" = some (some (.ref f_law_name)))
    (l_law_name : K.lookup f_law_name = some ⟨oc_law_name, od_law_name, .func (PySem.W.fnOf "_law_name" "_law_name" (defArgs s_law_name) (defBody s_law_name) (defScope s_law_name) .none kV_law_name dc_law_name pm_law_name an_law_name cd_law_name ct_law_name), sl_law_name⟩)
    (c_law_name : PySem.W.codeIn K cd_law_name "_law_name" = true)
    (k_law_name : PySem.W.keepIn K (.ref f_law_name) = true)
    (a_law_gcd : PySem.W.nsIn K mainGlobals "_law_gcd" = some (some (.ref f_law_gcd)))
    (l_law_gcd : K.lookup f_law_gcd = some ⟨oc_law_gcd, od_law_gcd, .func (PySem.W.fnOf "_law_gcd" "_law_gcd" (defArgs s_law_gcd) (defBody s_law_gcd) (defScope s_law_gcd) .none kV_law_gcd dc_law_gcd pm_law_gcd an_law_gcd cd_law_gcd ct_law_gcd), sl_law_gcd⟩)
    (c_law_gcd : PySem.W.codeIn K cd_law_gcd "_law_gcd" = true)
    (k_law_gcd : PySem.W.keepIn K (.ref f_law_gcd) = true)
    (a_law_is_name : PySem.W.nsIn K mainGlobals "_law_is_name" = some (some (.ref f_law_is_name)))
    (l_law_is_name : K.lookup f_law_is_name = some ⟨oc_law_is_name, od_law_is_name, .func (PySem.W.fnOf "_law_is_name" "_law_is_name" (defArgs s_law_is_name) (defBody s_law_is_name) (defScope s_law_is_name) .none kV_law_is_name dc_law_is_name pm_law_is_name an_law_is_name cd_law_is_name ct_law_is_name), sl_law_is_name⟩)
    (c_law_is_name : PySem.W.codeIn K cd_law_is_name "_law_is_name" = true)
    (k_law_is_name : PySem.W.keepIn K (.ref f_law_is_name) = true)
    (a_law_told : PySem.W.nsIn K mainGlobals "_law_told" = some (some (.ref f_law_told)))
    (l_law_told : K.lookup f_law_told = some ⟨oc_law_told, od_law_told, .func (PySem.W.fnOf "_law_told" "_law_told" (defArgs s_law_told) (defBody s_law_told) (defScope s_law_told) .none kV_law_told dc_law_told pm_law_told an_law_told cd_law_told ct_law_told), sl_law_told⟩)
    (c_law_told : PySem.W.codeIn K cd_law_told "_law_told" = true)
    (k_law_told : PySem.W.keepIn K (.ref f_law_told) = true)
    (a_law_fraction : PySem.W.nsIn K mainGlobals "_law_fraction" = some (some (.ref f_law_fraction)))
    (l_law_fraction : K.lookup f_law_fraction = some ⟨oc_law_fraction, od_law_fraction, .func (PySem.W.fnOf "_law_fraction" "_law_fraction" (defArgs s_law_fraction) (defBody s_law_fraction) (defScope s_law_fraction) .none kV_law_fraction dc_law_fraction pm_law_fraction an_law_fraction cd_law_fraction ct_law_fraction), sl_law_fraction⟩)
    (c_law_fraction : PySem.W.codeIn K cd_law_fraction "_law_fraction" = true)
    (k_law_fraction : PySem.W.keepIn K (.ref f_law_fraction) = true)
    (a_law_gain : PySem.W.nsIn K mainGlobals "_law_gain" = some (some (.ref f_law_gain)))
    (l_law_gain : K.lookup f_law_gain = some ⟨oc_law_gain, od_law_gain, .func (PySem.W.fnOf "_law_gain" "_law_gain" (defArgs s_law_gain) (defBody s_law_gain) (defScope s_law_gain) .none kV_law_gain dc_law_gain pm_law_gain an_law_gain cd_law_gain ct_law_gain), sl_law_gain⟩)
    (c_law_gain : PySem.W.codeIn K cd_law_gain "_law_gain" = true)
    (k_law_gain : PySem.W.keepIn K (.ref f_law_gain) = true)
    (a_law_lot : PySem.W.nsIn K mainGlobals "_law_lot" = some (some (.ref f_law_lot)))
    (l_law_lot : K.lookup f_law_lot = some ⟨oc_law_lot, od_law_lot, .func (PySem.W.fnOf "_law_lot" "_law_lot" (defArgs s_law_lot) (defBody s_law_lot) (defScope s_law_lot) .none kV_law_lot dc_law_lot pm_law_lot an_law_lot cd_law_lot ct_law_lot), sl_law_lot⟩)
    (c_law_lot : PySem.W.codeIn K cd_law_lot "_law_lot" = true)
    (k_law_lot : PySem.W.keepIn K (.ref f_law_lot) = true)
    (a_law_own_number : PySem.W.nsIn K mainGlobals "_law_own_number" = some (some (.ref f_law_own_number)))
    (l_law_own_number : K.lookup f_law_own_number = some ⟨oc_law_own_number, od_law_own_number, .func (PySem.W.fnOf "_law_own_number" "_law_own_number" (defArgs s_law_own_number) (defBody s_law_own_number) (defScope s_law_own_number) .none kV_law_own_number dc_law_own_number pm_law_own_number an_law_own_number cd_law_own_number ct_law_own_number), sl_law_own_number⟩)
    (c_law_own_number : PySem.W.codeIn K cd_law_own_number "_law_own_number" = true)
    (k_law_own_number : PySem.W.keepIn K (.ref f_law_own_number) = true)
    (a_law_own_integer : PySem.W.nsIn K mainGlobals "_law_own_integer" = some (some (.ref f_law_own_integer)))
    (l_law_own_integer : K.lookup f_law_own_integer = some ⟨oc_law_own_integer, od_law_own_integer, .func (PySem.W.fnOf "_law_own_integer" "_law_own_integer" (defArgs s_law_own_integer) (defBody s_law_own_integer) (defScope s_law_own_integer) .none kV_law_own_integer dc_law_own_integer pm_law_own_integer an_law_own_integer cd_law_own_integer ct_law_own_integer), sl_law_own_integer⟩)
    (c_law_own_integer : PySem.W.codeIn K cd_law_own_integer "_law_own_integer" = true)
    (k_law_own_integer : PySem.W.keepIn K (.ref f_law_own_integer) = true)
    (a_law_own_fraction : PySem.W.nsIn K mainGlobals "_law_own_fraction" = some (some (.ref f_law_own_fraction)))
    (l_law_own_fraction : K.lookup f_law_own_fraction = some ⟨oc_law_own_fraction, od_law_own_fraction, .func (PySem.W.fnOf "_law_own_fraction" "_law_own_fraction" (defArgs s_law_own_fraction) (defBody s_law_own_fraction) (defScope s_law_own_fraction) .none kV_law_own_fraction dc_law_own_fraction pm_law_own_fraction an_law_own_fraction cd_law_own_fraction ct_law_own_fraction), sl_law_own_fraction⟩)
    (c_law_own_fraction : PySem.W.codeIn K cd_law_own_fraction "_law_own_fraction" = true)
    (k_law_own_fraction : PySem.W.keepIn K (.ref f_law_own_fraction) = true)
    (a_law_own_gain : PySem.W.nsIn K mainGlobals "_law_own_gain" = some (some (.ref f_law_own_gain)))
    (l_law_own_gain : K.lookup f_law_own_gain = some ⟨oc_law_own_gain, od_law_own_gain, .func (PySem.W.fnOf "_law_own_gain" "_law_own_gain" (defArgs s_law_own_gain) (defBody s_law_own_gain) (defScope s_law_own_gain) .none kV_law_own_gain dc_law_own_gain pm_law_own_gain an_law_own_gain cd_law_own_gain ct_law_own_gain), sl_law_own_gain⟩)
    (c_law_own_gain : PySem.W.codeIn K cd_law_own_gain "_law_own_gain" = true)
    (k_law_own_gain : PySem.W.keepIn K (.ref f_law_own_gain) = true)
    (a_law_own_lot : PySem.W.nsIn K mainGlobals "_law_own_lot" = some (some (.ref f_law_own_lot)))
    (l_law_own_lot : K.lookup f_law_own_lot = some ⟨oc_law_own_lot, od_law_own_lot, .func (PySem.W.fnOf "_law_own_lot" "_law_own_lot" (defArgs s_law_own_lot) (defBody s_law_own_lot) (defScope s_law_own_lot) .none kV_law_own_lot dc_law_own_lot pm_law_own_lot an_law_own_lot cd_law_own_lot ct_law_own_lot), sl_law_own_lot⟩)
    (c_law_own_lot : PySem.W.codeIn K cd_law_own_lot "_law_own_lot" = true)
    (k_law_own_lot : PySem.W.keepIn K (.ref f_law_own_lot) = true)
    (a_law_own_parts : PySem.W.nsIn K mainGlobals "_law_own_parts" = some (some (.ref f_law_own_parts)))
    (l_law_own_parts : K.lookup f_law_own_parts = some ⟨oc_law_own_parts, od_law_own_parts, .func (PySem.W.fnOf "_law_own_parts" "_law_own_parts" (defArgs s_law_own_parts) (defBody s_law_own_parts) (defScope s_law_own_parts) .none kV_law_own_parts dc_law_own_parts pm_law_own_parts an_law_own_parts cd_law_own_parts ct_law_own_parts), sl_law_own_parts⟩)
    (c_law_own_parts : PySem.W.codeIn K cd_law_own_parts "_law_own_parts" = true)
    (k_law_own_parts : PySem.W.keepIn K (.ref f_law_own_parts) = true)
    (a_law_bent : PySem.W.nsIn K mainGlobals "_law_bent" = some (some (.ref f_law_bent)))
    (l_law_bent : K.lookup f_law_bent = some ⟨oc_law_bent, od_law_bent, .func (PySem.W.fnOf "_law_bent" "_law_bent" (defArgs s_law_bent) (defBody s_law_bent) (defScope s_law_bent) .none kV_law_bent dc_law_bent pm_law_bent an_law_bent cd_law_bent ct_law_bent), sl_law_bent⟩)
    (c_law_bent : PySem.W.codeIn K cd_law_bent "_law_bent" = true)
    (k_law_bent : PySem.W.keepIn K (.ref f_law_bent) = true)
    (a_law_lines_fault : PySem.W.nsIn K mainGlobals "_law_lines_fault" = some (some (.ref f_law_lines_fault)))
    (l_law_lines_fault : K.lookup f_law_lines_fault = some ⟨oc_law_lines_fault, od_law_lines_fault, .func (PySem.W.fnOf "_law_lines_fault" "_law_lines_fault" (defArgs s_law_lines_fault) (defBody s_law_lines_fault) (defScope s_law_lines_fault) .none kV_law_lines_fault dc_law_lines_fault pm_law_lines_fault an_law_lines_fault cd_law_lines_fault ct_law_lines_fault), sl_law_lines_fault⟩)
    (c_law_lines_fault : PySem.W.codeIn K cd_law_lines_fault "_law_lines_fault" = true)
    (k_law_lines_fault : PySem.W.keepIn K (.ref f_law_lines_fault) = true)
    (a_law_read_or : PySem.W.nsIn K mainGlobals "_law_read_or" = some (some (.ref f_law_read_or)))
    (l_law_read_or : K.lookup f_law_read_or = some ⟨oc_law_read_or, od_law_read_or, .func (PySem.W.fnOf "_law_read_or" "_law_read_or" (defArgs s_law_read_or) (defBody s_law_read_or) (defScope s_law_read_or) .none kV_law_read_or dc_law_read_or pm_law_read_or an_law_read_or cd_law_read_or ct_law_read_or), sl_law_read_or⟩)
    (c_law_read_or : PySem.W.codeIn K cd_law_read_or "_law_read_or" = true)
    (k_law_read_or : PySem.W.keepIn K (.ref f_law_read_or) = true)
    (a_law_pairs_dict : PySem.W.nsIn K mainGlobals "_law_pairs_dict" = some (some (.ref f_law_pairs_dict)))
    (l_law_pairs_dict : K.lookup f_law_pairs_dict = some ⟨oc_law_pairs_dict, od_law_pairs_dict, .func (PySem.W.fnOf "_law_pairs_dict" "_law_pairs_dict" (defArgs s_law_pairs_dict) (defBody s_law_pairs_dict) (defScope s_law_pairs_dict) .none kV_law_pairs_dict dc_law_pairs_dict pm_law_pairs_dict an_law_pairs_dict cd_law_pairs_dict ct_law_pairs_dict), sl_law_pairs_dict⟩)
    (c_law_pairs_dict : PySem.W.codeIn K cd_law_pairs_dict "_law_pairs_dict" = true)
    (k_law_pairs_dict : PySem.W.keepIn K (.ref f_law_pairs_dict) = true)
    (a_law : PySem.W.nsIn K mainGlobals "law" = some (some (.ref f_law)))
    (l_law : K.lookup f_law = some ⟨oc_law, od_law, .func (PySem.W.fnOf "law" "law" (defArgs s_law) (defBody s_law) (defScope s_law) .none kV_law dc_law pm_law an_law cd_law ct_law), sl_law⟩)
    (c_law : PySem.W.codeIn K cd_law "law" = true)
    (k_law : PySem.W.keepIn K (.ref f_law) = true)
    (xL_BadText : K.lookup C_BadText = some (PySem.excClassObj nm_BadText q_BadText C_BadText N_BadText bs_BadText bm_BadText true sn_BadText sub_BadText ab_BadText col_BadText dd_BadText k0_BadText k1_BadText k2_BadText k3_BadText k5_BadText "ValueError.__new__"))
    (xR_BadText : PySem.HandSPX.refsVE bm_BadText = true)
    (xsa_BadText : PySem.W.findIn K (.ref C_BadText) "__setattr__" = some (some (.builtin "object.__setattr__")))
    (xga_BadText : PySem.W.findIn K (.ref C_BadText) "__getattribute__" = some (some (.builtin "BaseException.__getattribute__")))
    (xgg_BadText : PySem.W.findIn K (.ref C_BadText) "__getattr__" = some none)
    (xnn_BadText : PySem.W.findIn K (.ref C_BadText) "line" = some none)
    (xiC_BadText : PySem.W.findIn K (.ref C_BadText) "__init__" = some (some (.ref fI_BadText)))
    (xtC_BadText : PySem.W.typeIn K (.ref fI_BadText) = some (.type "function"))
    (xkC_BadText : PySem.W.keepIn K (.ref C_BadText) = true)
    (xeC_BadText : PySem.W.subIn K (.ref C_BadText) (.type "BaseException") = some true)
    (xyC_BadText : PySem.W.typeIn K (.ref C_BadText) = some (.type "type"))
    (xhC_BadText : PySem.W.hasDictIn K C_BadText = true)
    (xmC_BadText : PySem.W.mroIn K C_BadText (.ref C_BadText) = some true)
    (xho_BadText : PySem.W.nsIn K cStatics "thirdparty.any" = some none)
    (xhm_BadText : PySem.W.ks_superIn K C_BadText C_BadText "__init__" = some (some (.builtin "ValueError.__init__")))
    (xhB_BadText : PySem.W.subIn K (.ref C_BadText) (.type "ValueError") = some true)
    (xtop_BadText : (rwL.prog.main.scope.names.lookup ("super" : Str)).isSome = false)
    (xfn_BadText : K.lookup fI_BadText = some ⟨xoc_BadText, xod_BadText, .func (PySem.W.ksFn "__init__" "BadText.__init__" (PLX.iA "line" p1_BadText p2_BadText) (PLX.iB "line" xm_BadText a1_BadText a2_BadText a3_BadText a5_BadText a6_BadText q1_BadText q2_BadText q3_BadText q4_BadText) (PLX.iS "line" PLX.xStr) .none .none xdoc_BadText xpm_BadText xan_BadText (.ref xcda_BadText) xct_BadText xcc_BadText), xsl_BadText⟩)
    (xcd_BadText : PySem.W.codeIn K (.ref xcda_BadText) "BadText.__init__" = true)
    (xca_BadText : K.lookup xcda_BadText = some ⟨xccl_BadText, xcdd_BadText, .fields xvs_BadText, xccs_BadText⟩)
    (xvf_BadText : xvs_BadText[2]? = some (.str xfile_BadText xtf_BadText))
    (xfe_BadText : ((rwL.prog.main.file : Str) == xfile_BadText) = true)
    (xce_BadText : K.lookup xcc_BadText = some ⟨xcl_BadText, xcld_BadText, .cell (some (.ref C_BadText)), xcsl_BadText⟩)
    (xsu_BadText : PLX.SupOk "line" "BadText.__init__" PLX.xStr xm_BadText a1_BadText a2_BadText a3_BadText a5_BadText a6_BadText)
    (xmo_BadText : PLX.MsgOk rwL.prog "line" "BadText.__init__" PLX.xStr PLX.PInt xm_BadText)
    (te_BadText : PySem.W.exmOne K (.ref C_BadText) (.ref C_BadText) = some true)
    (i0_BadText : (PySem.W.clsIn K C_BadText).isSome = true)
    (i1_BadText : PySem.W.findIn K (.ref C_BadText) "__getattribute__" = some (some (.builtin "BaseException.__getattribute__")))
    (i2_BadText : PySem.W.findIn K (.ref C_BadText) "__getattr__" = some none)
    (i3_BadText : PySem.W.subIn K (.ref C_BadText) (.type "BaseException") = some true)
    (i4_BadText : PySem.W.findIn K (.ref C_BadText) "__class__" = some (some (.builtin "object.__class__")))
    (i5_BadText : PySem.W.specialIn K (.builtin "object.__class__") "__get__" = some (some (.builtin "getset_descriptor.__get__")))
    (i6_BadText : PySem.W.takesIn K (.builtin "object.__class__") = some true)
    (i7_BadText : PySem.W.mroIn K C_BadText (.type "object") = some true)
    (kit_BadText_BadGame : PySem.W.kitOne K (.ref C_BadText) (.ref C_BadGame) = some false) :
    ∃ fd : FuncData, (∀ (s : Shared) (v : Value), BindsTo s fd ⟨[v], []⟩ [("script", v)]) ∧ ∀ base : Heap, K.In base → base.Ns mainGlobals mg → FnOk rwL.prog w K mg base CX0 62 fa fd ["script"] (spScr K fun _ _ => .stuck) := by
  have e := hfa.symm.trans (PySem.W.mg_of X G a_law)
  cases e
  have B : Blt mg := { b_abs := PySem.W.mg_none_of X G z_abs, b_bool := PySem.W.mg_none_of X G z_bool, b_dict := PySem.W.mg_none_of X G z_dict, b_enumerate := PySem.W.mg_none_of X G z_enumerate, b_int := PySem.W.mg_none_of X G z_int, b_isinstance := PySem.W.mg_none_of X G z_isinstance, b_len := PySem.W.mg_none_of X G z_len, b_list := PySem.W.mg_none_of X G z_list, b_max := PySem.W.mg_none_of X G z_max, b_range := PySem.W.mg_none_of X G z_range, b_sorted := PySem.W.mg_none_of X G z_sorted, b_str := PySem.W.mg_none_of X G z_str, b_sum := PySem.W.mg_none_of X G z_sum, b_tuple := PySem.W.mg_none_of X G z_tuple, g_gcd := PySem.W.mg_of X G z_gcd, c_DIGITS := ⟨_, PySem.W.mg_of X G z_DIGITS⟩, c_LETTERS := ⟨_, PySem.W.mg_of X G z_LETTERS⟩, c_LONGEST_NAME := ⟨_, PySem.W.mg_of X G z_LONGEST_NAME⟩, c_LONGEST_NUMBER := ⟨_, PySem.W.mg_of X G z_LONGEST_NUMBER⟩ }
  have d_is_name : DefOf K mg "is_name" s_is_name ["word"] := defOf_mk X G a_is_name l_is_name c_is_name k_is_name fun _ _ _ _ _ _ us hl => match us, hl with | [_], _ => rfl
  have d_number_in : DefOf K mg "number_in" s_number_in ["word"] := defOf_mk X G a_number_in l_number_in c_number_in k_number_in fun _ _ _ _ _ _ us hl => match us, hl with | [_], _ => rfl
  have d_integer_in : DefOf K mg "integer_in" s_integer_in ["word"] := defOf_mk X G a_integer_in l_integer_in c_integer_in k_integer_in fun _ _ _ _ _ _ us hl => match us, hl with | [_], _ => rfl
  have d_fraction_in : DefOf K mg "fraction_in" s_fraction_in ["word"] := defOf_mk X G a_fraction_in l_fraction_in c_fraction_in k_fraction_in fun _ _ _ _ _ _ us hl => match us, hl with | [_], _ => rfl
  have d_format_fraction : DefOf K mg "format_fraction" s_format_fraction ["part"] := defOf_mk X G a_format_fraction l_format_fraction c_format_fraction k_format_fraction fun _ _ _ _ _ _ us hl => match us, hl with | [_], _ => rfl
  have d_read_words : DefOf K mg "_read_words" s_read_words ["words", "reader"] := defOf_mk X G a_read_words l_read_words c_read_words k_read_words fun _ _ _ _ _ _ us hl => match us, hl with | [_, _], _ => rfl
  have d_format_gains : DefOf K mg "format_gains" s_format_gains ["gains"] := defOf_mk X G a_format_gains l_format_gains c_format_gains k_format_gains fun _ _ _ _ _ _ us hl => match us, hl with | [_], _ => rfl
  have d_read_gain : DefOf K mg "read_gain" s_read_gain ["line"] := defOf_mk X G a_read_gain l_read_gain c_read_gain k_read_gain fun _ _ _ _ _ _ us hl => match us, hl with | [_], _ => rfl
  have d_read_gains : DefOf K mg "read_gains" s_read_gains ["text"] := defOf_mk X G a_read_gains l_read_gains c_read_gains k_read_gains fun _ _ _ _ _ _ us hl => match us, hl with | [_], _ => rfl
  have d_format_lot : DefOf K mg "format_lot" s_format_lot ["lot"] := defOf_mk X G a_format_lot l_format_lot c_format_lot k_format_lot fun _ _ _ _ _ _ us hl => match us, hl with | [_], _ => rfl
  have d_read_lot : DefOf K mg "read_lot" s_read_lot ["line"] := defOf_mk X G a_read_lot l_read_lot c_read_lot k_read_lot fun _ _ _ _ _ _ us hl => match us, hl with | [_], _ => rfl
  have d_format_parts : DefOf K mg "format_parts" s_format_parts ["word", "parts"] := defOf_mk X G a_format_parts l_format_parts c_format_parts k_format_parts fun _ _ _ _ _ _ us hl => match us, hl with | [_, _], _ => rfl
  have d_read_parts : DefOf K mg "read_parts" s_read_parts ["word", "line"] := defOf_mk X G a_read_parts l_read_parts c_read_parts k_read_parts fun _ _ _ _ _ _ us hl => match us, hl with | [_, _], _ => rfl
  have d_law_source : DefOf K mg "_law_source" s_law_source ["script"] := defOf_mk X G a_law_source l_law_source c_law_source k_law_source fun _ _ _ _ _ _ us hl => match us, hl with | [_], _ => rfl
  have d_law_draw : DefOf K mg "_law_draw" s_law_draw ["script", "source", "limit"] := defOf_mk X G a_law_draw l_law_draw c_law_draw k_law_draw fun _ _ _ _ _ _ us hl => match us, hl with | [_, _, _], _ => rfl
  have d_law_name : DefOf K mg "_law_name" s_law_name ["script", "source", "used"] := defOf_mk X G a_law_name l_law_name c_law_name k_law_name fun _ _ _ _ _ _ us hl => match us, hl with | [_, _, _], _ => rfl
  have d_law_gcd : DefOf K mg "_law_gcd" s_law_gcd ["a", "b"] := defOf_mk X G a_law_gcd l_law_gcd c_law_gcd k_law_gcd fun _ _ _ _ _ _ us hl => match us, hl with | [_, _], _ => rfl
  have d_law_is_name : DefOf K mg "_law_is_name" s_law_is_name ["word"] := defOf_mk X G a_law_is_name l_law_is_name c_law_is_name k_law_is_name fun _ _ _ _ _ _ us hl => match us, hl with | [_], _ => rfl
  have d_law_told : DefOf K mg "_law_told" s_law_told ["answer", "due"] := defOf_mk X G a_law_told l_law_told c_law_told k_law_told fun _ _ _ _ _ _ us hl => match us, hl with | [_, _], _ => rfl
  have d_law_fraction : DefOf K mg "_law_fraction" s_law_fraction ["top", "bottom"] := defOf_mk X G a_law_fraction l_law_fraction c_law_fraction k_law_fraction fun _ _ _ _ _ _ us hl => match us, hl with | [_, _], _ => rfl
  have d_law_gain : DefOf K mg "_law_gain" s_law_gain ["script", "source", "style"] := defOf_mk X G a_law_gain l_law_gain c_law_gain k_law_gain fun _ _ _ _ _ _ us hl => match us, hl with | [_, _, _], _ => rfl
  have d_law_lot : DefOf K mg "_law_lot" s_law_lot ["script", "source", "count"] := defOf_mk X G a_law_lot l_law_lot c_law_lot k_law_lot fun _ _ _ _ _ _ us hl => match us, hl with | [_, _, _], _ => rfl
  have d_law_own_number : DefOf K mg "_law_own_number" s_law_own_number ["word"] := defOf_mk X G a_law_own_number l_law_own_number c_law_own_number k_law_own_number fun _ _ _ _ _ _ us hl => match us, hl with | [_], _ => rfl
  have d_law_own_integer : DefOf K mg "_law_own_integer" s_law_own_integer ["word"] := defOf_mk X G a_law_own_integer l_law_own_integer c_law_own_integer k_law_own_integer fun _ _ _ _ _ _ us hl => match us, hl with | [_], _ => rfl
  have d_law_own_fraction : DefOf K mg "_law_own_fraction" s_law_own_fraction ["word"] := defOf_mk X G a_law_own_fraction l_law_own_fraction c_law_own_fraction k_law_own_fraction fun _ _ _ _ _ _ us hl => match us, hl with | [_], _ => rfl
  have d_law_own_gain : DefOf K mg "_law_own_gain" s_law_own_gain ["line"] := defOf_mk X G a_law_own_gain l_law_own_gain c_law_own_gain k_law_own_gain fun _ _ _ _ _ _ us hl => match us, hl with | [_], _ => rfl
  have d_law_own_lot : DefOf K mg "_law_own_lot" s_law_own_lot ["line"] := defOf_mk X G a_law_own_lot l_law_own_lot c_law_own_lot k_law_own_lot fun _ _ _ _ _ _ us hl => match us, hl with | [_], _ => rfl
  have d_law_own_parts : DefOf K mg "_law_own_parts" s_law_own_parts ["word", "line"] := defOf_mk X G a_law_own_parts l_law_own_parts c_law_own_parts k_law_own_parts fun _ _ _ _ _ _ us hl => match us, hl with | [_, _], _ => rfl
  have d_law_bent : DefOf K mg "_law_bent" s_law_bent ["script", "source", "line"] := defOf_mk X G a_law_bent l_law_bent c_law_bent k_law_bent fun _ _ _ _ _ _ us hl => match us, hl with | [_, _, _], _ => rfl
  have d_law_lines_fault : DefOf K mg "_law_lines_fault" s_law_lines_fault ["lines"] := defOf_mk X G a_law_lines_fault l_law_lines_fault c_law_lines_fault k_law_lines_fault fun _ _ _ _ _ _ us hl => match us, hl with | [_], _ => rfl
  have d_law_read_or : DefOf K mg "_law_read_or" s_law_read_or ["text"] := defOf_mk X G a_law_read_or l_law_read_or c_law_read_or k_law_read_or fun _ _ _ _ _ _ us hl => match us, hl with | [_], _ => rfl
  have d_law_pairs_dict : DefOf K mg "_law_pairs_dict" s_law_pairs_dict ["lines"] := defOf_mk X G a_law_pairs_dict l_law_pairs_dict c_law_pairs_dict k_law_pairs_dict fun _ _ _ _ _ _ us hl => match us, hl with | [_], _ => rfl
  have d_law : DefOf K mg "law" s_law ["script"] := defOf_mk X G a_law l_law c_law k_law fun _ _ _ _ _ _ us hl => match us, hl with | [_], _ => rfl
  have x_BadText : PLX.XTxt rwL.prog K mg "BadText" C_BadText fI_BadText "line" "BadText.__init__" PLX.xStr PLX.PInt := { gC := PySem.W.mg_of X G g_BadText, cls := ⟨_, _, _, _, _, _, _, _, _, _, _, _, _, _, _, xL_BadText, xR_BadText⟩, sa := xsa_BadText, ga := xga_BadText, gg := xgg_BadText, noN := xnn_BadText, iC := xiC_BadText, tC := xtC_BadText, kC := xkC_BadText, exC := xeC_BadText, tyC := xyC_BadText, hdC := xhC_BadText, mC := xmC_BadText, su := PySem.W.mg_none_of X G z_super, st := PySem.W.mg_none_of X G z_str, ho := xho_BadText, hm := xhm_BadText, hB := xhB_BadText, top := xtop_BadText, fok := PLX.fld_line, fn := ⟨_, _, _, _, _, _, _, _, _, _, _, _, _, _, _, _, _, _, _, _, _, _, _, _, _, _, _, _, _, _, xsu_BadText, xmo_BadText, xfn_BadText, xcd_BadText, xca_BadText, xvf_BadText, xfe_BadText, xce_BadText⟩ }
  have is_BadText : IsC K C_BadText := ⟨i0_BadText, i1_BadText, i2_BadText, i3_BadText, i4_BadText, i5_BadText, i6_BadText, i7_BadText⟩
  let V : Fv := ⟨fun f => if f = f_fraction_in then some m_fraction_in else if f = f_integer_in then some m_integer_in else if f = f_number_in then some m_number_in else none, f_fraction_in, f_integer_in, f_number_in⟩
  have ne_fraction_in_integer_in : f_integer_in ≠ f_fraction_in := fun e => by
    have z := l_integer_in
    rw [e] at z
    exact absurd (show ("integer_in" : Str) = "fraction_in" from congrArg FuncData.name (FdAt.inj ⟨_, _, _, z⟩ ⟨_, _, _, l_fraction_in⟩)) (by decide +kernel)
  have ne_fraction_in_number_in : f_number_in ≠ f_fraction_in := fun e => by
    have z := l_number_in
    rw [e] at z
    exact absurd (show ("number_in" : Str) = "fraction_in" from congrArg FuncData.name (FdAt.inj ⟨_, _, _, z⟩ ⟨_, _, _, l_fraction_in⟩)) (by decide +kernel)
  have ne_integer_in_number_in : f_number_in ≠ f_integer_in := fun e => by
    have z := l_number_in
    rw [e] at z
    exact absurd (show ("number_in" : Str) = "integer_in" from congrArg FuncData.name (FdAt.inj ⟨_, _, _, z⟩ ⟨_, _, _, l_integer_in⟩)) (by decide +kernel)
  have tv_fraction_in : V.T V.fraction_in = some m_fraction_in := by
    show (if f_fraction_in = f_fraction_in then some m_fraction_in else if f_fraction_in = f_integer_in then some m_integer_in else if f_fraction_in = f_number_in then some m_number_in else none : Option _) = _
    rw [if_pos rfl]
  have tv_integer_in : V.T V.integer_in = some m_integer_in := by
    show (if f_integer_in = f_fraction_in then some m_fraction_in else if f_integer_in = f_integer_in then some m_integer_in else if f_integer_in = f_number_in then some m_number_in else none : Option _) = _
    rw [if_neg ne_fraction_in_integer_in, if_pos rfl]
  have tv_number_in : V.T V.number_in = some m_number_in := by
    show (if f_number_in = f_fraction_in then some m_fraction_in else if f_number_in = f_integer_in then some m_integer_in else if f_number_in = f_number_in then some m_number_in else none : Option _) = _
    rw [if_neg ne_fraction_in_number_in, if_neg ne_integer_in_number_in, if_pos rfl]
  have T : ∀ base : Heap, Has rwL.prog w K mg base "law" ["script"] 62 (m_law V) := fun base => by
    have h_is_name := has_is_name (P := rwL.prog) (w := w) (base := base) B d_is_name
    have h_number_in := has_number_in (P := rwL.prog) (w := w) (base := base) B d_number_in
    have h_integer_in := has_integer_in (P := rwL.prog) (w := w) (base := base) B d_integer_in (h_number_in := h_number_in)
    have h_fraction_in := has_fraction_in (P := rwL.prog) (w := w) (base := base) B d_fraction_in (h_number_in := h_number_in) (h_integer_in := h_integer_in)
    have h_format_fraction := has_format_fraction (P := rwL.prog) (w := w) (base := base) B d_format_fraction
    have tab : TabOk rwL.prog w K mg base 1 3 V.T := by
      intro f m hm
      by_cases e0 : f = f_fraction_in
      · rw [e0] at hm ⊢; obtain rfl := Option.some.inj (tv_fraction_in.symm.trans hm); exact ⟨"fraction_in", ["word"], Has.mono h_fraction_in (by decide), rfl, PySem.W.mg_of X G a_fraction_in⟩
      by_cases e1 : f = f_integer_in
      · rw [e1] at hm ⊢; obtain rfl := Option.some.inj (tv_integer_in.symm.trans hm); exact ⟨"integer_in", ["word"], Has.mono h_integer_in (by decide), rfl, PySem.W.mg_of X G a_integer_in⟩
      by_cases e2 : f = f_number_in
      · rw [e2] at hm ⊢; obtain rfl := Option.some.inj (tv_number_in.symm.trans hm); exact ⟨"number_in", ["word"], Has.mono h_number_in (by decide), rfl, PySem.W.mg_of X G a_number_in⟩
      have hn : V.T f = none := by
        show (if f = f_fraction_in then some m_fraction_in else if f = f_integer_in then some m_integer_in else if f = f_number_in then some m_number_in else none : Option _) = _
        rw [if_neg e0, if_neg e1, if_neg e2]
      rw [hn] at hm; cases hm
    have h_read_words := has_read_words (P := rwL.prog) (w := w) (base := base) B d_read_words (V := V) (tab := tab)
    have h_format_gains := has_format_gains (P := rwL.prog) (w := w) (base := base) B d_format_gains
    have h_read_gain := has_read_gain (P := rwL.prog) (w := w) (base := base) B d_read_gain (V := V) (gf_integer_in := PySem.W.mg_of X G a_integer_in) (h_is_name := h_is_name) (h_read_words := h_read_words)
    have h_read_gains := has_read_gains (P := rwL.prog) (w := w) (base := base) B d_read_gains (V := V) (x_BadText := x_BadText) (h_read_gain := h_read_gain)
    have h_format_lot := has_format_lot (P := rwL.prog) (w := w) (base := base) B d_format_lot
    have h_read_lot := has_read_lot (P := rwL.prog) (w := w) (base := base) B d_read_lot (V := V) (gf_number_in := PySem.W.mg_of X G a_number_in) (h_read_words := h_read_words)
    have h_format_parts := has_format_parts (P := rwL.prog) (w := w) (base := base) B d_format_parts (h_format_fraction := h_format_fraction)
    have h_read_parts := has_read_parts (P := rwL.prog) (w := w) (base := base) B d_read_parts (V := V) (gf_fraction_in := PySem.W.mg_of X G a_fraction_in) (h_read_words := h_read_words)
    have h_law_source := has_law_source (P := rwL.prog) (w := w) (base := base) B d_law_source
    have h_law_draw := has_law_draw (P := rwL.prog) (w := w) (base := base) B d_law_draw
    have h_law_name := has_law_name (P := rwL.prog) (w := w) (base := base) B d_law_name (h_law_draw := h_law_draw)
    have h_law_gcd := has_law_gcd (P := rwL.prog) (w := w) (base := base) B d_law_gcd
    have h_law_is_name := has_law_is_name (P := rwL.prog) (w := w) (base := base) B d_law_is_name
    have h_law_told := has_law_told (P := rwL.prog) (w := w) (base := base) B d_law_told
    have h_law_fraction := has_law_fraction (P := rwL.prog) (w := w) (base := base) B d_law_fraction (h_law_gcd := h_law_gcd)
    have h_law_gain := has_law_gain (P := rwL.prog) (w := w) (base := base) B d_law_gain (h_law_draw := h_law_draw)
    have h_law_lot := has_law_lot (P := rwL.prog) (w := w) (base := base) B d_law_lot (h_law_draw := h_law_draw)
    have h_law_own_number := has_law_own_number (P := rwL.prog) (w := w) (base := base) B d_law_own_number
    have h_law_own_integer := has_law_own_integer (P := rwL.prog) (w := w) (base := base) B d_law_own_integer (h_law_own_number := h_law_own_number)
    have h_law_own_fraction := has_law_own_fraction (P := rwL.prog) (w := w) (base := base) B d_law_own_fraction (h_law_gcd := h_law_gcd) (h_law_own_number := h_law_own_number) (h_law_own_integer := h_law_own_integer)
    have h_law_own_gain := has_law_own_gain (P := rwL.prog) (w := w) (base := base) B d_law_own_gain (h_law_is_name := h_law_is_name) (h_law_own_integer := h_law_own_integer)
    have h_law_own_lot := has_law_own_lot (P := rwL.prog) (w := w) (base := base) B d_law_own_lot (h_law_own_number := h_law_own_number)
    have h_law_own_parts := has_law_own_parts (P := rwL.prog) (w := w) (base := base) B d_law_own_parts (h_law_own_fraction := h_law_own_fraction)
    have h_law_bent := has_law_bent (P := rwL.prog) (w := w) (base := base) B d_law_bent (h_law_draw := h_law_draw)
    have h_law_lines_fault := has_law_lines_fault (P := rwL.prog) (w := w) (base := base) B d_law_lines_fault (h_law_own_gain := h_law_own_gain)
    have h_law_read_or := has_law_read_or (P := rwL.prog) (w := w) (base := base) B d_law_read_or (V := V) (x_BadText := x_BadText) (te_BadText := te_BadText) (is_BadText := is_BadText) (g_BadGame := PySem.W.mg_of X G g_BadGame) (k_BadText_BadGame := kit_BadText_BadGame) (h_read_gains := h_read_gains)
    have h_law_pairs_dict := has_law_pairs_dict (P := rwL.prog) (w := w) (base := base) B d_law_pairs_dict (h_law_own_gain := h_law_own_gain)
    have h_law := has_law (P := rwL.prog) (w := w) (base := base) B d_law (V := V) (h_integer_in := h_integer_in) (h_fraction_in := h_fraction_in) (h_format_fraction := h_format_fraction) (h_format_gains := h_format_gains) (h_read_gain := h_read_gain) (h_read_gains := h_read_gains) (h_format_lot := h_format_lot) (h_read_lot := h_read_lot) (h_format_parts := h_format_parts) (h_read_parts := h_read_parts) (h_law_source := h_law_source) (h_law_draw := h_law_draw) (h_law_name := h_law_name) (h_law_told := h_law_told) (h_law_fraction := h_law_fraction) (h_law_gain := h_law_gain) (h_law_lot := h_law_lot) (h_law_own_integer := h_law_own_integer) (h_law_own_fraction := h_law_own_fraction) (h_law_own_gain := h_law_own_gain) (h_law_own_lot := h_law_own_lot) (h_law_own_parts := h_law_own_parts) (h_law_bent := h_law_bent) (h_law_lines_fault := h_law_lines_fault) (h_law_read_or := h_law_read_or) (h_law_pairs_dict := h_law_pairs_dict)
    exact h_law
  refine ⟨PySem.W.fnOf "law" "law" (defArgs s_law) (defBody s_law) (defScope s_law) .none kV_law dc_law pm_law an_law cd_law ct_law, fun s v => .of_eq rfl, fun base _ _ => ?_⟩
  obtain ⟨f, fd, ok, hm, _, _, fdat⟩ := (T base).ex
  have e2 := hm.symm.trans (PySem.W.mg_of X G a_law)
  cases e2
  obtain rfl := fdat.inj ⟨_, _, _, l_law⟩
  have z := FnOk_scr (m := (m_law V)) ok (law_ok ⟨tv_integer_in, tv_number_in, tv_fraction_in⟩)
  unfold spScr at z ⊢
  exact z
end PL
/-! printed by genend.py: the end -/
open PySem PySem.W PyProof.Rows
set_option maxRecDepth 100000 in
set_option maxHeartbeats 0 in
theorem PySem.Challenge.cw_sequencesandadvice_k84_texts_of_gains_an_holds : PySem.Challenge.rw_sequencesandadvice_k84_texts_of_gains_an.Holds := by
  w_on; o_law; k_head; (case hw => w_witness2)
  k_fill
  refine PL.walk_scr (k := 62) (m := fun _ _ => .stuck) (l := PySem.Challenge.rw_sequencesandadvice_k84_texts_of_gains_an) rfl rfl ⟨rfl, by decide, by decide⟩ (fun w h Y => PySem.W.kIn_of Y) ?F
  case F =>
    intro w mg fa h KX G hmg
    refine' PL.end_mk KX G hmg ?z_abs ?z_bool ?z_dict ?z_enumerate ?z_int ?z_isinstance ?z_len ?z_list ?z_max ?z_range ?z_sorted ?z_str ?z_sum ?z_tuple ?z_super ?z_gcd ?z_DIGITS ?z_LETTERS ?z_LONGEST_NAME ?z_LONGEST_NUMBER ?g_BadGame ?g_BadText ?a_is_name ?l_is_name ?c_is_name ?k_is_name ?a_number_in ?l_number_in ?c_number_in ?k_number_in ?a_integer_in ?l_integer_in ?c_integer_in ?k_integer_in ?a_fraction_in ?l_fraction_in ?c_fraction_in ?k_fraction_in ?a_format_fraction ?l_format_fraction ?c_format_fraction ?k_format_fraction ?a_read_words ?l_read_words ?c_read_words ?k_read_words ?a_format_gains ?l_format_gains ?c_format_gains ?k_format_gains ?a_read_gain ?l_read_gain ?c_read_gain ?k_read_gain ?a_read_gains ?l_read_gains ?c_read_gains ?k_read_gains ?a_format_lot ?l_format_lot ?c_format_lot ?k_format_lot ?a_read_lot ?l_read_lot ?c_read_lot ?k_read_lot ?a_format_parts ?l_format_parts ?c_format_parts ?k_format_parts ?a_read_parts ?l_read_parts ?c_read_parts ?k_read_parts ?a_law_source ?l_law_source ?c_law_source ?k_law_source ?a_law_draw ?l_law_draw ?c_law_draw ?k_law_draw ?a_law_name ?l_law_name ?c_law_name ?k_law_name ?a_law_gcd ?l_law_gcd ?c_law_gcd ?k_law_gcd ?a_law_is_name ?l_law_is_name ?c_law_is_name ?k_law_is_name ?a_law_told ?l_law_told ?c_law_told ?k_law_told ?a_law_fraction ?l_law_fraction ?c_law_fraction ?k_law_fraction ?a_law_gain ?l_law_gain ?c_law_gain ?k_law_gain ?a_law_lot ?l_law_lot ?c_law_lot ?k_law_lot ?a_law_own_number ?l_law_own_number ?c_law_own_number ?k_law_own_number ?a_law_own_integer ?l_law_own_integer ?c_law_own_integer ?k_law_own_integer ?a_law_own_fraction ?l_law_own_fraction ?c_law_own_fraction ?k_law_own_fraction ?a_law_own_gain ?l_law_own_gain ?c_law_own_gain ?k_law_own_gain ?a_law_own_lot ?l_law_own_lot ?c_law_own_lot ?k_law_own_lot ?a_law_own_parts ?l_law_own_parts ?c_law_own_parts ?k_law_own_parts ?a_law_bent ?l_law_bent ?c_law_bent ?k_law_bent ?a_law_lines_fault ?l_law_lines_fault ?c_law_lines_fault ?k_law_lines_fault ?a_law_read_or ?l_law_read_or ?c_law_read_or ?k_law_read_or ?a_law_pairs_dict ?l_law_pairs_dict ?c_law_pairs_dict ?k_law_pairs_dict ?a_law ?l_law ?c_law ?k_law ?xL_BadText ?xR_BadText ?xsa_BadText ?xga_BadText ?xgg_BadText ?xnn_BadText ?xiC_BadText ?xtC_BadText ?xkC_BadText ?xeC_BadText ?xyC_BadText ?xhC_BadText ?xmC_BadText ?xho_BadText ?xhm_BadText ?xhB_BadText ?xtop_BadText ?xfn_BadText ?xcd_BadText ?xca_BadText ?xvf_BadText ?xfe_BadText ?xce_BadText ?xsu_BadText ?xmo_BadText ?te_BadText ?i0_BadText ?i1_BadText ?i2_BadText ?i3_BadText ?i4_BadText ?i5_BadText ?i6_BadText ?i7_BadText ?kit_BadText_BadGame
    (case z_abs => k_is)
    (case z_bool => k_is)
    (case z_dict => k_is)
    (case z_enumerate => k_is)
    (case z_int => k_is)
    (case z_isinstance => k_is)
    (case z_len => k_is)
    (case z_list => k_is)
    (case z_max => k_is)
    (case z_range => k_is)
    (case z_sorted => k_is)
    (case z_str => k_is)
    (case z_sum => k_is)
    (case z_tuple => k_is)
    (case z_super => k_is)
    (case z_gcd => k_is)
    (case z_DIGITS => k_is)
    (case z_LETTERS => k_is)
    (case z_LONGEST_NAME => k_is)
    (case z_LONGEST_NUMBER => k_is)
    (case g_BadGame => k_is)
    (case g_BadText => k_is)
    (case a_is_name => k_is)
    (case l_is_name => k_is)
    (case c_is_name => k_is)
    (case k_is_name => k_is)
    (case a_number_in => k_is)
    (case l_number_in => k_is)
    (case c_number_in => k_is)
    (case k_number_in => k_is)
    (case a_integer_in => k_is)
    (case l_integer_in => k_is)
    (case c_integer_in => k_is)
    (case k_integer_in => k_is)
    (case a_fraction_in => k_is)
    (case l_fraction_in => k_is)
    (case c_fraction_in => k_is)
    (case k_fraction_in => k_is)
    (case a_format_fraction => k_is)
    (case l_format_fraction => k_is)
    (case c_format_fraction => k_is)
    (case k_format_fraction => k_is)
    (case a_read_words => k_is)
    (case l_read_words => k_is)
    (case c_read_words => k_is)
    (case k_read_words => k_is)
    (case a_format_gains => k_is)
    (case l_format_gains => k_is)
    (case c_format_gains => k_is)
    (case k_format_gains => k_is)
    (case a_read_gain => k_is)
    (case l_read_gain => k_is)
    (case c_read_gain => k_is)
    (case k_read_gain => k_is)
    (case a_read_gains => k_is)
    (case l_read_gains => k_is)
    (case c_read_gains => k_is)
    (case k_read_gains => k_is)
    (case a_format_lot => k_is)
    (case l_format_lot => k_is)
    (case c_format_lot => k_is)
    (case k_format_lot => k_is)
    (case a_read_lot => k_is)
    (case l_read_lot => k_is)
    (case c_read_lot => k_is)
    (case k_read_lot => k_is)
    (case a_format_parts => k_is)
    (case l_format_parts => k_is)
    (case c_format_parts => k_is)
    (case k_format_parts => k_is)
    (case a_read_parts => k_is)
    (case l_read_parts => k_is)
    (case c_read_parts => k_is)
    (case k_read_parts => k_is)
    (case a_law_source => k_is)
    (case l_law_source => k_is)
    (case c_law_source => k_is)
    (case k_law_source => k_is)
    (case a_law_draw => k_is)
    (case l_law_draw => k_is)
    (case c_law_draw => k_is)
    (case k_law_draw => k_is)
    (case a_law_name => k_is)
    (case l_law_name => k_is)
    (case c_law_name => k_is)
    (case k_law_name => k_is)
    (case a_law_gcd => k_is)
    (case l_law_gcd => k_is)
    (case c_law_gcd => k_is)
    (case k_law_gcd => k_is)
    (case a_law_is_name => k_is)
    (case l_law_is_name => k_is)
    (case c_law_is_name => k_is)
    (case k_law_is_name => k_is)
    (case a_law_told => k_is)
    (case l_law_told => k_is)
    (case c_law_told => k_is)
    (case k_law_told => k_is)
    (case a_law_fraction => k_is)
    (case l_law_fraction => k_is)
    (case c_law_fraction => k_is)
    (case k_law_fraction => k_is)
    (case a_law_gain => k_is)
    (case l_law_gain => k_is)
    (case c_law_gain => k_is)
    (case k_law_gain => k_is)
    (case a_law_lot => k_is)
    (case l_law_lot => k_is)
    (case c_law_lot => k_is)
    (case k_law_lot => k_is)
    (case a_law_own_number => k_is)
    (case l_law_own_number => k_is)
    (case c_law_own_number => k_is)
    (case k_law_own_number => k_is)
    (case a_law_own_integer => k_is)
    (case l_law_own_integer => k_is)
    (case c_law_own_integer => k_is)
    (case k_law_own_integer => k_is)
    (case a_law_own_fraction => k_is)
    (case l_law_own_fraction => k_is)
    (case c_law_own_fraction => k_is)
    (case k_law_own_fraction => k_is)
    (case a_law_own_gain => k_is)
    (case l_law_own_gain => k_is)
    (case c_law_own_gain => k_is)
    (case k_law_own_gain => k_is)
    (case a_law_own_lot => k_is)
    (case l_law_own_lot => k_is)
    (case c_law_own_lot => k_is)
    (case k_law_own_lot => k_is)
    (case a_law_own_parts => k_is)
    (case l_law_own_parts => k_is)
    (case c_law_own_parts => k_is)
    (case k_law_own_parts => k_is)
    (case a_law_bent => k_is)
    (case l_law_bent => k_is)
    (case c_law_bent => k_is)
    (case k_law_bent => k_is)
    (case a_law_lines_fault => k_is)
    (case l_law_lines_fault => k_is)
    (case c_law_lines_fault => k_is)
    (case k_law_lines_fault => k_is)
    (case a_law_read_or => k_is)
    (case l_law_read_or => k_is)
    (case c_law_read_or => k_is)
    (case k_law_read_or => k_is)
    (case a_law_pairs_dict => k_is)
    (case l_law_pairs_dict => k_is)
    (case c_law_pairs_dict => k_is)
    (case k_law_pairs_dict => k_is)
    (case a_law => k_is)
    (case l_law => k_is)
    (case c_law => k_is)
    (case k_law => k_is)
    (case xL_BadText => k_is)
    (case xR_BadText => rfl)
    (case xsa_BadText => k_is)
    (case xga_BadText => k_is)
    (case xgg_BadText => k_is)
    (case xnn_BadText => k_is)
    (case xiC_BadText => k_is)
    (case xtC_BadText => k_is)
    (case xkC_BadText => k_is)
    (case xeC_BadText => k_is)
    (case xyC_BadText => k_is)
    (case xhC_BadText => k_is)
    (case xmC_BadText => k_is)
    (case xho_BadText => k_is)
    (case xhm_BadText => kernel_rfl)
    (case xhB_BadText => k_is)
    (case xtop_BadText => kernel_rfl)
    (case xfn_BadText => k_is)
    (case xcd_BadText => k_is)
    (case xca_BadText => k_is)
    (case xvf_BadText => rfl)
    (case xfe_BadText => kernel_rfl)
    (case xce_BadText => k_is)
    (case xsu_BadText => exact ⟨_, fun _ _ _ _ => ⟨rfl, rfl⟩⟩)
    (case xmo_BadText => exact PLX.msg_int PLX.fld_line (by decide +kernel) (by decide +kernel) (by decide +kernel))
    (case te_BadText => kernel_rfl)
    (case i0_BadText => kernel_rfl)
    (case i1_BadText => k_is)
    (case i2_BadText => k_is)
    (case i3_BadText => k_is)
    (case i4_BadText => k_is)
    (case i5_BadText => k_is)
    (case i6_BadText => k_is)
    (case i7_BadText => k_is)
    (case kit_BadText_BadGame => kernel_rfl)
