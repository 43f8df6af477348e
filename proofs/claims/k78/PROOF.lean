import PyProof.Rows.All
import Wide.All
import OpenK.AllK
import Wide.FinOn
import HandS.ForMost
import HandS.Exc
import HandS.WordsExc
import HandS.ExcSuper
import HandS.ExcIs
import HandS.ExcField
import KE.KSuper
import KE.KExcSuper
import HandS.TupAny
import HandS.TupMul
import HandS.Wide
import HandS.WideBits
import HandS.Gcd
import HandS.IsInst
import HandS.Walk
import KE.DataEq
import KE.DataCmp
import KE.DataMinMax
import KE.SortData
import KE.GoesEnum
import HandS.ExcInit
import HandS.TryOnly
import KE.KExcIs
import HandS.Ends
import HandS.Small
import HandS.Deep
import HandS.TryMany
import HandS.Text
import HandS.CallLocal
import PyProof.StrOps2
import HandS.More
import HandS.Iter
import HandS.Property
import HandS.Star
import HandS.Zip
import KE.KDictZip
import HandS.Style
import PySem.Challenge.RW_sequencesandadvice_k78_whole_runs_by_let
set_option Elab.async false
set_option linter.all false
set_option maxRecDepth 100000
set_option maxHeartbeats 4000000
/-! PL, part x: an own error class over ValueError whose __init__ says super().__init__('..'); self.f = f -/
namespace PLX
open PySem PySem.W PySem.Calls PySem.Spec PyProof.Rows PySem.HandSPX
section
variable {prog : Program} {w : World} {A : Around} {E : Value → Shared → Prop} {h : Heap} {g : Array GenState} {d : Drawn} {t : Nat} {os : OsState}
variable {nm q : Str} {C N : Addr} {bs bm : List Value} {hdct : Bool} {sn : List Str} {sub : List Value} {ab : Bool} {col : Option Bool} {dd : Option Addr} {k0 k1 k2 k3 k5 : Option Value}
/-- the bound ValueError.__init__ called -/
theorem call_mw {u e t0 : Addr} {rest : List Value} {Q : Value → Shared → Prop} (hm : refsVE bm = true)
    (hC : h.get? C = some (excClassObj nm q C N bs bm hdct sn sub ab col dd k0 k1 k2 k3 k5 "ValueError.__new__")) (he : h.get? e = some (excO C t0)) (hu : h.get? u = some (kxs_mw "ValueError.__init__" e)) (hrest : rest.length ≤ sizeLine)
    (hq : ∀ h' t1, (∀ b o, b ≠ e → h.get? b = some o → h'.get? b = some o) → h'.get? e = some (excO C t1) → Q .none ⟨h', g, d, t, os⟩) :
    wpAny (model prog w) A (call (.ref u) rest) Q E ⟨h, g, d, t, os⟩ := by
  refine wpAny_call (codeAny_of_tree ?_)
  show wpAny _ A.in1 (callAny (.ref u) ⟨rest, []⟩) _ _ _
  simp only [callAny]
  refine wpAny_bind (wpAny_load hu ?_)
  simp only [kxs_mw, show (Value.type "method-wrapper" == Value.type "method" || Value.type "method-wrapper" == Value.type "builtin_function_or_method" || Value.type "method-wrapper" == Value.type "method-wrapper") = true by decide, if_true]
  refine KFB.if_so (by decide) ?_
  refine wpAny_bind (PySem.ESX.check_bound F.excBase_ValueError hC he rfl ?_)
  refine wpAny_bind (wpAny_pure (wpAny_pure ?_))
  refine ⟨Code.quiet_builtin _ (by decide +kernel), codeAny_builtin F.excBase_ValueError.initEntry ?_⟩
  rw [Around.under_plainId F.excBase_ValueError.init.plain _]
  wp_walk
  refine hq _ h.objs.size (fun b o hb ho => ?_) ?_
  · rw [Heap.get?_update_other _ _ (Ne.symm hb)]
    exact Heap.get?_push_of_some _ ho
  · rw [Heap.get?_update_self _ (Heap.get?_push_of_some _ he) rfl]
    rfl
end
end PLX
/-! PL, part a: plain values, the store, how they lie in the abstract heap. -/
namespace PL
open PySem PySem.Spec PyProof.Rows L2
/-- a plain value: tuples and finished lists are trees; frz: a list that is only read; loc: a place of the store; con: any other value -/
inductive PV where
  | non | bl (b : Bool) | int (i : Int) | str (x : Str)
  | tup (xs : List PV) | lst (xs : List PV) | frz (xs : List PV) | loc (l : Nat) | con (v : V)
  | exc (a d : Nat) (ns : List Str) (xs : List PV)
/-- what stands at a place of the store -/
inductive PO where
  | lst (xs : List PV)
  /-- a dict whose keys are ints and texts; the same while a loop walks it -/
  | dic (kvs : List (Key × PV)) | fdic (kvs : List (Key × PV))
  /-- an instance of the class at C, its fields in order -/
  | ins (C : Nat) (fs : List (Str × PV))
abbrev Store := List PO
inductive Res (α : Type) where
  | ok (a : α) (st : Store)
  | err (n : Str) (fs : Option (List (Str × PV))) (st : Store)
  | stuck
def Res.bind {α β : Type} : Res α → (α → Store → Res β) → Res β
  | .ok a st, k => k a st
  | .err n fs st, _ => .err n fs st
  | .stuck, _ => .stuck
/-- the frozen part of the heap, and where the places of the store lie -/
structure Wo where
  F : Hp
  ρ : List Addr
section
variable (K : PySem.W.Frag) (ω : Wo)
mutual
inductive Rep : PV → V → Prop
  | non : Rep .non .non
  | bl (b : Bool) : Rep (.bl b) (.bl b)
  | int (i : Int) : Rep (.int i) (.int i)
  | str (x : Str) : Rep (.str x) (.str x)
  | tup {a : Addr} {vs : List V} {xs : List PV} : ω.F a = some (.tup vs) → Reps xs vs → Rep (.tup xs) (.ref a)
  | lst {a : Addr} {vs : List V} {xs : List PV} : ω.F a = some (.lst vs) → Reps xs vs → Rep (.lst xs) (.ref a)
  | frz {a : Addr} {vs : List V} {xs : List PV} : SqL K ω.F a vs → Reps xs vs → Rep (.frz xs) (.ref a)
  | loc {a : Addr} {l : Nat} : ω.ρ[l]? = some a → Rep (.loc l) (.ref a)
  | con (v : V) : Rep (.con v) v
  | exc {a d : Addr} {ns : List Str} {xs : List PV} {fs : List (Str × V)} : ω.F d = some (.xd fs) → fs.map (·.1) = ns → Reps xs (fs.map (·.2)) → Rep (.exc a d ns xs) (.ref a)
inductive Reps : List PV → List V → Prop
  | nil : Reps [] []
  | cons {x : PV} {xs : List PV} {v : V} {vs : List V} : Rep x v → Reps xs vs → Reps (x :: xs) (v :: vs)
end
end
/-- the frozen part grows, the places stay -/
structure Wo.Le (ω ω' : Wo) : Prop where
  fz : Same ω.F ω'.F
  pre : ∃ r, ω'.ρ = ω.ρ ++ r
theorem Wo.Le.refl (ω : Wo) : ω.Le ω := ⟨Same.refl _, [], by simp⟩
theorem Wo.Le.trans {a b c : Wo} (h : a.Le b) (h' : b.Le c) : a.Le c := by
  obtain ⟨r, e⟩ := h.pre
  obtain ⟨r', e'⟩ := h'.pre
  exact ⟨h.fz.trans h'.fz, r ++ r', by rw [e', e, List.append_assoc]⟩
theorem Wo.Le.at {a b : Wo} (h : a.Le b) {l : Nat} {p : Addr} (e : a.ρ[l]? = some p) : b.ρ[l]? = some p := by
  obtain ⟨r, q⟩ := h.pre
  rw [q]
  have hl : l < a.ρ.length := by
    rcases Nat.lt_or_ge l a.ρ.length with z | z
    · exact z
    · rw [List.getElem?_eq_none z] at e; cases e
  rw [List.getElem?_append_left hl]
  exact e
section
variable {K : PySem.W.Frag} {ω ω' : Wo}
mutual
theorem Rep.mono (h : ω.Le ω') : ∀ {x : PV} {v : V}, Rep K ω x v → Rep K ω' x v
  | _, _, .non => .non
  | _, _, .bl b => .bl b
  | _, _, .int i => .int i
  | _, _, .str x => .str x
  | _, _, .tup e r => .tup (h.fz _ _ e) (Reps.mono h r)
  | _, _, .lst e r => .lst (h.fz _ _ e) (Reps.mono h r)
  | _, _, .frz e r => .frz (h.fz.seq e) (Reps.mono h r)
  | _, _, .loc e => .loc (h.at e)
  | _, _, .con v => .con v
  | _, _, .exc e n r => .exc (h.fz _ _ e) n (Reps.mono h r)
theorem Reps.mono (h : ω.Le ω') : ∀ {xs : List PV} {vs : List V}, Reps K ω xs vs → Reps K ω' xs vs
  | _, _, .nil => .nil
  | _, _, .cons r t => .cons (Rep.mono h r) (Reps.mono h t)
end
theorem Reps.length : ∀ {xs : List PV} {vs : List V}, Reps K ω xs vs → xs.length = vs.length
  | _, _, .nil => rfl
  | _, _, .cons _ t => by simp [Reps.length t]
theorem Reps.get : ∀ {xs : List PV} {vs : List V} {i : Nat} {x : PV}, Reps K ω xs vs → xs[i]? = some x → ∃ v, vs[i]? = some v ∧ Rep K ω x v
  | _, _, _, _, .nil, e => by simp at e
  | _, _, 0, _, .cons r _, e => by simp at e; subst e; exact ⟨_, rfl, r⟩
  | _, _, i + 1, x, .cons _ t, e => by
    obtain ⟨u, h1, h2⟩ := Reps.get (i := i) (x := x) t (by simpa using e)
    exact ⟨u, by simpa using h1, h2⟩
theorem Reps.get' : ∀ {xs : List PV} {vs : List V} {i : Nat} {v : V}, Reps K ω xs vs → vs[i]? = some v → ∃ x, xs[i]? = some x ∧ Rep K ω x v
  | _, _, _, _, .nil, e => by simp at e
  | _, _, 0, _, .cons r _, e => by simp at e; subst e; exact ⟨_, rfl, r⟩
  | _, _, i + 1, x, .cons _ t, e => by
    obtain ⟨u, h1, h2⟩ := Reps.get' (i := i) (v := x) t (by simpa using e)
    exact ⟨u, by simpa using h1, h2⟩
theorem Reps.append : ∀ {xs ys : List PV} {vs ws : List V}, Reps K ω xs vs → Reps K ω ys ws → Reps K ω (xs ++ ys) (vs ++ ws)
  | _, _, _, _, .nil, s => s
  | _, _, _, _, .cons r t, s => .cons r (Reps.append t s)
theorem Reps.take : ∀ {xs : List PV} {vs : List V} (n : Nat), Reps K ω xs vs → Reps K ω (xs.take n) (vs.take n)
  | _, _, 0, _ => by simp; exact .nil
  | _, _, _ + 1, .nil => .nil
  | _, _, n + 1, .cons r t => .cons r (Reps.take n t)
theorem Reps.drop : ∀ {xs : List PV} {vs : List V} (n : Nat), Reps K ω xs vs → Reps K ω (xs.drop n) (vs.drop n)
  | _, _, 0, r => r
  | _, _, _ + 1, .nil => .nil
  | _, _, n + 1, .cons _ t => Reps.drop n t
theorem Reps.set : ∀ {xs : List PV} {vs : List V} {x : PV} {v : V} (i : Nat), Rep K ω x v → Reps K ω xs vs → Reps K ω (xs.set i x) (vs.set i v)
  | _, _, _, _, _, _, .nil => .nil
  | _, _, _, _, 0, q, .cons _ t => .cons q t
  | _, _, _, _, i + 1, q, .cons r t => .cons r (Reps.set i q t)
theorem Reps.replicate : ∀ {xs : List PV} {vs : List V} (n : Nat), Reps K ω xs vs → Reps K ω (List.replicate n xs).flatten (List.replicate n vs).flatten
  | _, _, 0, _ => .nil
  | xs, vs, n + 1, r => by
    rw [List.replicate_succ, List.replicate_succ, List.flatten_cons, List.flatten_cons]
    exact r.append (Reps.replicate n r)
theorem Reps.one {x : PV} {v : V} (r : Rep K ω x v) : Reps K ω [x] [v] := .cons r .nil
end
/-- what a place of the store holds -/
inductive RepD (K : PySem.W.Frag) (ω : Wo) : List (Key × PV) → List (Key × V) → Prop
  | nil : RepD K ω [] []
  | cons {k : Key} {x : PV} {v : V} {xs : List (Key × PV)} {vs : List (Key × V)} : Rep K ω x v → RepD K ω xs vs → RepD K ω ((k, x) :: xs) ((k, v) :: vs)
theorem RepD.mono {K : PySem.W.Frag} {ω ω' : Wo} (h : ω.Le ω') {xs : List (Key × PV)} {vs : List (Key × V)} (r : RepD K ω xs vs) : RepD K ω' xs vs := by
  induction r with
  | nil => exact .nil
  | cons r _ ih => exact .cons (r.mono h) ih
inductive RepF (K : PySem.W.Frag) (ω : Wo) : List (Str × PV) → List (Str × V) → Prop
  | nil : RepF K ω [] []
  | cons {k : Str} {x : PV} {v : V} {xs : List (Str × PV)} {vs : List (Str × V)} : Rep K ω x v → RepF K ω xs vs → RepF K ω ((k, x) :: xs) ((k, v) :: vs)
theorem RepF.mono {K : PySem.W.Frag} {ω ω' : Wo} (h : ω.Le ω') {xs : List (Str × PV)} {vs : List (Str × V)} (r : RepF K ω xs vs) : RepF K ω' xs vs := by
  induction r with
  | nil => exact .nil
  | cons r _ ih => exact .cons (r.mono h) ih
def ObjR (K : PySem.W.Frag) (ω : Wo) (H : Hp) (a : Addr) : PO → Prop
  | .lst xs => ∃ vs, H a = some (.lst vs) ∧ Reps K ω xs vs
  | .dic kvs => ∃ vs, H a = some (.dK vs) ∧ RepD K ω kvs vs
  | .ins C fs => ∃ dx vs, H a = some (.ins C dx vs) ∧ RepF K ω fs vs
  | .fdic kvs => ∃ vs od, ω.F a = some (.frz od (.dK vs)) ∧ H a = some (.frz od (.dK vs)) ∧ RepD K ω kvs vs
theorem ObjR.some {K : PySem.W.Frag} {ω : Wo} {H : Hp} {a : Addr} : ∀ {o : PO}, ObjR K ω H a o → ∃ u, H a = some u
  | .lst _, ⟨_, e, _⟩ => ⟨_, e⟩
  | .dic _, ⟨_, e, _⟩ => ⟨_, e⟩
  | .fdic _, ⟨_, _, _, e, _⟩ => ⟨_, e⟩
  | .ins _ _, ⟨_, _, e, _⟩ => ⟨_, e⟩
theorem ObjR.tr {K : PySem.W.Frag} {ω ω' : Wo} {H H' : Hp} {a : Addr} (le : ω.Le ω') (e : H' a = H a) : ∀ {o : PO}, ObjR K ω H a o → ObjR K ω' H' a o
  | .lst _, ⟨vs, h, r⟩ => ⟨vs, e.trans h, r.mono le⟩
  | .dic _, ⟨vs, h, r⟩ => ⟨vs, e.trans h, r.mono le⟩
  | .fdic _, ⟨vs, od, hF, h, r⟩ => ⟨vs, od, le.fz _ _ hF, e.trans h, r.mono le⟩
  | .ins _ _, ⟨dx, vs, h, r⟩ => ⟨dx, vs, e.trans h, r.mono le⟩
structure Wd (K : PySem.W.Frag) (ω : Wo) (st : Store) (H : Hp) : Prop where
  sub : Same ω.F H
  len : ω.ρ.length = st.length
  nd : ω.ρ.Nodup
  sep : ∀ a ∈ ω.ρ, ω.F a = none ∨ ∃ od u, ω.F a = some (.frz od u)
  obj : ∀ (l : Nat) (a : Addr) (o : PO), ω.ρ[l]? = some a → st[l]? = some o → ObjR K ω H a o
structure Ext (ω : Wo) (H : Hp) (ω' : Wo) (H' : Hp) : Prop where
  le : ω.Le ω'
  oth : ∀ b o, H b = some o → b ∉ ω.ρ → H' b = some o
  live : ∀ b, H b ≠ none → H' b ≠ none
  nF : ∀ b, ω'.F b ≠ none → ω.F b ≠ none ∨ H b = none
  nρ : ∀ b, b ∈ ω'.ρ → b ∈ ω.ρ ∨ H b = none
  fr : ∀ b od u, H b = some (.frz od u) → H' b = some (.frz od u)
theorem Ext.refl (ω : Wo) (H : Hp) : Ext ω H ω H := ⟨.refl ω, fun _ _ h _ => h, fun _ h => h, fun _ h => .inl h, fun _ h => .inl h, fun _ _ _ h => h⟩
theorem Ext.trans {ω1 ω2 ω3 : Wo} {H1 H2 H3 : Hp} (a : Ext ω1 H1 ω2 H2) (b : Ext ω2 H2 ω3 H3) : Ext ω1 H1 ω3 H3 where
  le := a.le.trans b.le
  oth := fun p o h n => b.oth p o (a.oth p o h n) fun m => by
    rcases a.nρ p m with z | z
    · exact n z
    · rw [h] at z; cases z
  live := fun p h => b.live p (a.live p h)
  nF := fun p h => by
    rcases b.nF p h with z | z
    · exact a.nF p z
    · refine .inr ?_
      cases q : H1 p with
      | none => rfl
      | some o => exact absurd z (a.live p (by rw [q]; simp))
  nρ := fun p h => by
    rcases b.nρ p h with z | z
    · exact a.nρ p z
    · refine .inr ?_
      cases q : H1 p with
      | none => rfl
      | some o => exact absurd z (a.live p (by rw [q]; simp))
  fr := fun p od u h => b.fr p od u (a.fr p od u h)
section
variable {K : PySem.W.Frag} {ω ω' : Wo} {st st' : Store} {H H' : Hp}
theorem Wd.lt (h : Wd K ω st H) {l : Nat} {a : Addr} (e : ω.ρ[l]? = some a) : l < st.length := by
  rw [← h.len]
  rcases Nat.lt_or_ge l ω.ρ.length with z | z
  · exact z
  · rw [List.getElem?_eq_none z] at e; cases e
theorem Wd.there (h : Wd K ω st H) {a : Addr} (m : a ∈ ω.ρ) : ∃ u, H a = some u := by
  obtain ⟨l, hl, e⟩ := List.getElem_of_mem m
  have e' : ω.ρ[l]? = some a := by rw [List.getElem?_eq_getElem hl, e]
  have hs := h.lt e'
  exact (h.obj l a st[l] e' (List.getElem?_eq_getElem hs)).some
theorem Wd.ne (h : Wd K ω st H) {a p : Addr} (m : a ∈ ω.ρ) (n : H p = none) : a ≠ p := by
  obtain ⟨u, e⟩ := h.there m
  exact ne_of_none e n
theorem Wd.fresh (h : Wd K ω st H) {p : Addr} (n : H p = none) : ω.F p = none := h.sub.free n
/-- a new object is frozen at once -/
abbrev Wo.fz (ω : Wo) (p : Addr) (o : HO) : Wo := ⟨upd ω.F p o, ω.ρ⟩
theorem Wo.fz_le {p : Addr} {o : HO} (n : ω.F p = none) : ω.Le (ω.fz p o) :=
  ⟨fun b u e => by rw [show (ω.fz p o).F = upd ω.F p o from rfl, upd_ne (ne_of_none e n)]; exact e, [], by simp⟩
theorem Wd.fz (h : Wd K ω st H) {p : Addr} (n : H p = none) (o : HO) : Wd K (ω.fz p o) st (upd H p o) ∧ Ext ω H (ω.fz p o) (upd H p o) := by
  have nF := h.fresh n
  have le := Wo.fz_le (o := o) nF
  refine ⟨⟨fun b u e => ?_, h.len, h.nd, fun a m => ?_, fun l a q e1 e2 => ?_⟩, le, fun b u e m => ?_, fun b z => ?_, fun b z => ?_, fun b m => .inl m, fun b od u e => by rw [upd_ne (ne_of_none e n)]; exact e⟩
  · by_cases hb : b = p
    · subst hb
      have e : upd ω.F b o b = some u := e
      rw [upd_same] at e ⊢
      exact e
    · have e : upd ω.F p o b = some u := e
      rw [upd_ne hb] at e ⊢
      exact h.sub b u e
  · show upd ω.F p o a = none ∨ ∃ od u, upd ω.F p o a = some (.frz od u)
    rw [upd_ne (h.ne m n)]
    exact h.sep a m
  · have hq := h.obj l a q e1 e2
    have na : a ≠ p := h.ne (List.mem_of_getElem? e1) n
    exact hq.tr le (upd_ne na)
  · rw [upd_ne (ne_of_none e n)]
    exact e
  · by_cases hb : b = p
    · subst hb; rw [upd_same]; simp
    · rw [upd_ne hb]; exact z
  · by_cases hb : b = p
    · subst hb; exact .inr n
    · have z : upd ω.F p o b ≠ none := z
      rw [upd_ne hb] at z
      exact .inl z
/-- a new place of the store -/
abbrev Wo.nw (ω : Wo) (p : Addr) : Wo := ⟨ω.F, ω.ρ ++ [p]⟩
theorem Wo.nw_le {p : Addr} : ω.Le (ω.nw p) := ⟨Same.refl _, [p], rfl⟩
theorem Wd.nwO (h : Wd K ω st H) {p : Addr} (n : H p = none) (o : PO) (u : HO) (r : ∀ ω', ω.Le ω' → ObjR K ω' (upd H p u) p o) :
    Wd K (ω.nw p) (st ++ [o]) (upd H p u) ∧ Ext ω H (ω.nw p) (upd H p u) := by
  have nF := h.fresh n
  have le : ω.Le (ω.nw p) := Wo.nw_le
  refine ⟨⟨fun b u e => ?_, ?_, ?_, fun a m => ?_, fun l a q e1 e2 => ?_⟩, le, fun b u e m => ?_, fun b z => ?_, fun b z => .inl z, fun b m => ?_, fun b od u e => by rw [upd_ne (ne_of_none e n)]; exact e⟩
  · rw [upd_ne (ne_of_none (h.sub b u e) n)]
    exact h.sub b u e
  · simp [h.len]
  · refine List.nodup_append.mpr ⟨h.nd, by simp, fun a ha b hb => ?_⟩
    have e : b = p := by simpa using hb
    subst e
    exact h.ne ha n
  · rcases List.mem_append.mp m with m | m
    · exact h.sep a m
    · have e : a = p := by simpa using m
      subst e; exact .inl nF
  · rcases Nat.lt_or_ge l st.length with hl | hl
    · have e1' : ω.ρ[l]? = some a := by
        have e1 : (ω.ρ ++ [p])[l]? = some a := e1
        rw [List.getElem?_append_left (by rw [h.len]; exact hl)] at e1
        exact e1
      rw [List.getElem?_append_left hl] at e2
      have hq := h.obj l a q e1' e2
      have na : a ≠ p := h.ne (List.mem_of_getElem? e1') n
      exact hq.tr le (upd_ne na)
    · have e1 : (ω.ρ ++ [p])[l]? = some a := e1
      rw [List.getElem?_append_right (by rw [h.len]; exact hl)] at e1
      rw [List.getElem?_append_right hl] at e2
      have z : l - st.length = 0 := by
        rcases Nat.eq_zero_or_pos (l - st.length) with z | z
        · exact z
        · rw [List.getElem?_eq_none (by simp only [List.length_singleton]; omega)] at e2; cases e2
      rw [z] at e2
      rw [h.len, z] at e1
      simp only [List.getElem?_cons_zero, Option.some.injEq] at e1 e2
      subst e1
      subst e2
      exact r _ le
  · rw [upd_ne (ne_of_none e n)]
    exact e
  · by_cases hb : b = p
    · subst hb; rw [upd_same]; simp
    · rw [upd_ne hb]; exact z
  · rcases List.mem_append.mp m with m | m
    · exact .inl m
    · have e : b = p := by simpa using m
      subst e; exact .inr n
theorem Wd.nw (h : Wd K ω st H) {p : Addr} (n : H p = none) {xs : List PV} {vs : List V} (r : Reps K ω xs vs) :
    Wd K (ω.nw p) (st ++ [.lst xs]) (upd H p (.lst vs)) ∧ Ext ω H (ω.nw p) (upd H p (.lst vs)) := h.nwO n (.lst xs) (.lst vs) fun _ le => ⟨vs, upd_same, r.mono le⟩
/-- a place of the store is written -/
theorem Wd.wrO (h : Wd K ω st H) {l : Nat} {a : Addr} (e : ω.ρ[l]? = some a) {o0 : HO} (he : H a = some o0) (hn : ∀ od u, o0 ≠ .frz od u) (o : PO) (u : HO) (r : ObjR K ω (upd H a u) a o) :
    Wd K ω (st.set l o) (upd H a u) ∧ Ext ω H ω (upd H a u) := by
  have ma := List.mem_of_getElem? e
  have sepF : ∀ b u, ω.F b = some u → b ≠ a := fun b u q z => by
    subst z
    rcases h.sep b ma with n | ⟨od, u', n⟩
    · rw [n] at q; cases q
    · have := h.sub b _ n
      rw [he] at this
      cases this
      exact hn _ _ rfl
  have hl := h.lt e
  refine ⟨⟨fun b u q => ?_, ?_, h.nd, h.sep, fun l' b q e1 e2 => ?_⟩, .refl ω, fun b u q m => ?_, fun b z => ?_, fun b z => .inl z, fun b m => .inl m, fun b od u' q => ?_⟩
  · rw [upd_ne (sepF b u q)]
    exact h.sub b u q
  · rw [List.length_set]; exact h.len
  · by_cases hll : l' = l
    · subst hll
      rw [e] at e1; cases e1
      rw [List.getElem?_set_self hl] at e2; cases e2
      exact r
    · rw [List.getElem?_set_ne (Ne.symm hll)] at e2
      have hq := h.obj l' b q e1 e2
      have nb : b ≠ a := fun z => by
        subst z
        have h1 : l' < ω.ρ.length := by rw [h.len]; exact h.lt e1
        exact hll ((List.getElem?_inj h1 h.nd).mp (e1.trans e.symm))
      exact hq.tr (.refl ω) (upd_ne nb)
  · have nb : b ≠ a := fun z => m (z ▸ ma)
    rw [upd_ne nb]
    exact q
  · by_cases hb : b = a
    · subst hb; rw [upd_same]; simp
    · rw [upd_ne hb]; exact z
  · have nb : b ≠ a := fun z => by
      subst z
      rw [he] at q
      cases q
      exact hn _ _ rfl
    rw [upd_ne nb]; exact q
theorem Wd.wr (h : Wd K ω st H) {l : Nat} {a : Addr} (e : ω.ρ[l]? = some a) {ys : List V} (he : H a = some (.lst ys)) {xs : List PV} {vs : List V} (r : Reps K ω xs vs) :
    Wd K ω (st.set l (.lst xs)) (upd H a (.lst vs)) ∧ Ext ω H ω (upd H a (.lst vs)) := h.wrO e he (fun _ _ z => nomatch z) (.lst xs) (.lst vs) ⟨vs, upd_same, r⟩
end
/-! ### environments -/
abbrev PEnv := List (Option PV)
structure REnv (K : PySem.W.Frag) (ω : Wo) (env : PEnv) (σ : L2.St) : Prop where
  len : env.length = σ.length
  at' : ∀ (i : Nat) (v : PV), env[i]? = some (some v) → ∃ x, σ[i]? = some (some x) ∧ Rep K ω v x
section
variable {K : PySem.W.Frag} {ω ω' : Wo} {env : PEnv} {σ : L2.St}
theorem REnv.mono (h : REnv K ω env σ) (le : ω.Le ω') : REnv K ω' env σ := ⟨h.len, fun i v e => let ⟨x, e1, r⟩ := h.at' i v e; ⟨x, e1, r.mono le⟩⟩
theorem REnv.set (h : REnv K ω env σ) {v : PV} {x : V} (r : Rep K ω v x) (i : Nat) : REnv K ω (env.set i (some v)) (σ.set i (some x)) := by
  refine ⟨by simp [h.len], fun j u e => ?_⟩
  by_cases hj : i = j
  · subst hj
    by_cases hi : i < env.length
    · rw [List.getElem?_set_self hi] at e
      cases e
      exact ⟨x, List.getElem?_set_self (by rw [← h.len]; exact hi), r⟩
    · rw [List.getElem?_eq_none (by simpa using hi)] at e; cases e
  · rw [List.getElem?_set_ne hj] at e ⊢
    exact h.at' j u e
theorem REnv.unset (h : REnv K ω env σ) (i : Nat) : REnv K ω (env.set i none) (σ.set i none) := by
  refine ⟨by simp [h.len], fun j u e => ?_⟩
  by_cases hj : i = j
  · subst hj
    by_cases hi : i < env.length
    · rw [List.getElem?_set_self hi] at e; cases e
    · rw [List.getElem?_eq_none (by simpa using hi)] at e; cases e
  · rw [List.getElem?_set_ne hj] at e ⊢
    exact h.at' j u e
/-- some slots forgotten -/
def wipeP (env : PEnv) : List Nat → PEnv
  | [] => env
  | v :: vs => (wipeP env vs).set v none
theorem REnv.wipe (h : REnv K ω env σ) : ∀ vs, REnv K ω (wipeP env vs) (L2.wipe σ vs)
  | [] => h
  | v :: vs => (REnv.wipe h vs).unset v
end
/-! ### what is wanted behind -/
/-- the written part and the module's names -/
structure Gd where
  K : PySem.W.Frag
  mg : Str → Option Value
abbrev gd (X : Cx) : Gd := ⟨X.K, X.mg⟩
/-- an exception's own fields, in its dict at d -/
def XRep (K : PySem.W.Frag) (ω : Wo) (H₀ H : Hp) : Option (List (Str × PV)) → Option Addr → Prop
  | none, d => d = none
  | some fs, d => ∃ p vs, d = some p ∧ H₀ p = none ∧ H p = some (.xd vs) ∧ ω.F p = none ∧ p ∉ ω.ρ ∧ fs.map (·.1) = vs.map (·.1) ∧ Reps K ω (fs.map (·.2)) (vs.map (·.2))
theorem XRep.shift {K : PySem.W.Frag} {ω : Wo} {H₀ H₁ H : Hp} {ω₀ ω₁ : Wo} (x : Ext ω₀ H₀ ω₁ H₁) : ∀ {fs : Option (List (Str × PV))} {d : Option Addr}, XRep K ω H₁ H fs d → XRep K ω H₀ H fs d
  | none, _, h => h
  | some _, _, ⟨p, vs, e, n, r⟩ => ⟨p, vs, e, by
      cases q : H₀ p with
      | none => rfl
      | some o => exact absurd n (x.live p (by rw [q]; simp)), r⟩
def After {α β : Type} (G : Gd) (E : XK) (ω : Wo) (H : Hp) (r : Res α) (Rel : Wo → α → β → Prop) (Q : β → Hp → Prop) : Prop :=
  match r with
  | .ok a st' => ∀ ω' H' x, Ext ω H ω' H' → Wd G.K ω' st' H' → Rel ω' a x → Q x H'
  | .err n fs st' => ∀ ω' H' d cls, Ext ω H ω' H' → Wd G.K ω' st' H' → G.mg n = some cls → XRep G.K ω' H H' fs d → E cls d H'
  | .stuck => False
section
variable {α β γ δ : Type} {G : Gd} {E : XK} {ω ω1 : Wo} {H H1 : Hp}
theorem After.shift {r : Res α} {Rel : Wo → α → β → Prop} {Q : β → Hp → Prop} (h : After G E ω H r Rel Q) (x : Ext ω H ω1 H1) : After G E ω1 H1 r Rel Q := by
  cases r with
  | ok a st' => exact fun ω' H' y e w r => h ω' H' y (x.trans e) w r
  | err n fs st' => exact fun ω' H' d cls e w r y => h ω' H' d cls (x.trans e) w r (y.shift x)
  | stuck => exact h
theorem After.bind {r : Res α} {k : α → Store → Res γ} {Rel : Wo → α → β → Prop} {Rel' : Wo → γ → δ → Prop} {Q : δ → Hp → Prop} (h : After G E ω H (r.bind k) Rel' Q) :
    After G E ω H r Rel fun x H1 => ∃ ω1 st1 a, Ext ω H ω1 H1 ∧ Wd G.K ω1 st1 H1 ∧ Rel ω1 a x ∧ After G E ω1 H1 (k a st1) Rel' Q := by
  cases r with
  | ok a st' => exact fun ω' H' y e w q => ⟨ω', st', a, e, w, q, After.shift h e⟩
  | err n fs st' => exact h
  | stuck => exact h
theorem After.mono {r : Res α} {Rel : Wo → α → β → Prop} {Q Q' : β → Hp → Prop} (h : After G E ω H r Rel Q) (hq : ∀ x H', Q x H' → Q' x H') : After G E ω H r Rel Q' := by
  cases r with
  | ok a st' => exact fun ω' H' y e w q => hq _ _ (h ω' H' y e w q)
  | err n fs st' => exact h
  | stuck => exact h
theorem After.ok_here {a : α} {st : Store} {b : β} {Rel : Wo → α → β → Prop} {Q : β → Hp → Prop} (h : After G E ω H (.ok a st) Rel Q) (w : Wd G.K ω st H) (r : Rel ω a b) : Q b H := h ω H b (.refl ω H) w r
end
end PL
/-! PL, part b: expressions. -/
namespace PL
open PySem PySem.Spec PyProof.Rows L2
abbrev EM := PEnv → Store → Res PV
abbrev AM := PEnv → Store → Res (List PV)
abbrev TM := PEnv → Store → Res Bool
abbrev OM := PEnv → Store → Res (Option Int)
abbrev RV (K : PySem.W.Frag) : Wo → PV → V → Prop := fun ω v x => Rep K ω v x
abbrev RL (K : PySem.W.Frag) : Wo → List PV → List V → Prop := fun ω v x => Reps K ω v x
abbrev RQ {α : Type} : Wo → α → α → Prop := fun _ a b => a = b
abbrev wx (W : WX) (σ : L2.St) : XK := fun c d H => W c d σ H
/-- the reading by a plain function -/
def tG {α β : Type} (X : Cx) (W : WX) (Rel : Wo → α → β → Prop) (f : PEnv → Store → Res α) : L2.St → Hp → (β → Hp → Prop) → Prop :=
  fun σ H Q => ∃ ω st env, Wd X.K ω st H ∧ REnv X.K ω env σ ∧ After (gd X) (wx W σ) ω H (f env st) Rel Q
abbrev ME (X : Cx) (W : WX) (e : Expr) (f : EM) : Prop := PE X e (tG X W (RV X.K) f)
abbrev MT (X : Cx) (W : WX) (e : Expr) (f : TM) : Prop := PT X e (tG X W RQ f)
abbrev MW (X : Cx) (W : WX) (e : Expr) (f : TM) : Prop := PW X e (tG X W RQ f)
abbrev MA (X : Cx) (W : WX) (es : List Expr) (f : AM) : Prop := PA X es (tG X W (RL X.K) f)
abbrev MO (X : Cx) (W : WX) (e : Option Expr) (f : OM) : Prop := L2.PO X e (tG X W RQ f)
section
variable {X : Cx}
theorem peI {e : Expr} {t t' : TE} (h : PE X e t) (i : ∀ σ H Q, t' σ H Q → t σ H Q) : PE X e t' := ⟨fun pins s σ H Q I q => h.run pins s σ H Q I (i σ H Q q)⟩
theorem ptI {e : Expr} {t t' : TT} (h : PT X e t) (i : ∀ σ H Q, t' σ H Q → t σ H Q) : PT X e t' := ⟨fun pins s σ H Q I q => h.run pins s σ H Q I (i σ H Q q)⟩
theorem pwI {e : Expr} {t t' : TT} (h : PW X e t) (i : ∀ σ H Q, t' σ H Q → t σ H Q) : PW X e t' := ⟨fun wh pins s σ H Q I q => h.run wh pins s σ H Q I (i σ H Q q)⟩
theorem paI {e : List Expr} {t t' : TA} (h : PA X e t) (i : ∀ σ H Q, t' σ H Q → t σ H Q) : PA X e t' := ⟨fun pos pins s σ H Q I q => h.run pos pins s σ H Q I (i σ H Q q)⟩
theorem poI {e : Option Expr} {t t' : TO} (h : L2.PO X e t) (i : ∀ σ H Q, t' σ H Q → t σ H Q) : L2.PO X e t' := ⟨fun pins s σ H Q I q => h.run pins s σ H Q I (i σ H Q q)⟩
theorem psI {e : Stmt} {t t' : TS} (h : PS X e t) (i : ∀ D σ H, t' D σ H → t D σ H) : PS X e t' := ⟨fun pins s σ H D I q => h.run pins s σ H D I (i D σ H q)⟩
theorem pssI {e : List Stmt} {t t' : TS} (h : PSs X e t) (i : ∀ D σ H, t' D σ H → t D σ H) : PSs X e t' := ⟨fun pins s σ H D I q => h.run pins s σ H D I (i D σ H q)⟩
end
/-! ### names, constants -/
def eVar (i : Nat) : EM := fun env st => match env[i]? with
  | some (some v) => .ok v st
  | _ => .stuck
def eC (v : PV) : EM := fun _ st => .ok v st
section
variable {X : Cx} {W : WX} {pos : Pos}
theorem me_var (i : Nat) {x : Str} (hN : X.N[i]? = some x := by rfl) (hv : Vis X.env.scope x := by first | exact Or.inl rfl | exact Or.inr (Or.inl rfl) | exact Or.inr (Or.inr rfl)) (hd : (x == ("__debug__" : Str)) = false := by decide)
    (hcd : (x == ("__classdict__" : Str)) = false := by decide) : ME X W (.Name x pos) (eVar i) := by
  refine peI (pe_var hN hv hd hcd) ?_
  rintro σ H Q ⟨ω, st, env, wd, re, h⟩
  unfold eVar at h
  split at h
  · rename_i v e
    obtain ⟨y, e', r⟩ := re.at' i v e
    exact ⟨y, e', h.ok_here wd r⟩
  · exact False.elim h
theorem me_c {e : Expr} {v : V} {p : PV} (h : PE X e (tC v)) (r : ∀ ω, Rep X.K ω p v) : ME X W e (eC p) :=
  peI h fun σ H Q ⟨ω, st, env, wd, re, h⟩ => h.ok_here wd (r ω)
theorem me_int {i : Int} {j} : ME X W (.Constant (.int i) j pos) (eC (.int i)) := me_c pe_int fun _ => .int i
theorem me_bl {b : Bool} {j} : ME X W (.Constant (.bool b) j pos) (eC (.bl b)) := me_c pe_bl fun _ => .bl b
theorem me_non {j} : ME X W (.Constant .none j pos) (eC .non) := me_c pe_non fun _ => .non
theorem me_str {x : Str} {j} : ME X W (.Constant (.str x) j pos) (eC (.str x)) := me_c pe_str fun _ => .str x
/-- a module's constant -/
theorem me_gstr {x z : Str} {t : Tok} (hg : Gl X x) (hm : X.mg x = some (.str z t)) (hd : (x == ("__debug__" : Str)) = false := by decide) : ME X W (.Name x pos) (eC (.str z)) := me_c (pe_glob (v := .str z) hg hm ⟨t, rfl⟩ hd) fun _ => .str z
theorem me_gint {x : Str} {z : Int} {t : Tok} (hg : Gl X x) (hm : X.mg x = some (.int z t)) (hd : (x == ("__debug__" : Str)) = false := by decide) : ME X W (.Name x pos) (eC (.int z)) := me_c (pe_glob (v := .int z) hg hm ⟨t, rfl⟩ hd) fun _ => .int z
/-- a module's class or def, a built-in type, as a value -/
theorem me_gval {x : Str} {v : V} {u : Value} (hg : Gl X x) (hm : X.mg x = some u) (r : RelV v u) (hd : (x == ("__debug__" : Str)) = false := by decide) : ME X W (.Name x pos) (eC (.con v)) := me_c (pe_glob hg hm r hd) fun _ => .con v
theorem me_bval {x : Str} {v : V} {u : Value} (hg : Gl X x) (hm : X.mg x = none) (hv : bootBuiltins x = some u) (r : RelV v u) (hn : x ≠ "__name__" := by decide) (hd : (x == ("__debug__" : Str)) = false := by decide) : ME X W (.Name x pos) (eC (.con v)) :=
  me_c (pe_bltn hg hm hv r hn hd) fun _ => .con v
end
/-! ### operations of two and of one -/
def OpS (X : Cx) (f : Value → Value → Sem Value) (p : PV → PV → Store → Res PV) : Prop :=
  ∃ r, OpR X f r ∧ ∀ (E : XK) (ω : Wo) (st : Store) (H : Hp) (v w : PV) (x y : V) (Q : VK), Wd X.K ω st H → Rep X.K ω v x → Rep X.K ω w y → After (gd X) E ω H (p v w st) (RV X.K) Q → r x y H Q
def UnS (X : Cx) (f : Value → Sem Value) (p : PV → Store → Res PV) : Prop :=
  ∃ r, UnR X f r ∧ ∀ (E : XK) (ω : Wo) (st : Store) (H : Hp) (v : PV) (x : V) (Q : VK), Wd X.K ω st H → Rep X.K ω v x → After (gd X) E ω H (p v st) (RV X.K) Q → r x H Q
def eBin (p : PV → PV → Store → Res PV) (fa fb : EM) : EM := fun env st => (fa env st).bind fun v st1 => (fb env st1).bind fun w st2 => p v w st2
def eUn (p : PV → Store → Res PV) (fa : EM) : EM := fun env st => (fa env st).bind fun v st1 => p v st1
/-- a value that is to be a bool -/
def pTruth (v : PV) (st : Store) : Res Bool := match v with
  | .bl b => .ok b st
  | _ => .stuck
def eTest (f : EM) : TM := fun env st => (f env st).bind pTruth
def eChain (p p' : PV → PV → Store → Res PV) (fa fb fc : EM) : EM := fun env st => (fa env st).bind fun v st1 => (fb env st1).bind fun w st2 => (p v w st2).bind fun z st3 =>
  match z with
  | .bl true => (fc env st3).bind fun u st4 => p' w u st4
  | .bl false => .ok (.bl false) st3
  | _ => .stuck
section
variable {X : Cx} {W : WX} {pos : Pos} {a b c : Expr} {fa fb fc : EM}
theorem bin_step {r : R2} {p : PV → PV → Store → Res PV} (hi : ∀ (E : XK) (ω : Wo) (st : Store) (H : Hp) (v w : PV) (x y : V) (Q : VK), Wd X.K ω st H → Rep X.K ω v x → Rep X.K ω w y → After (gd X) E ω H (p v w st) (RV X.K) Q → r x y H Q)
    {σ : L2.St} {H : Hp} {Q : VK} (h : tG X W (RV X.K) (eBin p fa fb) σ H Q) : tOp r (tG X W (RV X.K) fa) (tG X W (RV X.K) fb) σ H Q := by
  obtain ⟨ω, st, env, wd, re, h⟩ := h
  refine ⟨ω, st, env, wd, re, (After.bind (Rel := RV X.K) h).mono ?_⟩
  rintro x H1 ⟨ω1, st1, v, e1, wd1, r1, h1⟩
  refine ⟨ω1, st1, env, wd1, re.mono e1.le, (After.bind (Rel := RV X.K) h1).mono ?_⟩
  rintro y H2 ⟨ω2, st2, w, e2, wd2, r2, h2⟩
  exact hi _ ω2 st2 H2 v w x y Q wd2 (r1.mono e2.le) r2 h2
theorem test_step {f : EM} {σ : L2.St} {H : Hp} {Q : Bool → Hp → Prop} (h : tG X W RQ (eTest f) σ H Q) : tG X W (RV X.K) f σ H (fun x H1 => ∃ k, x = .bl k ∧ Q k H1) := by
  obtain ⟨ω, st, env, wd, re, h⟩ := h
  refine ⟨ω, st, env, wd, re, (After.bind (Rel := RV X.K) h).mono ?_⟩
  rintro x H1 ⟨ω1, st1, v, e1, wd1, r1, h1⟩
  unfold pTruth at h1
  split at h1
  · cases r1
    exact ⟨_, rfl, h1.ok_here wd1 rfl⟩
  · exact False.elim h1
theorem me_bin {op : Operator} {p} (ho : OpS X (binaryOp op) p) (ha : ME X W a fa) (hb : ME X W b fb) : ME X W (.BinOp a op b pos) (eBin p fa fb) := by
  obtain ⟨r, hr, hi⟩ := ho
  exact peI (pe_op hr ha hb) fun σ H Q h => bin_step hi h
theorem me_un {op : UnaryOp} {p} (ho : UnS X (unaryOp op) p) (ha : ME X W a fa) : ME X W (.UnaryOp op a pos) (eUn p fa) := by
  obtain ⟨r, hr, hi⟩ := ho
  refine peI (pe_un hr ha) ?_
  rintro σ H Q ⟨ω, st, env, wd, re, h⟩
  refine ⟨ω, st, env, wd, re, (After.bind (Rel := RV X.K) h).mono ?_⟩
  rintro x H1 ⟨ω1, st1, v, e1, wd1, r1, h1⟩
  exact hi _ ω1 st1 H1 v x Q wd1 r1 h1
theorem me_cmp {op : CmpOp} {p} (ho : OpS X (compareOp op) p) (ha : ME X W a fa) (hb : ME X W b fb) (hm : behindInMarks op b = false := by first | exact nomark _ | rfl) : ME X W (.Compare a [op] [b] pos) (eBin p fa fb) := by
  obtain ⟨r, hr, hi⟩ := ho
  exact peI (pe_cmpR hr ha hb hm) fun σ H Q h => bin_step hi h
theorem mt_cmp {op : CmpOp} {p} (ho : OpS X (compareOp op) p) (ha : ME X W a fa) (hb : ME X W b fb) (hm : behindInMarks op b = false := by first | exact nomark _ | rfl) : MT X W (.Compare a [op] [b] pos) (eTest (eBin p fa fb)) := by
  obtain ⟨r, hr, hi⟩ := ho
  exact ptI (pt_cmpR hr ha hb hm) fun σ H Q h => bin_step hi (test_step h)
theorem chain_step {r r' : R2} {p p' : PV → PV → Store → Res PV} (hi : ∀ (E : XK) (ω : Wo) (st : Store) (H : Hp) (v w : PV) (x y : V) (Q : VK), Wd X.K ω st H → Rep X.K ω v x → Rep X.K ω w y → After (gd X) E ω H (p v w st) (RV X.K) Q → r x y H Q)
    (hi' : ∀ (E : XK) (ω : Wo) (st : Store) (H : Hp) (v w : PV) (x y : V) (Q : VK), Wd X.K ω st H → Rep X.K ω v x → Rep X.K ω w y → After (gd X) E ω H (p' v w st) (RV X.K) Q → r' x y H Q)
    {σ : L2.St} {H : Hp} {Q : VK} (h : tG X W (RV X.K) (eChain p p' fa fb fc) σ H Q) : tChain r r' (tG X W (RV X.K) fa) (tG X W (RV X.K) fb) (tG X W (RV X.K) fc) σ H Q := by
  obtain ⟨ω, st, env, wd, re, h⟩ := h
  refine ⟨ω, st, env, wd, re, (After.bind (Rel := RV X.K) h).mono ?_⟩
  rintro x H1 ⟨ω1, st1, v, e1, wd1, r1, h1⟩
  refine ⟨ω1, st1, env, wd1, re.mono e1.le, (After.bind (Rel := RV X.K) h1).mono ?_⟩
  rintro y H2 ⟨ω2, st2, w, e2, wd2, r2, h2⟩
  refine hi _ ω2 st2 H2 v w x y _ wd2 (r1.mono e2.le) r2 ((After.bind (Rel := RV X.K) h2).mono ?_)
  rintro z H3 ⟨ω3, st3, u, e3, wd3, r3, h3⟩
  split at h3
  · cases r3
    refine ⟨true, rfl, iteT ?_⟩
    refine ⟨ω3, st3, env, wd3, re.mono (e1.le.trans (e2.le.trans e3.le)), (After.bind (Rel := RV X.K) h3).mono ?_⟩
    rintro q H4 ⟨ω4, st4, u4, e4, wd4, r4, h4⟩
    exact hi' _ ω4 st4 H4 _ _ _ _ Q wd4 (r2.mono (e3.le.trans e4.le)) r4 h4
  · cases r3
    exact ⟨false, rfl, iteF (h3.ok_here wd3 (.bl false))⟩
  · exact False.elim h3
theorem me_chain {op op' : CmpOp} {p p'} (ho : OpS X (compareOp op) p) (ho' : OpS X (compareOp op') p') (ha : ME X W a fa) (hb : ME X W b fb) (hc : ME X W c fc)
    (hm : lastMarks [op, op'] [b, c] = false := by with_unfolding_all rfl) : ME X W (.Compare a [op, op'] [b, c] pos) (eChain p p' fa fb fc) := by
  obtain ⟨r, hr, hi⟩ := ho
  obtain ⟨r', hr', hi'⟩ := ho'
  exact peI (pe_chain hr hr' ha hb hc hm) fun σ H Q h => chain_step hi hi' h
theorem mt_chain {op op' : CmpOp} {p p'} (ho : OpS X (compareOp op) p) (ho' : OpS X (compareOp op') p') (ha : ME X W a fa) (hb : ME X W b fb) (hc : ME X W c fc)
    (hm : lastMarks [op, op'] [b, c] = false := by with_unfolding_all rfl) : MT X W (.Compare a [op, op'] [b, c] pos) (eTest (eChain p p' fa fb fc)) := by
  obtain ⟨r, hr, hi⟩ := ho
  obtain ⟨r', hr', hi'⟩ := ho'
  exact ptI (pt_chain hr hr' ha hb hc hm) fun σ H Q h => chain_step hi hi' (test_step h)
/-- an expression as a test -/
theorem mt_val {e : Expr} {f : EM} (h : ME X W e f) (he : ∀ whole, isTrue e X.env whole = (do let v ← whole; standAt e.pos; holding [v] (truthy v)) := by intro _; rfl) : MT X W e (eTest f) :=
  ptI (pt_val h he) fun σ H Q h => test_step h
/-! ### and, or, not, if -/
def tAndM (f g : TM) : TM := fun env st => (f env st).bind fun b st1 => if b = true then g env st1 else .ok false st1
def tOrM (f g : TM) : TM := fun env st => (f env st).bind fun b st1 => if b = true then .ok true st1 else g env st1
def tNotM (f : TM) : TM := fun env st => (f env st).bind fun b st1 => .ok (!b) st1
variable {ta tb : TM} {rest : List Expr}
theorem mw_and1 (ha : MT X W a ta) : MW X W (.BoolOp .And [a] pos) ta := pw_and1 ha
theorem mw_or1 (ha : MT X W a ta) : MW X W (.BoolOp .Or [a] pos) ta := pw_or1 ha
theorem mw_and (ha : MT X W a ta) (hb : MW X W (.BoolOp .And (b :: rest) pos) tb) : MW X W (.BoolOp .And (a :: b :: rest) pos) (tAndM ta tb) := by
  refine pwI (pw_and ha hb) ?_
  rintro σ H Q ⟨ω, st, env, wd, re, h⟩
  refine ⟨ω, st, env, wd, re, (After.bind (Rel := RQ) h).mono ?_⟩
  rintro x H1 ⟨ω1, st1, v, e1, wd1, r1, h1⟩
  have r1 : v = x := r1
  subst r1
  cases v with
  | true => exact iteT ⟨ω1, st1, env, wd1, re.mono e1.le, by simpa using h1⟩
  | false => exact iteF ((show After (gd X) (wx W σ) ω1 H1 (.ok false st1) RQ Q by simpa using h1).ok_here wd1 rfl)
theorem mw_or (ha : MT X W a ta) (hb : MW X W (.BoolOp .Or (b :: rest) pos) tb) : MW X W (.BoolOp .Or (a :: b :: rest) pos) (tOrM ta tb) := by
  refine pwI (pw_or ha hb) ?_
  rintro σ H Q ⟨ω, st, env, wd, re, h⟩
  refine ⟨ω, st, env, wd, re, (After.bind (Rel := RQ) h).mono ?_⟩
  rintro x H1 ⟨ω1, st1, v, e1, wd1, r1, h1⟩
  have r1 : v = x := r1
  subst r1
  cases v with
  | true => exact iteT ((show After (gd X) (wx W σ) ω1 H1 (.ok true st1) RQ Q by simpa using h1).ok_here wd1 rfl)
  | false => exact iteF ⟨ω1, st1, env, wd1, re.mono e1.le, by simpa using h1⟩
theorem mt_not (ha : MT X W a ta) : MT X W (.UnaryOp .Not a pos) (tNotM ta) := by
  refine ptI (pt_not ha) ?_
  rintro σ H Q ⟨ω, st, env, wd, re, h⟩
  refine ⟨ω, st, env, wd, re, (After.bind (Rel := RQ) h).mono ?_⟩
  rintro x H1 ⟨ω1, st1, v, e1, wd1, r1, h1⟩
  have r1 : v = x := r1
  subst r1
  exact h1.ok_here wd1 rfl
def eAndV (f g : EM) : EM := fun env st => (f env st).bind fun v st1 => match v with
  | .bl true => g env st1
  | .bl false => .ok (.bl false) st1
  | _ => .stuck
def eOrV (f g : EM) : EM := fun env st => (f env st).bind fun v st1 => match v with
  | .bl true => .ok (.bl true) st1
  | .bl false => g env st1
  | _ => .stuck
def eNotV (f : EM) : EM := fun env st => (f env st).bind fun v st1 => match v with
  | .bl b => .ok (.bl (!b)) st1
  | _ => .stuck
theorem me_one {op} (h : ME X W a fa) : ME X W (.BoolOp op [a] pos) fa := pe_one h
theorem me_and (ha : ME X W a fa) (hb : ME X W (.BoolOp .And (b :: rest) pos) fb) : ME X W (.BoolOp .And (a :: b :: rest) pos) (eAndV fa fb) := by
  refine peI (pe_and ha hb) ?_
  rintro σ H Q ⟨ω, st, env, wd, re, h⟩
  refine ⟨ω, st, env, wd, re, (After.bind (Rel := RV X.K) h).mono ?_⟩
  rintro x H1 ⟨ω1, st1, v, e1, wd1, r1, h1⟩
  split at h1
  · cases r1
    exact ⟨true, rfl, iteT ⟨ω1, st1, env, wd1, re.mono e1.le, h1⟩⟩
  · cases r1
    exact ⟨false, rfl, iteF (h1.ok_here wd1 (.bl false))⟩
  · exact False.elim h1
theorem me_or (ha : ME X W a fa) (hb : ME X W (.BoolOp .Or (b :: rest) pos) fb) : ME X W (.BoolOp .Or (a :: b :: rest) pos) (eOrV fa fb) := by
  refine peI (pe_or ha hb) ?_
  rintro σ H Q ⟨ω, st, env, wd, re, h⟩
  refine ⟨ω, st, env, wd, re, (After.bind (Rel := RV X.K) h).mono ?_⟩
  rintro x H1 ⟨ω1, st1, v, e1, wd1, r1, h1⟩
  split at h1
  · cases r1
    exact ⟨true, rfl, iteT (h1.ok_here wd1 (.bl true))⟩
  · cases r1
    exact ⟨false, rfl, iteF ⟨ω1, st1, env, wd1, re.mono e1.le, h1⟩⟩
  · exact False.elim h1
theorem me_not (ha : ME X W a fa) : ME X W (.UnaryOp .Not a pos) (eNotV fa) := by
  refine peI (pe_not ha) ?_
  rintro σ H Q ⟨ω, st, env, wd, re, h⟩
  refine ⟨ω, st, env, wd, re, (After.bind (Rel := RV X.K) h).mono ?_⟩
  rintro x H1 ⟨ω1, st1, v, e1, wd1, r1, h1⟩
  split at h1
  · cases r1
    exact ⟨_, rfl, h1.ok_here wd1 (.bl _)⟩
  · exact False.elim h1
def eIf (c : TM) (f g : EM) : EM := fun env st => (c env st).bind fun b st1 => if b = true then f env st1 else g env st1
theorem me_if (hc : MT X W c ta) (ha : ME X W a fa) (hb : ME X W b fb) : ME X W (.IfExp c a b pos) (eIf ta fa fb) := by
  refine peI (pe_ifExp hc ha hb) ?_
  rintro σ H Q ⟨ω, st, env, wd, re, h⟩
  refine ⟨ω, st, env, wd, re, (After.bind (Rel := RQ) h).mono ?_⟩
  rintro x H1 ⟨ω1, st1, v, e1, wd1, r1, h1⟩
  have r1 : v = x := r1
  subst r1
  cases v with
  | true => exact iteT ⟨ω1, st1, env, wd1, re.mono e1.le, by simpa using h1⟩
  | false => exact iteF ⟨ω1, st1, env, wd1, re.mono e1.le, by simpa using h1⟩
end
/-! ### arguments, displays, calls -/
def aNil : AM := fun _ st => .ok [] st
def aCons (f : EM) (g : AM) : AM := fun env st => (f env st).bind fun v st1 => (g env st1).bind fun vs st2 => .ok (v :: vs) st2
section
variable {X : Cx} {W : WX} {pos : Pos} {e : Expr} {es : List Expr} {f : EM} {fs : AM}
theorem ma_nil : MA X W [] aNil := paI pa_nil fun σ H Q ⟨ω, st, env, wd, re, h⟩ => h.ok_here wd .nil
theorem ma_cons (ha : ME X W e f) (hr : MA X W es fs) (hs : starEach (e :: es) X.env = (false, eval e X.env) :: starEach es X.env := by rfl) : MA X W (e :: es) (aCons f fs) := by
  refine paI (pa_cons ha hr hs) ?_
  rintro σ H Q ⟨ω, st, env, wd, re, h⟩
  refine ⟨ω, st, env, wd, re, (After.bind (Rel := RV X.K) h).mono ?_⟩
  rintro x H1 ⟨ω1, st1, v, e1, wd1, r1, h1⟩
  refine ⟨ω1, st1, env, wd1, re.mono e1.le, (After.bind (Rel := RL X.K) h1).mono ?_⟩
  rintro xs H2 ⟨ω2, st2, vs, e2, wd2, r2, h2⟩
  exact h2.ok_here wd2 (.cons (r1.mono e2.le) r2)
/-- a new tuple, a new list that is not changed, a new place of the store -/
theorem new_tup {E : XK} {ω : Wo} {st : Store} {H : Hp} {xs : List V} {vs : List PV} {Q : VK} (wd : Wd X.K ω st H) (r : Reps X.K ω vs xs) (h : After (gd X) E ω H (.ok (.tup vs) st) (RV X.K) Q) (p : Addr) (n : H p = none) : Q (.ref p) (upd H p (.tup xs)) := by
  obtain ⟨w, e⟩ := wd.fz n (.tup xs)
  exact h _ _ _ e w (.tup upd_same (r.mono e.le))
theorem new_lst {E : XK} {ω : Wo} {st : Store} {H : Hp} {xs : List V} {vs : List PV} {Q : VK} (wd : Wd X.K ω st H) (r : Reps X.K ω vs xs) (h : After (gd X) E ω H (.ok (.lst vs) st) (RV X.K) Q) (p : Addr) (n : H p = none) : Q (.ref p) (upd H p (.lst xs)) := by
  obtain ⟨w, e⟩ := wd.fz n (.lst xs)
  exact h _ _ _ e w (.lst upd_same (r.mono e.le))
theorem new_loc {E : XK} {ω : Wo} {st : Store} {H : Hp} {xs : List V} {vs : List PV} {Q : VK} (wd : Wd X.K ω st H) (r : Reps X.K ω vs xs) (h : After (gd X) E ω H (.ok (.loc st.length) (st ++ [.lst vs])) (RV X.K) Q) (p : Addr) (n : H p = none) : Q (.ref p) (upd H p (.lst xs)) := by
  obtain ⟨w, e⟩ := wd.nw n r
  refine h _ _ _ e w (.loc ?_)
  rw [← wd.len]
  simp
def mkTup (vs : List PV) (st : Store) : Res PV := if vs.length ≤ sizeLine then .ok (.tup vs) st else .stuck
def mkLst (vs : List PV) (st : Store) : Res PV := if vs.length ≤ sizeLine then .ok (.lst vs) st else .stuck
def mkLoc (vs : List PV) (st : Store) : Res PV := if vs.length ≤ sizeLine then .ok (.loc st.length) (st ++ [.lst vs]) else .stuck
def eArgs (p : List PV → Store → Res PV) (fs : AM) : EM := fun env st => (fs env st).bind p
theorem args_step {p : List PV → Store → Res PV} {R : List V → Hp → VK → Prop} (hi : ∀ (E : XK) (ω : Wo) (st : Store) (H : Hp) (vs : List PV) (xs : List V) (Q : VK), Wd X.K ω st H → Reps X.K ω vs xs → After (gd X) E ω H (p vs st) (RV X.K) Q → R xs H Q)
    {σ : L2.St} {H : Hp} {Q : VK} (h : tG X W (RV X.K) (eArgs p fs) σ H Q) : tG X W (RL X.K) fs σ H (fun xs H1 => R xs H1 Q) := by
  obtain ⟨ω, st, env, wd, re, h⟩ := h
  refine ⟨ω, st, env, wd, re, (After.bind (Rel := RL X.K) h).mono ?_⟩
  rintro x H1 ⟨ω1, st1, v, e1, wd1, r1, h1⟩
  exact hi _ ω1 st1 H1 v x Q wd1 r1 h1
theorem me_tup {x1} (h : MA X W es fs) : ME X W (.Tuple es x1 pos) (eArgs mkTup fs) := by
  refine peI (pe_tup h) fun σ H Q q => args_step (R := fun xs H1 Q => xs.length ≤ sizeLine ∧ ∀ p, H1 p = none → Q (.ref p) (upd H1 p (.tup xs))) ?_ q
  intro E ω st H vs xs Q wd r h
  unfold mkTup at h
  split at h
  · exact ⟨by rw [← r.length]; assumption, new_tup wd r h⟩
  · exact False.elim h
theorem me_lst (h : MA X W es fs) : ME X W (.List es pos) (eArgs mkLst fs) := by
  refine peI (pe_lst h) fun σ H Q q => args_step (R := fun xs H1 Q => xs.length ≤ sizeLine ∧ ∀ p, H1 p = none → Q (.ref p) (upd H1 p (.lst xs))) ?_ q
  intro E ω st H vs xs Q wd r h
  unfold mkLst at h
  split at h
  · exact ⟨by rw [← r.length]; assumption, new_lst wd r h⟩
  · exact False.elim h
theorem me_loc (h : MA X W es fs) : ME X W (.List es pos) (eArgs mkLoc fs) := by
  refine peI (pe_lst h) fun σ H Q q => args_step (R := fun xs H1 Q => xs.length ≤ sizeLine ∧ ∀ p, H1 p = none → Q (.ref p) (upd H1 p (.lst xs))) ?_ q
  intro E ω st H vs xs Q wd r h
  unfold mkLoc at h
  split at h
  · exact ⟨by rw [← r.length]; assumption, new_loc wd r h⟩
  · exact False.elim h
/-! ### built-ins, called -/
def CallS (X : Cx) (f : Value) (p : List PV → Store → Res PV) : Prop :=
  ∃ r, CallR X f r ∧ ∀ (E : XK) (ω : Wo) (st : Store) (H : Hp) (vs : List PV) (xs : List V) (Q : VK), Wd X.K ω st H → Reps X.K ω vs xs → After (gd X) E ω H (p vs st) (RV X.K) Q → r xs H Q
variable {x : Str} {p : Pos} {id : String}
theorem me_callB {m} (hc : CallS X (.builtin id) m) (hg : Gl X x) (hm : X.mg x = none) (hv : bootBuiltins x = some (.builtin id)) (ha : MA X W (e :: es) fs) (hn : x ≠ "__name__" := by decide) (hdb : (x == ("__debug__" : Str)) = false := by decide)
    (he : starEach (e :: es) X.env = (false, eval e X.env) :: starEach es X.env := by rfl) (hpl : (backTo pos (starEach es X.env)).any (·.1) = false := by rfl) : ME X W (.Call (.Name x p) (e :: es) [] pos) (eArgs m fs) := by
  obtain ⟨r, hr, hi⟩ := hc
  exact peI (pe_callB hr hg hm hv ha hn hdb he hpl) fun σ H Q q => args_step hi q
theorem me_callTy {m} (hc : CallS X (.type id) m) (hg : Gl X x) (hm : X.mg x = none) (hv : bootBuiltins x = some (.type id)) (ha : MA X W (e :: es) fs) (hn : x ≠ "__name__" := by decide) (hdb : (x == ("__debug__" : Str)) = false := by decide)
    (he : starEach (e :: es) X.env = (false, eval e X.env) :: starEach es X.env := by rfl) (hpl : (backTo pos (starEach es X.env)).any (·.1) = false := by rfl) : ME X W (.Call (.Name x p) (e :: es) [] pos) (eArgs m fs) := by
  obtain ⟨r, hr, hi⟩ := hc
  exact peI (pe_callTy hr hg hm hv ha hn hdb he hpl) fun σ H Q q => args_step hi q
theorem me_callG {m} (hc : CallS X (.builtin id) m) (hg : Gl X x) (hm : X.mg x = some (.builtin id)) (ha : MA X W (e :: es) fs) (hdb : (x == ("__debug__" : Str)) = false := by decide)
    (he : starEach (e :: es) X.env = (false, eval e X.env) :: starEach es X.env := by rfl) (hpl : (backTo pos (starEach es X.env)).any (·.1) = false := by rfl) : ME X W (.Call (.Name x p) (e :: es) [] pos) (eArgs m fs) := by
  obtain ⟨r, hr, hi⟩ := hc
  exact peI (pe_callBfun hr hg hm ha hdb he hpl) fun σ H Q q => args_step hi q
/-! ### a def of one's own, called -/
def guardN (n : Nat) (m : List PV → Store → Res PV) : List PV → Store → Res PV := fun vs st => if vs.length = n then m vs st else .stuck
/-- a def's promise by its plain function -/
def spP (G : Gd) (n : Nat) (m : List PV → Store → Res PV) : Sp := fun vs H Q E => ∃ ω st args, Wd G.K ω st H ∧ Reps G.K ω args vs ∧ After G E ω H (guardN n m args st) (RV G.K) Q
theorem spP_len {G : Gd} {n : Nat} {m} {vs : List V} {H : Hp} {Q : VK} {E : XK} (h : spP G n m vs H Q E) : vs.length = n := by
  obtain ⟨ω, st, args, wd, r, h⟩ := h
  unfold guardN at h
  split at h
  · rw [← r.length]; assumption
  · exact False.elim h
/-- what lets no exception out -/
def noErr {α : Type} : Res α → Res α
  | .err _ _ _ => .stuck
  | r => r
theorem After.noErr {α β : Type} {G : Gd} {E E' : XK} {ω : Wo} {H : Hp} {r : Res α} {Rel : Wo → α → β → Prop} {Q : β → Hp → Prop} (h : After G E ω H (noErr r) Rel Q) : After G E' ω H r Rel Q := by
  cases r with
  | ok a st => exact h
  | err n f st => exact False.elim h
  | stuck => exact False.elim h
abbrev nE (m : List PV → Store → Res PV) : List PV → Store → Res PV := fun vs st => noErr (m vs st)
def eCall (n : Nat) (m : List PV → Store → Res PV) (fs : AM) : EM := eArgs (guardN n (nE m)) fs
theorem guard_noErr {E E' : XK} {G : Gd} {ω : Wo} {H : Hp} {n : Nat} {m : List PV → Store → Res PV} {vs : List PV} {st : Store} {Q : VK} (h : After G E ω H (guardN n (nE m) vs st) (RV G.K) Q) : After G E' ω H (guardN n (nE m) vs st) (RV G.K) Q := by
  unfold guardN at h ⊢
  split
  · rename_i e
    rw [if_pos e] at h
    show After G E' ω H (noErr (m vs st)) (RV G.K) Q
    have h : After G E ω H (noErr (m vs st)) (RV G.K) Q := h
    cases q : m vs st with
    | ok a st' => rw [q] at h; exact h
    | err n f st' => rw [q] at h; exact False.elim h
    | stuck => rw [q] at h; exact False.elim h
  · rename_i e
    rw [if_neg e] at h
    exact False.elim h
variable {k n : Nat} {fa : Addr} {fd : FuncData} {ps : List Str}
theorem me_call {m} (F : FnOk X.prog X.w X.K X.mg X.base CX0 k fa fd ps (spP (gd X) n (nE m))) (hr : Room k X.A) (hg : Gl X x) (hm : X.mg x = some (.ref fa)) (hk : PySem.W.keepIn X.K (.ref fa) = true) (hb : Binds X.K fd ps [])
    (ha : MA X W (e :: es) fs) (hdb : (x == ("__debug__" : Str)) = false := by decide) (he : starEach (e :: es) X.env = (false, eval e X.env) :: starEach es X.env := by rfl) (hpl : (backTo pos (starEach es X.env)).any (·.1) = false := by rfl) :
    ME X W (.Call (.Name x p) (e :: es) [] pos) (eCall n m fs) := by
  refine peI (pe_call F hr hg hm hk hb .nil pass0 ha hdb he hpl) fun σ H Q q => args_step (R := fun xs H1 Q => spP (gd X) n (nE m) (xs ++ []) H1 Q E0) ?_ q
  intro E ω st H vs xs Q wd r h
  rw [List.append_nil]
  exact ⟨ω, st, vs, wd, r, guard_noErr h⟩
/-! ### a built-in's method -/
def MtS (X : Cx) (T id : String) (ty : PV → Store → Bool) (p : PV → List PV → Store → Res PV) : Prop :=
  ∃ r, MtR X id r ∧ (∀ (ω : Wo) (st : Store) (H : Hp) (v : PV) (x : V), Wd X.K ω st H → Rep X.K ω v x → ty v st = true → tyV X.K T x H) ∧
    ∀ (E : XK) (ω : Wo) (st : Store) (H : Hp) (v : PV) (x : V) (vs : List PV) (xs : List V) (Q : VK), Wd X.K ω st H → Rep X.K ω v x → Reps X.K ω vs xs → After (gd X) E ω H (p v vs st) (RV X.K) Q → r x xs H Q
def eMeth (ty : PV → Store → Bool) (p : PV → List PV → Store → Res PV) (fo : EM) (fs : AM) : EM := fun env st => (fo env st).bind fun v st1 => if ty v st1 = true then (fs env st1).bind fun vs st2 => p v vs st2 else .stuck
variable {o : Expr} {fo : EM} {name : Str} {apos cpos : Pos} {T : String}
theorem me_bm {ty m} (hM : MtS X T id ty m) (pa : PlainAttrs T) (slot : Slot T name id) (hty : typeOf (.builtin id) = pure (.type "method_descriptor")) (ho : ME X W o fo) (ha : MA X W (e :: es) fs)
    (hbase : attributeBase o name X.env (eval o X.env) = eval o X.env := by rfl)
    (hfew : ((backTo cpos (starEach (e :: es) X.env)).all (fun x => !x.1) && (backToKw cpos (keywordEach [] X.env)).all (fun x => x.1.isSome)
      && decide ((e :: es).length + ([] : List Keyword).length + (if ([] : List Keyword).isEmpty then 0 else 1) < 30)) = true := by rfl)
    (hline : (apos.endLine == cpos.line) = true := by rfl) (hs : starEach (e :: es) X.env = (false, eval e X.env) :: starEach es X.env := by rfl) (hplain : (backTo cpos (starEach es X.env)).any (·.1) = false := by rfl) :
    ME X W (.Call (.Attribute o name apos) (e :: es) [] cpos) (eMeth ty m fo fs) := by
  obtain ⟨r, hr, hT, hi⟩ := hM
  refine peI (pe_bm pa slot hty hr ho ha hbase hfew hline hs hplain) ?_
  rintro σ H Q ⟨ω, st, env, wd, re, h⟩
  refine ⟨ω, st, env, wd, re, (After.bind (Rel := RV X.K) h).mono ?_⟩
  rintro x H1 ⟨ω1, st1, v, e1, wd1, r1, h1⟩
  split at h1
  · rename_i hty
    refine ⟨hT _ _ _ _ _ wd1 r1 hty, ω1, st1, env, wd1, re.mono e1.le, (After.bind (Rel := RL X.K) h1).mono ?_⟩
    rintro xs H2 ⟨ω2, st2, vs, e2, wd2, r2, h2⟩
    exact hi _ ω2 st2 H2 v x vs xs Q wd2 (r1.mono e2.le) r2 h2
  · exact False.elim h1
theorem me_bm0 {ty m} (hM : MtS X T id ty m) (pa : PlainAttrs T) (slot : Slot T name id) (hty : typeOf (.builtin id) = pure (.type "method_descriptor")) (ho : ME X W o fo)
    (hbase : attributeBase o name X.env (eval o X.env) = eval o X.env := by rfl) (hline : (apos.endLine == cpos.line) = true := by rfl) :
    ME X W (.Call (.Attribute o name apos) [] [] cpos) (eMeth ty m fo aNil) := by
  obtain ⟨r, hr, hT, hi⟩ := hM
  refine peI (pe_bm0 pa slot hty hr ho hbase hline) ?_
  rintro σ H Q ⟨ω, st, env, wd, re, h⟩
  refine ⟨ω, st, env, wd, re, (After.bind (Rel := RV X.K) h).mono ?_⟩
  rintro x H1 ⟨ω1, st1, v, e1, wd1, r1, h1⟩
  split at h1
  · rename_i hty
    exact ⟨hT _ _ _ _ _ wd1 r1 hty, hi _ ω1 st1 H1 v x [] [] Q wd1 r1 .nil h1⟩
  · exact False.elim h1
/-! ### an item, a slice -/
def IxS (X : Cx) (p : PV → PV → Store → Res PV) : Prop :=
  ∃ r, IxR X r ∧ ∀ (E : XK) (ω : Wo) (st : Store) (H : Hp) (v w : PV) (x y : V) (Q : VK), Wd X.K ω st H → Rep X.K ω v x → Rep X.K ω w y → After (gd X) E ω H (p v w st) (RV X.K) Q → r x y H Q
variable {a b : Expr} {f1 f2 : EM}
theorem me_ix {p} (hI : IxS X p) (ha : ME X W a f1) (hb : ME X W b f2) (hs : PlainIx b := by exact fun _ _ => rfl) : ME X W (.Subscript a b pos) (eBin p f1 f2) := by
  obtain ⟨r, hr, hi⟩ := hI
  exact peI (pe_ix hr ha hb hs) fun σ H Q h => bin_step hi h
def oNone : OM := fun _ st => .ok none st
def oSome (f : EM) : OM := fun env st => (f env st).bind fun v st1 => match v with
  | .int i => .ok (some i) st1
  | _ => .stuck
theorem mo_none : MO X W none oNone := poI po_none fun σ H Q ⟨ω, st, env, wd, re, h⟩ => h.ok_here wd rfl
theorem mo_some (h : ME X W e f) : MO X W (some e) (oSome f) := by
  refine poI (po_some h) ?_
  rintro σ H Q ⟨ω, st, env, wd, re, h⟩
  refine ⟨ω, st, env, wd, re, (After.bind (Rel := RV X.K) h).mono ?_⟩
  rintro x H1 ⟨ω1, st1, v, e1, wd1, r1, h1⟩
  split at h1
  · cases r1
    exact ⟨_, rfl, h1.ok_here wd1 rfl⟩
  · exact False.elim h1
def SlS (X : Cx) (p : PV → Option Int → Option Int → Store → Res PV) : Prop :=
  ∃ r, SlR X r ∧ ∀ (E : XK) (ω : Wo) (st : Store) (H : Hp) (v : PV) (x : V) (lo hi : Option Int) (Q : VK), Wd X.K ω st H → Rep X.K ω v x → After (gd X) E ω H (p v lo hi st) (RV X.K) Q → r x lo hi H Q
def eSl (p : PV → Option Int → Option Int → Store → Res PV) (f : EM) (l u : OM) : EM := fun env st => (f env st).bind fun v st1 => (l env st1).bind fun lo st2 => (u env st2).bind fun hi st3 => p v lo hi st3
theorem me_sl {p} {lo hi : Option Expr} {l u : OM} {p2 : Pos} (hS : SlS X p) (ha : ME X W a f1) (hl : MO X W lo l) (hu : MO X W hi u) : ME X W (.Subscript a (.Slice lo hi none p2) pos) (eSl p f1 l u) := by
  obtain ⟨r, hr, hi'⟩ := hS
  refine peI (pe_slice hr ha hl hu) ?_
  rintro σ H Q ⟨ω, st, env, wd, re, h⟩
  refine ⟨ω, st, env, wd, re, (After.bind (Rel := RV X.K) h).mono ?_⟩
  rintro x H1 ⟨ω1, st1, v, e1, wd1, r1, h1⟩
  refine ⟨ω1, st1, env, wd1, re.mono e1.le, (After.bind (Rel := RQ) h1).mono ?_⟩
  rintro y H2 ⟨ω2, st2, w, e2, wd2, r2, h2⟩
  have r2 : w = y := r2
  subst r2
  refine ⟨ω2, st2, env, wd2, re.mono (e1.le.trans e2.le), (After.bind (Rel := RQ) h2).mono ?_⟩
  rintro z H3 ⟨ω3, st3, u, e3, wd3, r3, h3⟩
  have r3 : u = z := r3
  subst r3
  exact hi' _ ω3 st3 H3 v x w u Q wd3 (r1.mono (e2.le.trans e3.le)) h3
end
end PL
/-! PL, part c: statements, loops, comprehensions, defs. -/
namespace PL
open PySem PySem.Spec PyProof.Rows L2
inductive SR where
  | nx (env : PEnv) (st : Store)
  | rt (v : PV) (st : Store)
  | bk (env : PEnv) (st : Store)
  | ct (env : PEnv) (st : Store)
  | err (env : PEnv) (n : Str) (fs : Option (List (Str × PV))) (st : Store)
  | stuck
abbrev SM := PEnv → Store → SR
def AfterS (X : Cx) (W : WX) (ω : Wo) (H : Hp) (r : SR) (D : Ends) : Prop :=
  match r with
  | .nx env st => ∀ ω' H' σ', Ext ω H ω' H' → Wd X.K ω' st H' → REnv X.K ω' env σ' → D.nx σ' H'
  | .rt v st => ∀ ω' H' x, Ext ω H ω' H' → Wd X.K ω' st H' → Rep X.K ω' v x → D.rt x H'
  | .bk env st => ∀ ω' H' σ', Ext ω H ω' H' → Wd X.K ω' st H' → REnv X.K ω' env σ' → D.bk σ' H'
  | .ct env st => ∀ ω' H' σ', Ext ω H ω' H' → Wd X.K ω' st H' → REnv X.K ω' env σ' → D.ct σ' H'
  | .err env n fs st => ∀ ω' H' σ' d cls, Ext ω H ω' H' → Wd X.K ω' st H' → REnv X.K ω' env σ' → X.mg n = some cls → XRep X.K ω' H H' fs d → W cls d σ' H'
  | .stuck => False
def tS (X : Cx) (W : WX) (f : SM) : TS := fun D σ H => ∃ ω st env, Wd X.K ω st H ∧ REnv X.K ω env σ ∧ AfterS X W ω H (f env st) D
abbrev MS (X : Cx) (W : WX) (s : Stmt) (f : SM) : Prop := PS X s (tS X W f)
abbrev MB (X : Cx) (W : WX) (s : List Stmt) (f : SM) : Prop := PSs X s (tS X W f)
def sOf {α : Type} (r : Res α) (env : PEnv) (k : α → Store → SR) : SR :=
  match r with
  | .ok a st => k a st
  | .err n fs st => .err env n fs st
  | .stuck => .stuck
section
variable {X : Cx} {W : WX} {ω ω1 : Wo} {H H1 : Hp} {D : Ends}
theorem AfterS.shift {r : SR} (h : AfterS X W ω H r D) (x : Ext ω H ω1 H1) : AfterS X W ω1 H1 r D := by
  cases r with
  | nx env st => exact fun ω' H' σ' e w r => h ω' H' σ' (x.trans e) w r
  | rt v st => exact fun ω' H' y e w r => h ω' H' y (x.trans e) w r
  | bk env st => exact fun ω' H' σ' e w r => h ω' H' σ' (x.trans e) w r
  | ct env st => exact fun ω' H' σ' e w r => h ω' H' σ' (x.trans e) w r
  | err env n fs st => exact fun ω' H' σ' d cls e w r m y => h ω' H' σ' d cls (x.trans e) w r m (y.shift x)
  | stuck => exact h
theorem AfterS.nx_here {env : PEnv} {st : Store} {σ : L2.St} (h : AfterS X W ω H (.nx env st) D) (w : Wd X.K ω st H) (r : REnv X.K ω env σ) : D.nx σ H := h ω H σ (.refl ω H) w r
theorem AfterS.bind {α β : Type} {r : Res α} {env : PEnv} {σ : L2.St} {k : α → Store → SR} {Rel : Wo → α → β → Prop} (h : AfterS X W ω H (sOf r env k) D) (re : REnv X.K ω env σ) :
    After (gd X) (wx W σ) ω H r Rel fun x H1 => ∃ ω1 st1 a, Ext ω H ω1 H1 ∧ Wd X.K ω1 st1 H1 ∧ Rel ω1 a x ∧ AfterS X W ω1 H1 (k a st1) D := by
  cases r with
  | ok a st' => exact fun ω' H' y e w q => ⟨ω', st', a, e, w, q, AfterS.shift h e⟩
  | err n fs st' => exact fun ω' H' d cls e w m y => h ω' H' σ d cls e w (re.mono e.le) m y
  | stuck => exact h
end
/-! ### blocks, small statements -/
def sNil : SM := fun env st => .nx env st
def sSeq (f g : SM) : SM := fun env st => match f env st with
  | .nx env' st' => g env' st'
  | r => r
def sSet (i : Nat) (f : EM) : SM := fun env st => sOf (f env st) env fun v st1 => .nx (env.set i (some v)) st1
def sExpr (f : EM) : SM := fun env st => sOf (f env st) env fun _ st1 => .nx env st1
def sRet (f : EM) : SM := fun env st => sOf (f env st) env fun v st1 => .rt v st1
def sRetN : SM := fun _ st => .rt .non st
def sIf (c : TM) (f g : SM) : SM := fun env st => sOf (c env st) env fun b st1 => if b = true then f env st1 else g env st1
def sBk : SM := fun env st => .bk env st
def sCt : SM := fun env st => .ct env st
section
variable {X : Cx} {W : WX} {s : Stmt} {ss : List Stmt} {f g : SM} {e : Expr} {fe : EM} {pos : Pos}
theorem mb_nil : MB X W [] sNil := pssI pss_nil fun D σ H ⟨ω, st, env, wd, re, h⟩ => h.nx_here wd re
theorem mb_cons (h1 : MS X W s f) (h2 : MB X W ss g) : MB X W (s :: ss) (sSeq f g) := by
  refine pssI (pss_cons h1 h2) ?_
  rintro D σ H ⟨ω, st, env, wd, re, h⟩
  refine ⟨ω, st, env, wd, re, ?_⟩
  unfold sSeq at h
  split at h
  · rename_i env' st' q
    rw [q]
    exact fun ω' H' σ' x w r => ⟨ω', st', env', w, r, h.shift x⟩
  · rename_i q
    cases r : f env st with
    | nx env' st' => exact (q env' st' r).elim
    | rt v st => rw [r] at h; exact h
    | bk env st => rw [r] at h; exact h
    | ct env st => rw [r] at h; exact h
    | err env n fs st => rw [r] at h; exact h
    | stuck => rw [r] at h; exact h
theorem mb_one (h1 : MS X W s f) : MB X W [s] f := pss_one h1
theorem ms_set {i : Nat} {x : Str} {pos' : Pos} (hN : X.N.Nodup) (he : ME X W e fe) (hi : X.N[i]? = some x := by rfl) (hx : Loc X.env.scope x := by first | exact Or.inl rfl | exact Or.inr rfl) (hs : swapsWith e (some (.Name x pos')) pos.line X.env = pure false := by rfl)
    (hf : X.fn x = true ∨ X.env.scope.names.lookup x = some .local := by first | exact .inl rfl | exact .inr rfl | assumption) : MS X W (.Assign [.Name x pos'] e pos) (sSet i fe) := by
  refine psI (ps_set hN hi hx he hs hf) ?_
  rintro D σ H ⟨ω, st, env, wd, re, h⟩
  refine ⟨ω, st, env, wd, re, (h.bind (Rel := RV X.K) re).mono ?_⟩
  rintro y H1 ⟨ω1, st1, v, e1, wd1, r1, h1⟩
  exact h1.nx_here wd1 ((re.mono e1.le).set r1 i)
theorem ms_expr (he : ME X W e fe) (hs : swapsWith e none pos.line X.env = pure false := by rfl) : MS X W (.Expr e pos) (sExpr fe) := by
  refine psI (ps_expr he hs) ?_
  rintro D σ H ⟨ω, st, env, wd, re, h⟩
  refine ⟨ω, st, env, wd, re, (h.bind (Rel := RV X.K) re).mono ?_⟩
  rintro y H1 ⟨ω1, st1, v, e1, wd1, r1, h1⟩
  exact h1.nx_here wd1 (re.mono e1.le)
theorem ms_ret (he : ME X W e fe) : MS X W (.Return (some e) pos) (sRet fe) := by
  refine psI (ps_ret he) ?_
  rintro D σ H ⟨ω, st, env, wd, re, h⟩
  refine ⟨ω, st, env, wd, re, (h.bind (Rel := RV X.K) re).mono ?_⟩
  rintro y H1 ⟨ω1, st1, v, e1, wd1, r1, h1⟩
  exact h1 ω1 H1 y (.refl _ _) wd1 r1
theorem ms_retN : MS X W (.Return none pos) sRetN := psI ps_retN fun D σ H ⟨ω, st, env, wd, re, h⟩ => h ω H .non (.refl _ _) wd .non
theorem ms_if {c : Expr} {a b : List Stmt} {fc : TM} (hc : MT X W c fc) (ha : MB X W a f) (hb : MB X W b g) : MS X W (.If c a b pos) (sIf fc f g) := by
  refine psI (ps_if hc ha hb) ?_
  rintro D σ H ⟨ω, st, env, wd, re, h⟩
  refine ⟨ω, st, env, wd, re, (h.bind (Rel := RQ) re).mono ?_⟩
  rintro y H1 ⟨ω1, st1, v, e1, wd1, r1, h1⟩
  have r1 : v = y := r1
  subst r1
  cases v with
  | true => exact iteT ⟨ω1, st1, env, wd1, re.mono e1.le, by simpa using h1⟩
  | false => exact iteF ⟨ω1, st1, env, wd1, re.mono e1.le, by simpa using h1⟩
theorem ms_break : MS X W (.Break pos) sBk := psI ps_break fun D σ H ⟨ω, st, env, wd, re, h⟩ => h ω H σ (.refl _ _) wd re
theorem ms_continue : MS X W (.Continue pos) sCt := psI ps_continue fun D σ H ⟨ω, st, env, wd, re, h⟩ => h ω H σ (.refl _ _) wd re
theorem ms_pass : MS X W (.Pass pos) sNil := psI ps_pass fun D σ H ⟨ω, st, env, wd, re, h⟩ => h.nx_here wd re
end
/-! ### targets -/
inductive Tg where
  | one (i : Nat)
  | tup (is : List Nat)
def Tg.slots : Tg → List Nat
  | .one i => [i]
  | .tup is => is
def setTgs : List Nat → List PV → PEnv → Option PEnv
  | [], [], env => some env
  | i :: is, v :: vs, env => setTgs is vs (env.set i (some v))
  | _, _, _ => none
def setTg : Tg → PV → PEnv → Option PEnv
  | .one i, v, env => some (env.set i (some v))
  | .tup is, .tup vs, env => setTgs is vs env
  | _, _, _ => none
def gTs : List Nat → TGs
  | [] => gNil
  | i :: is => gCons (gName i) (gTs is)
def gT (K : PySem.W.Frag) : Tg → TG
  | .one i => gName i
  | .tup is => gTup K is.length (gTs is)
/-- σ' is σ but for some slots -/
def But (vs : List Nat) (σ σ' : L2.St) : Prop := σ'.length = σ.length ∧ ∀ j, j ∉ vs → σ'[j]? = σ[j]?
theorem But.refl (vs : List Nat) (σ : L2.St) : But vs σ σ := ⟨rfl, fun _ _ => rfl⟩
theorem But.set {vs : List Nat} {σ σ' : L2.St} {i : Nat} (h : But vs (σ.set i x) σ') (m : i ∈ vs) : But vs σ σ' :=
  ⟨h.1.trans (by simp), fun j n => (h.2 j n).trans (List.getElem?_set_ne (fun e => n (by rw [← e]; exact m)))⟩
theorem wipe_in {σ : L2.St} {j : Nat} : ∀ {vs : List Nat}, j ∈ vs → (L2.wipe σ vs)[j]? = if j < σ.length then some none else none
  | [], m => by cases m
  | v :: vs, m => by
    unfold L2.wipe
    by_cases h : v = j
    · subst h
      by_cases hl : v < σ.length
      · rw [if_pos hl, List.getElem?_set_self (by rw [wipe_length]; exact hl)]
      · rw [if_neg hl, List.getElem?_eq_none (by rw [List.length_set, wipe_length]; omega)]
    · rw [List.getElem?_set_ne h]
      rcases List.mem_cons.mp m with e | m
      · exact absurd e.symm h
      · exact wipe_in m
theorem wipe_but {vs : List Nat} {σ σ' : L2.St} (h : But vs σ σ') : L2.wipe σ' vs = L2.wipe σ vs := by
  refine List.ext_getElem? fun j => ?_
  by_cases m : j ∈ vs
  · rw [wipe_in m, wipe_in m, h.1]
  · rw [wipe_out m, wipe_out m, h.2 j m]
section
variable {K : PySem.W.Frag} {ω : Wo} {st : Store} {H : Hp} {env env1 : PEnv} {σ : L2.St}
theorem gTs_step : ∀ {is : List Nat} {vs : List PV} {xs : List V} {env : PEnv} {σ : L2.St} {Q : L2.St → Hp → Prop}, REnv K ω env σ → Reps K ω vs xs → setTgs is vs env = some env1 → (∀ σ1, REnv K ω env1 σ1 → But is σ σ1 → Q σ1 H) → gTs is xs σ H Q
  | [], [], _, env, σ, Q, re, .nil, e, k => by
    cases e
    exact ⟨rfl, k σ re (.refl _ _)⟩
  | i :: is, v :: vs, _, env, σ, Q, re, .cons r t, e, k => by
    refine ⟨_, _, rfl, ?_⟩
    show gTs is _ _ _ _
    refine gTs_step (re.set r i) t e fun σ1 r1 b => k σ1 r1 ?_
    exact ⟨b.1.trans (by simp), fun j n => (b.2 j (fun m => n (List.mem_cons_of_mem _ m))).trans (List.getElem?_set_ne (fun e => n (by rw [e]; exact List.mem_cons_self)))⟩
theorem gT_step {tg : Tg} {v : PV} {x : V} {Q : L2.St → Hp → Prop} (wd : Wd K ω st H) (re : REnv K ω env σ) (r : Rep K ω v x) (e : setTg tg v env = some env1) (k : ∀ σ1, REnv K ω env1 σ1 → But tg.slots σ σ1 → Q σ1 H) : gT K tg x σ H Q := by
  cases tg with
  | one i =>
    cases e
    exact k _ (re.set r i) ⟨by simp, fun j n => List.getElem?_set_ne (fun e => n (by rw [e]; exact List.mem_cons_self))⟩
  | tup is =>
    cases v with
    | tup vs =>
      have e : setTgs is vs env = some env1 := e
      cases r with
      | @tup a ws _ ea rs =>
        have hlen : ∀ {is : List Nat} {vs : List PV} {env : PEnv}, setTgs is vs env = some env1 → vs.length = is.length := by
          intro is
          induction is with
          | nil => intro vs env e; cases vs with
            | nil => rfl
            | cons _ _ => cases e
          | cons i is ih => intro vs env e; cases vs with
            | nil => cases e
            | cons v vs => simp [ih (show setTgs is vs _ = some env1 from e)]
        exact ⟨a, ws, rfl, .of (wd.sub _ _ ea), by rw [← rs.length]; exact hlen e, gTs_step re rs e k⟩
    | _ => cases e
end
abbrev MG (X : Cx) (t : Expr) (tg : Tg) : Prop := PG X t (gT X.K tg)
abbrev MGs (X : Cx) (ts : List Expr) (is : List Nat) : Prop := PGs X ts (gTs is)
section
variable {X : Cx} {pos : Pos}
theorem mg_one {i : Nat} {x : Str} (hN : X.N.Nodup) (hi : X.N[i]? = some x := by rfl) (hx : Loc X.env.scope x := by first | exact Or.inl rfl | exact Or.inr rfl)
    (hf : X.fn x = true ∨ X.env.scope.names.lookup x = some .local := by first | exact .inl rfl | exact .inr rfl | assumption) : MG X (.Name x pos) (.one i) := pg_name hN hi hx hf
theorem mgs_nil : MGs X [] [] := pgs_nil
theorem mgs_cons {i : Nat} {x : Str} {es : List Expr} {is : List Nat} (hN : X.N.Nodup) (h2 : MGs X es is) (hi : X.N[i]? = some x := by rfl) (hx : Loc X.env.scope x := by first | exact Or.inl rfl | exact Or.inr rfl)
    (hf : X.fn x = true ∨ X.env.scope.names.lookup x = some .local := by first | exact .inl rfl | exact .inr rfl | assumption) (hs : (assignEach (.Name x pos :: es) X.env).map (·.2) = assign (.Name x pos) X.env :: (assignEach es X.env).map (·.2) := by rfl) :
    MGs X (.Name x pos :: es) (i :: is) := pgs_cons (pg_name hN hi hx hf) h2 hs
theorem mg_tup {es : List Expr} {k : Nat} {is : List Nat} (hc : X.calm = true) (h : MGs X es is)
    (hn : (assignEach es X.env).length = is.length := by rfl) (hst : (assignEach es X.env).findIdx? (·.1) = none := by rfl) : MG X (.Tuple es k pos) (.tup is) := pg_tup hc h hn hst
end
/-- target = value, the target a name or a tuple of names -/
def sTg (tg : Tg) (f : EM) : SM := fun env st => sOf (f env st) env fun v st1 => match setTg tg v env with
  | some env1 => .nx env1 st1
  | none => .stuck
/-- a, b = e1, e2 -/
def sPar (i j : Nat) (fs : AM) : SM := fun env st => sOf (fs env st) env fun vs st1 => match vs with
  | [v, w] => .nx ((env.set i (some v)).set j (some w)) st1
  | _ => .stuck
/-- o[i] = e, by values -/
def StS (X : Cx) (p : PV → PV → PV → Store → Res Unit) : Prop :=
  ∃ t, PSet X t ∧ ∀ (E : XK) (ω : Wo) (st : Store) (H : Hp) (o i v : PV) (xo xi x : V) (Q : Hp → Prop), Wd X.K ω st H → Rep X.K ω o xo → Rep X.K ω i xi → Rep X.K ω v x → After (gd X) E ω H (p o i v st) (fun _ _ (_ : Unit) => True) (fun _ H' => Q H') → t xo xi x H Q
def sSub (p : PV → PV → PV → Store → Res Unit) (fo fi fv : EM) : SM := fun env st => sOf (fv env st) env fun v st1 => sOf (fo env st1) env fun o st2 => sOf (fi env st2) env fun i st3 => sOf (p o i v st3) env fun _ st4 => .nx env st4
section
variable {X : Cx} {W : WX} {e : Expr} {fe fo fi : EM} {pos : Pos}
theorem ms_tg {t : Expr} {tg : Tg} (hg : MG X t tg) (he : ME X W e fe) (hs : swapsWithSole [t] e pos.line X.env = pure false := by rfl) (hw : swappedStores [t] e X.env = pure none := by rfl)
    (h1 : (assignEach [t] X.env).map (·.2) = [assign t X.env] := by rfl) : MS X W (.Assign [t] e pos) (sTg tg fe) := by
  refine psI (ps_asg he hg hs hw h1) ?_
  rintro D σ H ⟨ω, st, env, wd, re, h⟩
  refine ⟨ω, st, env, wd, re, (h.bind (Rel := RV X.K) re).mono ?_⟩
  rintro y H1 ⟨ω1, st1, v, e1, wd1, r1, h1⟩
  split at h1
  · rename_i env1 q
    exact gT_step wd1 (re.mono e1.le) r1 q fun σ1 r _ => h1.nx_here wd1 r
  · exact False.elim h1
theorem ms_par {i j : Nat} {x y : Str} {a b : Expr} {fs : AM} {px py pt : Pos} {kt k2 pt2} (hc : X.calm = true) (hN : X.N.Nodup) (hij : i ≠ j) (ha : MA X W [a, b] fs)
    (hi : X.N[i]? = some x := by rfl) (hj : X.N[j]? = some y := by rfl)
    (hx : X.env.scope.names.lookup x = some .local := by rfl) (hy : X.env.scope.names.lookup y = some .local := by rfl)
    (hw : swappedStores [.Tuple [.Name x px, .Name y py] kt pt] (.Tuple [a, b] k2 pt2) X.env = pure (some [x, y]) := by rfl)
    (hs : swapsWithSole [.Tuple [.Name x px, .Name y py] kt pt] (.Tuple [a, b] k2 pt2) pos.line X.env = pure false := by rfl) :
    MS X W (.Assign [.Tuple [.Name x px, .Name y py] kt pt] (.Tuple [a, b] k2 pt2) pos) (sPar i j fs) := by
  refine psI (ps_par hc hN hi hj hij hx hy ha hw hs) ?_
  rintro D σ H ⟨ω, st, env, wd, re, h⟩
  refine ⟨ω, st, env, wd, re, (h.bind (Rel := RL X.K) re).mono ?_⟩
  rintro ys H1 ⟨ω1, st1, vs, e1, wd1, r1, h1⟩
  split at h1
  · rename_i v w
    cases r1 with
    | cons rv r =>
      cases r with
      | cons rw' r =>
        cases r
        exact ⟨_, _, rfl, h1.nx_here wd1 (((re.mono e1.le).set rv i).set rw' j)⟩
  · exact False.elim h1
theorem ms_sub {o i : Expr} {tpos : Pos} {p} (hS : StS X p) (ho : ME X W o fo) (hi : ME X W i fi) (he : ME X W e fe)
    (ha : ∀ v, assign (.Subscript o i tpos) X.env v = (do
      let ov ← holding [v] (eval o X.env)
      let iv ← holding [v, ov] (eval i X.env)
      standAt tpos
      holding [v, ov, iv] (setItem ov iv v)
      release [v, ov, iv] []) := by intro _; rfl)
    (hs : swapsWithSole [.Subscript o i tpos] e pos.line X.env = pure false := by rfl) (hw : swappedStores [.Subscript o i tpos] e X.env = pure none := by rfl)
    (h1 : (assignEach [.Subscript o i tpos] X.env).map (·.2) = [assign (.Subscript o i tpos) X.env] := by rfl) : MS X W (.Assign [.Subscript o i tpos] e pos) (sSub p fo fi fe) := by
  obtain ⟨t, ht, hi'⟩ := hS
  refine psI (ps_asg he (pg_sub ho hi ht ha) hs hw h1) ?_
  rintro D σ H ⟨ω, st, env, wd, re, h⟩
  refine ⟨ω, st, env, wd, re, (h.bind (Rel := RV X.K) re).mono ?_⟩
  rintro y H1 ⟨ω1, st1, v, e1, wd1, r1, h1⟩
  have re1 := re.mono e1.le
  refine ⟨ω1, st1, env, wd1, re1, (h1.bind (Rel := RV X.K) re1).mono ?_⟩
  rintro yo H2 ⟨ω2, st2, vo, e2, wd2, r2, h2⟩
  have re2 := re1.mono e2.le
  refine ⟨ω2, st2, env, wd2, re2, (h2.bind (Rel := RV X.K) re2).mono ?_⟩
  rintro yi H3 ⟨ω3, st3, vi, e3, wd3, r3, h3⟩
  have re3 := re2.mono e3.le
  refine hi' (wx W σ) ω3 st3 H3 vo vi v yo yi y _ wd3 (r2.mono e3.le) r3 (r1.mono (e2.le.trans e3.le)) ((h3.bind (Rel := fun _ _ _ => True) re3).mono ?_)
  rintro _ H4 ⟨ω4, st4, _, e4, wd4, _, h4⟩
  exact h4.nx_here wd4 (re3.mono e4.le)
end
/-! ### walks -/
/-- the items of a walk; pl: the place of the store where they stand, and must stand while it is walked -/
structure Itms where
  xs : List PV
  pl : Option (Nat × PO)
def Itms.ok (p : Itms) (st : Store) : Prop := match p.pl with
  | none => True
  | some (l, ys) => st[l]? = some ys
/-- the iterator J gives the items of p -/
structure ItR (K : PySem.W.Frag) (ω : Wo) (p : Itms) (J : It) : Prop where
  goes : ∀ i ω1 st H, i < p.xs.length → ω.Le ω1 → Wd K ω1 st H → p.ok st → J.go i H
  stops : ∀ ω1 st H, ω.Le ω1 → Wd K ω1 st H → p.ok st → J.stop p.xs.length H
  yields : ∀ i ω1 st H x H', i < p.xs.length → ω.Le ω1 → Wd K ω1 st H → p.ok st → J.yld i H x H' → ∃ ω2 v, Ext ω1 H ω2 H' ∧ Wd K ω2 st H' ∧ p.xs[i]? = some v ∧ Rep K ω2 v x
abbrev RI (K : PySem.W.Frag) : Wo → Itms → It → Prop := fun ω p J => ItR K ω p J
abbrev IM := PEnv → Store → Res Itms
abbrev MI (X : Cx) (W : WX) (t e : Expr) (f : IM) : Prop := PI X t e (tG X W (RI X.K) f)
theorem piI {X : Cx} {t e : Expr} {w w' : TI} (h : PI X t e w) (i : ∀ σ H Q, w' σ H Q → w σ H Q) : PI X t e w' := ⟨fun pins s σ H R I q => h.run pins s σ H R I (i σ H R q)⟩
open Classical in
noncomputable def sForL (tg : Tg) (body : SM) (ok : Store → Prop) : List PV → PEnv → Store → SR
  | [], env, st => if ok st then .nx env st else .stuck
  | v :: r, env, st => if ok st then match setTg tg v env with
    | none => .stuck
    | some env1 => match body env1 st with
      | .nx e s => sForL tg body ok r e s
      | .ct e s => sForL tg body ok r e s
      | .bk e s => .nx e s
      | .rt v s => .rt v s
      | .err e n fs s => .err e n fs s
      | .stuck => .stuck
    else .stuck
noncomputable def sFor (it : IM) (tg : Tg) (body : SM) : SM := fun env st => sOf (it env st) env fun p st1 => sForL tg body p.ok p.xs env st1
section
variable {X : Cx} {W : WX} {pos : Pos}
theorem ms_for {t iter : Expr} {body : List Stmt} {it : IM} {tg : Tg} {fb : SM} (hp : PassesOwn (model X.prog X.w) X.A X.env X.xe) (hc : X.calm = true) (hi : MI X W t iter it) (hg : MG X t tg) (hb : MB X W body fb)
    (hs : ∀ x, foldedSetIterable iter X.env x = pure x := by intro _; rfl) : MS X W (.For t iter body [] pos) (sFor it tg fb) := by
  refine psI (ps_for hp hc hi hg hb hs) ?_
  rintro D σ H ⟨ω, st, env, wd, re, h⟩
  refine ⟨ω, st, env, wd, re, (h.bind (Rel := RI X.K) re).mono ?_⟩
  rintro J H1 ⟨ω1, st1, ⟨xs, pl⟩, e1, wd1, r1, h1⟩
  refine ⟨fun i m σ' H' => m = xs.length - i ∧ i ≤ xs.length ∧ ∃ ω' st' env', ω1.Le ω' ∧ Wd X.K ω' st' H' ∧ REnv X.K ω' env' σ' ∧ AfterS X W ω' H' (sForL tg fb (Itms.ok ⟨xs, pl⟩) (xs.drop i) env' st') D,
    ⟨xs.length, by simp, Nat.zero_le _, ω1, st1, env, .refl _, wd1, re.mono e1.le, by simpa using h1⟩, ?_⟩
  rintro i m σ2 H2 ⟨rfl, hi, ω2, st2, env2, le2, wd2, re2, h2⟩
  have hok : Itms.ok ⟨xs, pl⟩ st2 := by
    by_cases hk : Itms.ok ⟨xs, pl⟩ st2
    · exact hk
    · cases q : xs.drop i with
      | nil => rw [q] at h2; unfold sForL at h2; rw [if_neg hk] at h2; exact False.elim h2
      | cons v r => rw [q] at h2; unfold sForL at h2; rw [if_neg hk] at h2; exact False.elim h2
  by_cases hlt : i < xs.length
  · refine .inr ⟨r1.goes i ω2 st2 H2 hlt le2 wd2 hok, fun σ' H' => ∃ ω' st' env', ω1.Le ω' ∧ Wd X.K ω' st' H' ∧ REnv X.K ω' env' σ' ∧ AfterS X W ω' H' (sForL tg fb (Itms.ok ⟨xs, pl⟩) (xs.drop (i + 1)) env' st') D,
      fun σ' H' q => ⟨xs.length - (i + 1), by omega, rfl, hlt, q⟩, fun x H3 y => ?_⟩
    obtain ⟨ω3, v, e3, wd3, hv, r3⟩ := r1.yields i ω2 st2 H2 x H3 hlt le2 wd2 hok y
    have hd : xs.drop i = v :: xs.drop (i + 1) := by
      have hv : xs[i]? = some v := hv
      rw [List.getElem?_eq_getElem hlt] at hv
      cases hv
      exact List.drop_eq_getElem_cons hlt
    rw [hd] at h2
    have h2 := h2.shift e3
    unfold sForL at h2
    rw [if_pos hok] at h2
    split at h2
    · exact False.elim h2
    · rename_i env3 q3
      refine gT_step wd3 (re2.mono e3.le) r3 q3 fun σ4 re4 _ => ?_
      refine ⟨ω3, st2, env3, wd3, re4, ?_⟩
      have le3 := le2.trans e3.le
      split at h2
      · rename_i q; rw [q]
        exact fun ω' H' σ' x w r => ⟨ω', _, _, le3.trans x.le, w, r, h2.shift x⟩
      · rename_i q; rw [q]
        exact fun ω' H' σ' x w r => ⟨ω', _, _, le3.trans x.le, w, r, h2.shift x⟩
      · rename_i q; rw [q]
        exact h2
      · rename_i q; rw [q]
        exact h2
      · rename_i q; rw [q]
        exact h2
      · exact False.elim h2
  · have e : i = xs.length := by omega
    subst e
    rw [List.drop_length] at h2
    unfold sForL at h2
    rw [if_pos hok] at h2
    exact .inl ⟨r1.stops ω2 st2 H2 le2 wd2 hok, AfterS.nx_here h2 wd2 re2⟩
end
/-! ### comprehensions -/
open Classical in
noncomputable def compL (tg : Tg) (test : TM) (elt : EM) (ok : Store → Prop) : List PV → PEnv → Store → List PV → Res (List PV)
  | [], _, st, acc => if ok st then .ok acc st else .stuck
  | v :: r, env, st, acc => if ok st then match setTg tg v env with
    | none => .stuck
    | some env1 => (noErr (test env1 st)).bind fun b st1 =>
      if b = true then (noErr (elt env1 st1)).bind fun y st2 => if acc.length < sizeLine then compL tg test elt ok r env st2 (acc ++ [y]) else .stuck
      else compL tg test elt ok r env st1 acc
    else .stuck
def fin (loc : Bool) (ys : List PV) (st : Store) : Res PV := match loc with
  | false => .ok (.lst ys) st
  | true => .ok (.loc st.length) (st ++ [.lst ys])
noncomputable def eCompG (loc : Bool) (own : List Nat) (it : IM) (tg : Tg) (test : TM) (elt : EM) : EM := fun env st => (it env st).bind fun p st1 => (compL tg test elt p.ok p.xs (wipeP env own) st1 []).bind fun ys st2 => fin loc ys st2
noncomputable abbrev eComp (own : List Nat) (it : IM) (tg : Tg) (test : TM) (elt : EM) : EM := eCompG false own it tg test elt
noncomputable abbrev eCompLoc (own : List Nat) (it : IM) (tg : Tg) (test : TM) (elt : EM) : EM := eCompG true own it tg test elt
def tYesM : TM := fun _ st => .ok true st
abbrev MTs (X : Cx) (W : WX) (es : List Expr) (f : TM) : Prop := PTs X es (tG X W RQ f)
theorem ptsI {X : Cx} {e : List Expr} {t t' : TT} (h : PTs X e t) (i : ∀ σ H Q, t' σ H Q → t σ H Q) : PTs X e t' := ⟨fun pins s σ H Q I q => h.run pins s σ H Q I (i σ H Q q)⟩
theorem mts_nil {X : Cx} {W : WX} : MTs X W [] tYesM := ptsI pts_nil fun σ H Q ⟨ω, st, env, wd, re, h⟩ => h.ok_here wd rfl
theorem mts_one {X : Cx} {W : WX} {c : Expr} {f : TM} (h : MT X W c f) : MTs X W [c] f := pts_one h
abbrev W0 : WX := fun _ _ _ _ => False
section
variable {K : PySem.W.Frag} {ω : Wo} {st : Store} {H : Hp}
theorem Wd.other (h : Wd K ω st H) {p : Addr} {o : HO} (nF : ω.F p = none) (nρ : p ∉ ω.ρ) : Wd K ω st (upd H p o) := by
  refine ⟨fun b u e => ?_, h.len, h.nd, h.sep, fun l a q e1 e2 => ?_⟩
  · rw [upd_ne (ne_of_none e nF)]
    exact h.sub b u e
  · have na : a ≠ p := fun z => nρ (by rw [← z]; exact List.mem_of_getElem? e1)
    have hq := h.obj l a q e1 e2
    exact hq.tr (.refl ω) (upd_ne na)
/-- an object that stands is frozen -/
theorem Wd.freeze (h : Wd K ω st H) {p : Addr} {o : HO} (e : H p = some o) (nF : ω.F p = none) (nρ : p ∉ ω.ρ) : Wd K (ω.fz p o) st H := by
  have le := Wo.fz_le (o := o) nF
  refine ⟨fun b u q => ?_, h.len, h.nd, fun a m => ?_, fun l a q e1 e2 => ?_⟩
  · by_cases hb : b = p
    · subst hb
      have q : upd ω.F b o b = some u := q
      rw [upd_same] at q
      cases q
      exact e
    · have q : upd ω.F p o b = some u := q
      rw [upd_ne hb] at q
      exact h.sub b u q
  · show upd ω.F p o a = none ∨ ∃ od u, upd ω.F p o a = some (.frz od u)
    rw [upd_ne (fun z => nρ (by rw [← z]; exact m))]
    exact h.sep a m
  · have hq := h.obj l a q e1 e2
    exact hq.tr le rfl
/-- a list that stands becomes a place of the store -/
theorem Wd.adopt (h : Wd K ω st H) {p : Addr} {vs : List V} {xs : List PV} (e : H p = some (.lst vs)) (nF : ω.F p = none) (nρ : p ∉ ω.ρ) (r : Reps K ω xs vs) : Wd K (ω.nw p) (st ++ [.lst xs]) H := by
  have le : ω.Le (ω.nw p) := Wo.nw_le
  refine ⟨h.sub, by simp [h.len], ?_, fun a m => ?_, fun l a q e1 e2 => ?_⟩
  · refine List.nodup_append.mpr ⟨h.nd, by simp, fun a ha b hb => ?_⟩
    have e : b = p := by simpa using hb
    subst e
    intro z
    exact nρ (by rw [← z]; exact ha)
  · rcases List.mem_append.mp m with m | m
    · exact h.sep a m
    · have e : a = p := by simpa using m
      subst e; exact .inl nF
  · rcases Nat.lt_or_ge l st.length with hl | hl
    · have e1' : ω.ρ[l]? = some a := by
        have e1 : (ω.ρ ++ [p])[l]? = some a := e1
        rw [List.getElem?_append_left (by rw [h.len]; exact hl)] at e1
        exact e1
      rw [List.getElem?_append_left hl] at e2
      have hq := h.obj l a q e1' e2
      exact hq.tr le rfl
    · have e1 : (ω.ρ ++ [p])[l]? = some a := e1
      rw [List.getElem?_append_right (by rw [h.len]; exact hl)] at e1
      rw [List.getElem?_append_right hl] at e2
      have z : l - st.length = 0 := by
        rcases Nat.eq_zero_or_pos (l - st.length) with z | z
        · exact z
        · rw [List.getElem?_eq_none (by simp only [List.length_singleton]; omega)] at e2; cases e2
      rw [z] at e2
      rw [h.len, z] at e1
      simp only [List.getElem?_cons_zero, Option.some.injEq] at e1 e2
      subst e1
      subst e2
      exact ⟨vs, e, r.mono le⟩
end
/-- an object that stands and is told of nowhere, between two heaps -/
theorem Ext.apart {ω ω' : Wo} {H H' : Hp} (x : Ext ω H ω' H') {D : Addr} {o : HO} (e : H D = some o) (nF : ω.F D = none) (nρ : D ∉ ω.ρ) : H' D = some o ∧ ω'.F D = none ∧ D ∉ ω'.ρ := by
  refine ⟨x.oth D o e nρ, ?_, fun m => ?_⟩
  · cases q : ω'.F D with
    | none => rfl
    | some u =>
      rcases x.nF D (by rw [q]; simp) with z | z
      · exact absurd nF z
      · rw [e] at z; cases z
  · rcases x.nρ D m with z | z
    · exact nρ z
    · rw [e] at z; cases z
section
variable {X : Cx} {W : WX} {pos : Pos}
/-- behind i items: acc made so far lies at D -/
structure CompAt (X : Cx) (loc : Bool) (G : Gd) (E : XK) (ω1 : Wo) (H1 : Hp) (D : Addr) (tg : Tg) (test : TM) (elt : EM) (env : PEnv) (p : Itms) (Q : VK) (i : Nat) (H : Hp) : Prop where
  ex : ∃ ω' st' acc vs, Ext ω1 H1 ω' H ∧ Wd X.K ω' st' H ∧ H D = some (.lst vs) ∧ ω'.F D = none ∧ D ∉ ω'.ρ ∧ Reps X.K ω' acc vs ∧
    After G E ω1 H1 ((compL tg test elt p.ok (p.xs.drop i) env st' acc).bind fun ys st2 => fin loc ys st2) (RV X.K) Q
theorem comp_step {loc : Bool} {g : TG} {tt : TT} {te : TE} {own : List Nat} {it : IM} {tg : Tg} {test : TM} {elt : EM} {wi : TI} {σ : L2.St} {H : Hp} {Q : VK}
    (hwi : wi = tG X W (RI X.K) it) (hg : g = gT X.K tg) (htt : tt = tG X W0 RQ test) (hte : te = tG X W0 (RV X.K) elt) (hsl : ∀ i ∈ tg.slots, i ∈ own)
    (h : tG X W (RV X.K) (eCompG loc own it tg test elt) σ H Q) : tLc wi g tt te own σ H Q := by
  subst hwi hg htt hte
  obtain ⟨ω, st, env, wd, re, h⟩ := h
  refine ⟨ω, st, env, wd, re, (After.bind (Rel := RI X.K) h).mono ?_⟩
  rintro J H1 ⟨ω1, st1, ⟨xs, pl⟩, e1, wd1, r1, h1⟩
  intro D hD
  have re1 : REnv X.K ω1 (wipeP env own) (L2.wipe σ own) := (re.mono e1.le).wipe own
  have nFD : ω1.F D = none := wd1.fresh hD
  have nρD : D ∉ ω1.ρ := fun m => by
    obtain ⟨u, e⟩ := wd1.there m
    rw [hD] at e; cases e
  have x0 : Ext ω1 H1 ω1 (upd H1 D (.lst [])) := by
    refine ⟨.refl _, fun b o e _ => ?_, fun b z => ?_, fun b z => .inl z, fun b m => .inl m, fun b od u e => by rw [upd_ne (ne_of_none e hD)]; exact e⟩
    · rw [upd_ne (ne_of_none e hD)]; exact e
    · by_cases hb : b = D
      · subst hb; rw [upd_same]; simp
      · rw [upd_ne hb]; exact z
  refine ⟨fun i m H' => m = xs.length - i ∧ i ≤ xs.length ∧ CompAt X loc (gd X) (wx W σ) ω1 H1 D tg test elt (wipeP env own) ⟨xs, pl⟩ Q i H',
    ⟨xs.length, by simp, Nat.zero_le _, ω1, st1, [], [], x0, wd1.other nFD nρD, upd_same, nFD, nρD, .nil, by simpa using h1⟩, ?_⟩
  rintro i m H2 ⟨rfl, hi, ⟨ω2, st2, acc, vs, x2, wd2, hD2, nF2, nρ2, ra, h2⟩⟩
  have le2 := x2.le
  have h2 : After (gd X) (wx W σ) ω1 H1 ((compL tg test elt (Itms.ok ⟨xs, pl⟩) (xs.drop i) (wipeP env own) st2 acc).bind fun ys st2 => fin loc ys st2) (RV X.K) Q := h2
  have hok : Itms.ok ⟨xs, pl⟩ st2 := by
    by_cases hk : Itms.ok ⟨xs, pl⟩ st2
    · exact hk
    · cases q : xs.drop i with
      | nil => rw [q] at h2; unfold compL at h2; rw [if_neg hk] at h2; exact False.elim h2
      | cons v r => rw [q] at h2; unfold compL at h2; rw [if_neg hk] at h2; exact False.elim h2
  by_cases hlt : i < xs.length
  · refine .inr ⟨r1.goes i ω2 st2 H2 hlt le2 wd2 hok, fun H' => CompAt X loc (gd X) (wx W σ) ω1 H1 D tg test elt (wipeP env own) ⟨xs, pl⟩ Q (i + 1) H', fun H' q => ⟨xs.length - (i + 1), by omega, rfl, hlt, q⟩, fun x H3 y => ?_⟩
    obtain ⟨ω3, v, e3, wd3, hv, r3⟩ := r1.yields i ω2 st2 H2 x H3 hlt le2 wd2 hok y
    have hd : xs.drop i = v :: xs.drop (i + 1) := by
      have hv : xs[i]? = some v := hv
      rw [List.getElem?_eq_getElem hlt] at hv
      cases hv
      exact List.drop_eq_getElem_cons hlt
    rw [hd] at h2
    obtain ⟨hD3, nF3, nρ3⟩ := e3.apart hD2 nF2 nρ2
    unfold compL at h2
    rw [if_pos hok] at h2
    split at h2
    · exact False.elim h2
    · rename_i env3 q3
      have re3 := re1.mono (le2.trans e3.le)
      refine gT_step wd3 re3 r3 q3 fun σ4 re4 b4 => ⟨?_, ?_⟩
      · have b : But own (L2.wipe σ own) σ4 := ⟨b4.1, fun j n => b4.2 j fun m => n (hsl j m)⟩
        rw [wipe_but b]
        exact wipe_but ⟨wipe_length σ own, fun j n => wipe_out n⟩
      · -- the test
        have ht : After (gd X) (wx W0 σ4) ω3 H3 (test env3 st2) RQ fun b H4 => ∃ ω4 st4, Ext ω3 H3 ω4 H4 ∧ Wd X.K ω4 st4 H4 ∧
            After (gd X) (wx W σ) ω1 H1 ((if b = true then (noErr (elt env3 st4)).bind fun y st5 => if acc.length < sizeLine then compL tg test elt (Itms.ok ⟨xs, pl⟩) (xs.drop (i + 1)) (wipeP env own) st5 (acc ++ [y]) else .stuck
              else compL tg test elt (Itms.ok ⟨xs, pl⟩) (xs.drop (i + 1)) (wipeP env own) st4 acc).bind fun ys st2 => fin loc ys st2) (RV X.K) Q := by
          cases qt : test env3 st2 with
          | ok b st' =>
            rw [qt] at h2
            intro ω' H' b' ex w rb
            have rb : b = b' := rb
            subst rb
            exact ⟨ω', st', ex, w, h2⟩
          | err n f st' => rw [qt] at h2; exact False.elim h2
          | stuck => rw [qt] at h2; exact False.elim h2
        refine ⟨ω3, st2, env3, wd3, re4, ht.mono ?_⟩
        rintro b H4 ⟨ω4, st4, e4, wd4, h4⟩
        obtain ⟨hD4, nF4, nρ4⟩ := e4.apart hD3 nF3 nρ3
        have ra4 := ra.mono (e3.le.trans e4.le)
        have x4 := x2.trans (e3.trans e4)
        cases b with
        | false =>
          refine iteF ⟨ω4, st4, acc, vs, x4, wd4, hD4, nF4, nρ4, ra4, ?_⟩
          simpa using h4
        | true =>
          refine iteT ?_
          rw [if_pos rfl] at h4
          have he : After (gd X) (wx W0 σ4) ω4 H4 (elt env3 st4) (RV X.K) fun y H5 => ∃ ω5 st5 yv, Ext ω4 H4 ω5 H5 ∧ Wd X.K ω5 st5 H5 ∧ Rep X.K ω5 yv y ∧ acc.length < sizeLine ∧
              After (gd X) (wx W σ) ω1 H1 ((compL tg test elt (Itms.ok ⟨xs, pl⟩) (xs.drop (i + 1)) (wipeP env own) st5 (acc ++ [yv])).bind fun ys st2 => fin loc ys st2) (RV X.K) Q := by
            cases qe : elt env3 st4 with
            | ok y st' =>
              rw [qe] at h4
              have h4 : After (gd X) (wx W σ) ω1 H1 ((if acc.length < sizeLine then compL tg test elt (Itms.ok ⟨xs, pl⟩) (xs.drop (i + 1)) (wipeP env own) st' (acc ++ [y]) else Res.stuck).bind fun ys st2 => fin loc ys st2) (RV X.K) Q := h4
              intro ω' H' y' ex w ry
              by_cases hz : acc.length < sizeLine
              · rw [if_pos hz] at h4
                exact ⟨ω', st', y, ex, w, ry, hz, h4⟩
              · rw [if_neg hz] at h4
                exact False.elim h4
            | err n f st' => rw [qe] at h4; exact False.elim h4
            | stuck => rw [qe] at h4; exact False.elim h4
          refine ⟨ω4, st4, env3, wd4, re4.mono e4.le, he.mono ?_⟩
          rintro yv H5 ⟨ω5, st5, y, e5, wd5, r5, hz, h5⟩
          obtain ⟨hD5, nF5, nρ5⟩ := e5.apart hD4 nF4 nρ4
          have ra5 := ra4.mono e5.le
          refine ⟨vs, hD5, by rw [← ra.length]; exact hz, ?_⟩
          have xD : Ext ω1 H1 ω5 (upd H5 D (.lst (vs ++ [yv]))) := by
            have z := x4.trans e5
            refine ⟨z.le, fun b o e n => ?_, fun b q => ?_, z.nF, z.nρ, fun b od u e => by rw [upd_ne (ne_of_none e hD)]; exact z.fr b od u e⟩
            · rw [upd_ne (ne_of_none e hD)]; exact z.oth b o e n
            · by_cases hb : b = D
              · subst hb; rw [upd_same]; simp
              · rw [upd_ne hb]; exact z.live b q
          exact ⟨ω5, st5, acc ++ [y], vs ++ [yv], xD, wd5.other nF5 nρ5, upd_same, nF5, nρ5, ra5.append (Reps.one r5), h5⟩
  · have e : i = xs.length := by omega
    subst e
    rw [List.drop_length] at h2
    unfold compL at h2
    rw [if_pos hok] at h2
    refine .inl ⟨r1.stops ω2 st2 H2 le2 wd2 hok, ?_⟩
    cases loc with
    | false =>
      have h2 : After (gd X) (wx W σ) ω1 H1 (.ok (.lst acc) st2) (RV X.K) Q := h2
      have w := wd2.freeze hD2 nF2 nρ2
      have le := Wo.fz_le (o := .lst vs) nF2
      refine h2 _ H2 (.ref D) ⟨le2.trans le, x2.oth, x2.live, fun b z => ?_, x2.nρ, x2.fr⟩ w (.lst upd_same (ra.mono le))
      by_cases hb : b = D
      · subst hb; exact .inr hD
      · have z : upd ω2.F D (.lst vs) b ≠ none := z
        rw [upd_ne hb] at z
        exact x2.nF b z
    | true =>
      have h2 : After (gd X) (wx W σ) ω1 H1 (.ok (.loc st2.length) (st2 ++ [.lst acc])) (RV X.K) Q := h2
      have w := wd2.adopt hD2 nF2 nρ2 ra
      refine h2 _ H2 (.ref D) ⟨le2.trans Wo.nw_le, x2.oth, x2.live, x2.nF, fun b m => ?_, x2.fr⟩ w (.loc ?_)
      · rcases List.mem_append.mp m with m | m
        · exact x2.nρ b m
        · have e : b = D := by simpa using m
          subst e; exact .inr hD
      · rw [← wd2.len]
        simp
theorem me_compG (loc : Bool) {elt tg iter : Expr} {ifs : List Expr} {scope : Scope} {own : List (Str × Nat)} {it : IM} {t : Tg} {ft : TM} {fe : EM} (hc : X.calm = true) (hN : X.N.Nodup) (hi : MI X W tg iter it) (ok : BlkOk X.N X.env.scope scope own)
    (hg : ∀ (s : Shared) (H : Hp) (C : Addr) (cl : List (Str × Addr)) (fp : List Addr), MG (X.blk s H scope (compEnvC scope cl C X.env) fp) tg t)
    (ht : ∀ (s : Shared) (H : Hp) (C : Addr) (cl : List (Str × Addr)) (fp : List Addr), MTs (X.blk s H scope (compEnvC scope cl C X.env) fp) W0 ifs ft)
    (he : ∀ (s : Shared) (H : Hp) (C : Addr) (cl : List (Str × Addr)) (fp : List Addr), ME (X.blk s H scope (compEnvC scope cl C X.env) fp) W0 elt fe)
    (hsl : ∀ i ∈ t.slots, i ∈ own.map (·.2) := by decide) (hs : ∀ x, foldedSetIterable iter X.env x = pure x := by intro _; rfl) :
    ME X W (.ListComp elt [⟨tg, iter, ifs, 0⟩] scope pos) (eCompG loc (own.map (·.2)) it t ft fe) :=
  peI (pe_lc (X := X) (g := gT X.K t) (tt := tG X W0 RQ ft) (te := tG X W0 (RV X.K) fe) hc hN hi ok hg ht he hs) fun σ H Q h => comp_step rfl rfl rfl rfl hsl h
theorem ms_setCompG (loc : Bool) {i : Nat} {y : Str} {py spos : Pos} {elt tg iter : Expr} {ifs : List Expr} {scope : Scope} {own : List (Str × Nat)} {it : IM} {t : Tg} {ft : TM} {fe : EM} (hc : X.calm = true) (hN : X.N.Nodup) (hi : MI X W tg iter it) (ok : BlkOk X.N X.env.scope scope own)
    (hg : ∀ (s : Shared) (H : Hp) (C : Addr) (cl : List (Str × Addr)) (fp : List Addr), MG (X.blk s H scope (compEnvC scope cl C X.env) fp) tg t)
    (ht : ∀ (s : Shared) (H : Hp) (C : Addr) (cl : List (Str × Addr)) (fp : List Addr), MTs (X.blk s H scope (compEnvC scope cl C X.env) fp) W0 ifs ft)
    (he : ∀ (s : Shared) (H : Hp) (C : Addr) (cl : List (Str × Addr)) (fp : List Addr), ME (X.blk s H scope (compEnvC scope cl C X.env) fp) W0 elt fe)
    (hy : X.N[i]? = some y := by rfl) (hyl : X.env.scope.names.lookup y = some .local := by rfl)
    (hsw : swapsWith (.ListComp elt [⟨tg, iter, ifs, 0⟩] scope pos) (some (.Name y py)) spos.line X.env = pure true := by exact sw_true rfl rfl rfl (by decide +kernel))
    (hsl : ∀ i ∈ t.slots, i ∈ own.map (·.2) := by decide) (hs : ∀ x, foldedSetIterable iter X.env x = pure x := by intro _; rfl) :
    MS X W (.Assign [.Name y py] (.ListComp elt [⟨tg, iter, ifs, 0⟩] scope pos) spos) (sSet i (eCompG loc (own.map (·.2)) it t ft fe)) := by
  refine psI (ps_setLc (g := gT X.K t) (tt := tG X W0 RQ ft) (te := tG X W0 (RV X.K) fe) hc hN hy hyl hsw hi ok hg ht he hs) ?_
  rintro D σ H ⟨ω, st, env, wd, re, h⟩
  refine comp_step rfl rfl rfl rfl hsl ⟨ω, st, env, wd, re, (h.bind (Rel := RV X.K) re).mono ?_⟩
  rintro y H1 ⟨ω1, st1, v, e1, wd1, r1, h1⟩
  exact h1.nx_here wd1 ((re.mono e1.le).set r1 i)
end
/-! ### a def of the text -/
def runBody (N : Nat) (f : SM) : List PV → Store → Res PV := fun args st => match f (args.map some ++ List.replicate (N - args.length) none) st with
  | .nx _ st' => .ok .non st'
  | .rt v st' => .ok v st'
  | .err _ n fs st' => .err n fs st'
  | _ => .stuck
theorem Reps.rep_append {K : PySem.W.Frag} {ω : Wo} : ∀ {vs : List PV} {xs : List V} (m : Nat), Reps K ω vs xs → REnv K ω (vs.map some ++ List.replicate m none) (xs.map some ++ List.replicate m none)
  | _, _, m, .nil => ⟨by simp, fun i v e => by
      simp only [List.map_nil, List.nil_append] at e
      rw [List.getElem?_replicate] at e
      split at e <;> cases e⟩
  | _, _, m, .cons r t => by
    have ih := Reps.rep_append m t
    refine ⟨by simpa using ih.len, fun i v e => ?_⟩
    cases i with
    | zero => simp at e; subst e; exact ⟨_, by simp, r⟩
    | succ i => exact ih.at' i v (by simpa using e)
section
variable {P : Program} {w : World} {K : PySem.W.Frag} {mg : Str → Option Value} {base : Heap}
/-- THE RULE for a def that lets no exception out -/
theorem okP {x qual : Str} {st : Stmt} {f : Addr} {fd : FuncData} {N ps : List Str} {k : Nat} {fm : SM} (F : Fun K x qual st f fd) (S : FnScope N ps (defScope st))
    (hbody : ∀ (cdv : Value) (A : Around) (outer : List Env) (s : Shared) (H : Hp) (E : XK), Room k (A.deeper (envOfC qual (defScope st) s.heap.objs.size f cdv)) →
      MB (cxOf CX0 P w K mg base N qual (defScope st) f cdv A outer s H E).nox W0 (defBody st) fm) :
    FnOk P w K mg base CX0 (k + 1) f fd ps (spP ⟨K, mg⟩ ps.length (nE (runBody N.length fm))) := by
  refine F.ok S (fun vs H Q E h => spP_len h) fun cdv A outer s H vs Q E hr h => ⟨_, hbody cdv A outer s H E hr, ?_⟩
  have hl := spP_len h
  obtain ⟨ω, s0, args, wd, r, h⟩ := h
  unfold guardN at h
  rw [if_pos (by rw [r.length]; exact hl)] at h
  refine ⟨ω, s0, args.map some ++ List.replicate (N.length - args.length) none, wd, ?_, ?_⟩
  · unfold L2.start
    rw [r.length]
    exact r.rep_append _
  · have h : After ⟨K, mg⟩ E ω H (noErr (runBody N.length fm args s0)) (RV K) Q := h
    unfold runBody at h
    split at h
    · rename_i q; rw [q]
      exact fun ω' H' σ' x w r => h ω' H' .non x w .non
    · rename_i q; rw [q]
      exact fun ω' H' y x w r => h ω' H' y x w r
    · exact False.elim h
    · exact False.elim h
/-- a def of which nothing is known but its places: no promise -/
theorem okP_zero {x qual : Str} {st : Stmt} {f : Addr} {fd : FuncData} {N ps : List Str} (F : Fun K x qual st f fd) (S : FnScope N ps (defScope st)) :
    FnOk P w K mg base CX0 1 f fd ps (spP ⟨K, mg⟩ ps.length (nE fun _ _ => .stuck)) := by
  refine ⟨fun vs H Q E h => spP_len h, fun A outer s H args us vs Q E hr e0 hb r hsp => ?_⟩
  obtain ⟨ω, s0, args, wd, r, h⟩ := hsp
  unfold guardN at h
  split at h <;> exact False.elim h
/-- a def that calls itself: by turns -/
def fuelF (N : Nat) (body : (List PV → Store → Res PV) → SM) : Nat → List PV → Store → Res PV
  | 0 => fun _ _ => .stuck
  | n + 1 => runBody N (body (fuelF N body n))
theorem okP_rec {x qual : Str} {st : Stmt} {f : Addr} {fd : FuncData} {N ps : List Str} {k : Nat} {body : (List PV → Store → Res PV) → SM} (F : Fun K x qual st f fd) (S : FnScope N ps (defScope st)) (hk : 1 ≤ k)
    (hbody : ∀ (n : Nat), FnOk P w K mg base CX0 (k + n) f fd ps (spP ⟨K, mg⟩ ps.length (nE (fuelF N.length body n))) → ∀ (cdv : Value) (A : Around) (outer : List Env) (s : Shared) (H : Hp) (E : XK), Room (k + n) (A.deeper (envOfC qual (defScope st) s.heap.objs.size f cdv)) →
      MB (cxOf CX0 P w K mg base N qual (defScope st) f cdv A outer s H E).nox W0 (defBody st) (body (fuelF N.length body n))) :
    ∀ n, FnOk P w K mg base CX0 (k + n) f fd ps (spP ⟨K, mg⟩ ps.length (nE (fuelF N.length body n)))
  | 0 => (okP_zero F S).mono hk
  | n + 1 => okP F S (hbody n (okP_rec F S hk hbody n))
end
end PL
/-! PL, part d: operators and built-ins, by plain values. -/
namespace PL
open PySem PySem.Spec PyProof.Rows L2
/-! ### plain values as data -/
mutual
def toD : PV → PyData
  | .non => .none
  | .bl b => .bool b
  | .int i => .int i
  | .str x => .str x
  | .tup xs => .tuple (toDs xs)
  | .lst xs => .list (toDs xs)
  | .frz xs => .list (toDs xs)
  | .loc _ => .none
  | .con _ => .none
  | .exc _ _ _ _ => .none
def toDs : List PV → List PyData
  | [] => []
  | x :: xs => toD x :: toDs xs
end
mutual
def isD : PV → Bool
  | .non => true
  | .bl _ => true
  | .int _ => true
  | .str _ => true
  | .tup xs => isDs xs
  | .lst xs => isDs xs
  | .frz xs => isDs xs
  | .loc _ => false
  | .con _ => false
  | .exc _ _ _ _ => false
def isDs : List PV → Bool
  | [] => true
  | x :: xs => isD x && isDs xs
end
theorem toDs_map : ∀ xs : List PV, toDs xs = xs.map toD
  | [] => by simp [toDs]
  | x :: xs => by simp [toDs, toDs_map xs]
theorem isDs_mem : ∀ {xs : List PV}, isDs xs = true → ∀ x ∈ xs, isD x = true
  | [], _, x, m => by cases m
  | y :: xs, h, x, m => by
    simp only [isDs, Bool.and_eq_true] at h
    rcases List.mem_cons.mp m with e | m
    · rw [e]; exact h.1
    · exact isDs_mem h.2 x m
mutual
theorem plain_toD : ∀ v : PV, (toD v).plain = true
  | .non => by simp [toD, PyData.plain]
  | .bl _ => by simp [toD, PyData.plain]
  | .int _ => by simp [toD, PyData.plain]
  | .str _ => by simp [toD, PyData.plain]
  | .tup xs => by simp [toD, PyData.plain, plain_toDs xs]
  | .lst xs => by simp [toD, PyData.plain, plain_toDs xs]
  | .frz xs => by simp [toD, PyData.plain, plain_toDs xs]
  | .loc _ => by simp [toD, PyData.plain]
  | .con _ => by simp [toD, PyData.plain]
  | .exc _ _ _ _ => by simp [toD, PyData.plain]
theorem plain_toDs : ∀ vs : List PV, PyData.plainAll (toDs vs) = true
  | [] => by simp [toDs, PyData.plainAll]
  | x :: xs => by simp [toDs, PyData.plainAll, plain_toD x, plain_toDs xs]
end
section
variable {K : PySem.W.Frag} {ω : Wo} {H : Hp}
mutual
theorem Rep.dp (sub : Same ω.F H) : ∀ {v : PV} {x : V}, Rep K ω v x → isD v = true → Dp K H x (toD v)
  | _, _, .non, _ => by rw [toD]; exact .non
  | _, _, .bl b, _ => by rw [toD]; exact .bl b
  | _, _, .int i, _ => by rw [toD]; exact .int i
  | _, _, .str x, _ => by rw [toD]; exact .str x
  | _, _, .tup e r, d => by rw [toD]; exact .tup (.of (sub _ _ e)) (Reps.dp sub r (by simpa [isD] using d))
  | _, _, .lst e r, d => by rw [toD]; exact .lst (.of (sub _ _ e)) (Reps.dp sub r (by simpa [isD] using d))
  | _, _, .frz e r, d => by rw [toD]; exact .lst (sub.seq e) (Reps.dp sub r (by simpa [isD] using d))
  | _, _, .loc e, d => by simp [isD] at d
  | _, _, .con v, d => by simp [isD] at d
  | _, _, .exc _ _ _, d => by simp [isD] at d
theorem Reps.dp (sub : Same ω.F H) : ∀ {vs : List PV} {xs : List V}, Reps K ω vs xs → isDs vs = true → DpAll K H xs (toDs vs)
  | _, _, .nil, _ => by rw [toDs]; exact .nil
  | _, _, .cons r t, d => by
    rw [toDs]
    simp only [isDs, Bool.and_eq_true] at d
    exact .cons (Rep.dp sub r d.1) (Reps.dp sub t d.2)
end
end
/-- a list or tuple, read: whether a tuple, its items -/
def seqOf (st : Store) : PV → Option (Bool × List PV)
  | .tup xs => some (true, xs)
  | .lst xs => some (false, xs)
  | .frz xs => some (false, xs)
  | .loc l => match st[l]? with
    | some (.lst xs) => some (false, xs)
    | _ => none
  | _ => none
section
variable {K : PySem.W.Frag} {ω : Wo} {H : Hp} {st : Store}
theorem seqOf_rep (wd : Wd K ω st H) {v : PV} {x : V} (r : Rep K ω v x) {t : Bool} {xs : List PV} (e : seqOf st v = some (t, xs)) : ∃ a vs, x = .ref a ∧ Reps K ω xs vs ∧ ((t = true ∧ SqT K H a vs) ∨ (t = false ∧ SqL K H a vs)) := by
  cases r with
  | tup ea rs => cases e; exact ⟨_, _, rfl, rs, .inl ⟨rfl, .of (wd.sub _ _ ea)⟩⟩
  | lst ea rs => cases e; exact ⟨_, _, rfl, rs, .inr ⟨rfl, .of (wd.sub _ _ ea)⟩⟩
  | frz ea rs => cases e; exact ⟨_, _, rfl, rs, .inr ⟨rfl, wd.sub.seq ea⟩⟩
  | @loc a l ea =>
    unfold seqOf at e
    simp only at e
    split at e
    · rename_i ys q
      cases e
      obtain ⟨vs, h, rs⟩ := wd.obj _ _ _ ea q
      exact ⟨_, _, rfl, rs, .inr ⟨rfl, .of h⟩⟩
    · cases e
  | _ => cases e
end
/-! ### from a run to a rule -/
section
variable {X : Cx}
theorem OpS.mk' {f : Value → Value → Sem Value} {p : PV → PV → Store → Res PV}
    (h : ∀ (pins : List (Addr × Obj)) (s : Shared) (σ : L2.St) (H : Hp) (x y : V) (v u : Value) (Q : VK) (E : XK) (ω : Wo) (st : Store) (a b : PV), Inv X pins σ H s → RelV x v → RelV y u → Wd X.K ω st H → Rep X.K ω a x → Rep X.K ω b y →
      After (gd X) E ω H (p a b st) (RV X.K) Q → wpAny (model X.prog X.w) X.A (f v u) (EP X pins σ Q) X.xe s) : OpS X f p :=
  ⟨fun x y H Q => ∃ (E : XK) (ω : Wo) (st : Store) (a b : PV), Wd X.K ω st H ∧ Rep X.K ω a x ∧ Rep X.K ω b y ∧ After (gd X) E ω H (p a b st) (RV X.K) Q,
    fun pins s σ H x y v u Q I rx ry ⟨E, ω, st, a, b, wd, ra, rb, q⟩ => h pins s σ H x y v u Q E ω st a b I rx ry wd ra rb q, fun E ω st H v w x y Q wd r1 r2 q => ⟨E, ω, st, v, w, wd, r1, r2, q⟩⟩
theorem UnS.mk' {f : Value → Sem Value} {p : PV → Store → Res PV}
    (h : ∀ (pins : List (Addr × Obj)) (s : Shared) (σ : L2.St) (H : Hp) (x : V) (v : Value) (Q : VK) (E : XK) (ω : Wo) (st : Store) (a : PV), Inv X pins σ H s → RelV x v → Wd X.K ω st H → Rep X.K ω a x →
      After (gd X) E ω H (p a st) (RV X.K) Q → wpAny (model X.prog X.w) X.A (f v) (EP X pins σ Q) X.xe s) : UnS X f p :=
  ⟨fun x H Q => ∃ (E : XK) (ω : Wo) (st : Store) (a : PV), Wd X.K ω st H ∧ Rep X.K ω a x ∧ After (gd X) E ω H (p a st) (RV X.K) Q,
    fun pins s σ H x v Q I rx ⟨E, ω, st, a, wd, ra, q⟩ => h pins s σ H x v Q E ω st a I rx wd ra q, fun E ω st H v x Q wd r1 q => ⟨E, ω, st, v, wd, r1, q⟩⟩
theorem CallS.mk' {f : Value} {p : List PV → Store → Res PV}
    (h : ∀ (pins : List (Addr × Obj)) (s : Shared) (σ : L2.St) (H : Hp) (xs : List V) (us : List Value) (Q : VK) (E : XK) (ω : Wo) (st : Store) (as : List PV), Inv X pins σ H s → Vals xs us → Wd X.K ω st H → Reps X.K ω as xs →
      After (gd X) E ω H (p as st) (RV X.K) Q → wpAny (model X.prog X.w) X.A (call f us) (EP X pins σ Q) X.xe s) : CallS X f p :=
  ⟨fun xs H Q => ∃ (E : XK) (ω : Wo) (st : Store) (as : List PV), Wd X.K ω st H ∧ Reps X.K ω as xs ∧ After (gd X) E ω H (p as st) (RV X.K) Q,
    fun pins s σ H xs us Q I rx ⟨E, ω, st, as, wd, ra, q⟩ => h pins s σ H xs us Q E ω st as I rx wd ra q, fun E ω st H vs xs Q wd r1 q => ⟨E, ω, st, vs, wd, r1, q⟩⟩
end
/-! ### arithmetic -/
def pAdd : PV → PV → Store → Res PV
  | .int i, .int j, st => .ok (.int (i + j)) st
  | .str a, .str b, st => if a.length + b.length ≤ sizeLine then .ok (.str (a ++ b)) st else .stuck
  | .tup xs, .tup ys, st => if xs.length + ys.length ≤ sizeLine then .ok (.tup (xs ++ ys)) st else .stuck
  | .lst xs, .lst ys, st => if xs.length + ys.length ≤ sizeLine then .ok (.lst (xs ++ ys)) st else .stuck
  | .loc l, .lst ys, st => match st[l]? with
    | some (.lst xs) => if xs.length + ys.length ≤ sizeLine then .ok (.lst (xs ++ ys)) st else .stuck
    | _ => .stuck
  | _, _, _ => .stuck
def pSub : PV → PV → Store → Res PV
  | .int i, .int j, st => .ok (.int (i - j)) st
  | _, _, _ => .stuck
def pMul : PV → PV → Store → Res PV
  | .int i, .int j, st => if (i.natAbs < 2 ^ 64 ∨ j.natAbs < 2 ^ 64) ∨ i.natAbs.log2 + j.natAbs.log2 < 1000000 then .ok (.int (i * j)) st else .stuck
  | .tup xs, .int k, st => if xs ≠ [] ∧ 2 ≤ k ∧ k ≤ 1000 ∧ xs.length ≤ 1000 then .ok (.tup (List.replicate k.toNat xs).flatten) st else .stuck
  | _, _, _ => .stuck
def pFdiv : PV → PV → Store → Res PV
  | .int i, .int j, st => if 0 < j ∧ j.natAbs.log2 < 9000 then .ok (.int (i / j)) st else .stuck
  | _, _, _ => .stuck
def pMod : PV → PV → Store → Res PV
  | .int i, .int j, st => if 0 < j then .ok (.int (i % j)) st else .stuck
  | _, _, _ => .stuck
def pPow : PV → PV → Store → Res PV
  | .int i, .int j, st => if 0 ≤ j ∧ j ≤ 1000000 ∧ i.natAbs < 2 ^ 64 then .ok (.int (i ^ j.toNat)) st else .stuck
  | _, _, _ => .stuck
def pNeg : PV → Store → Res PV
  | .int i, st => .ok (.int (-i)) st
  | _, _ => .stuck
section
variable {X : Cx}
theorem os_add : OpS X (binaryOp .Add) pAdd := .mk' fun pins s σ H x y v u Q E ω st a b I rx ry wd ra rb h => by
  unfold pAdd at h
  split at h
  · cases ra; cases rb
    exact op_add pins s σ H _ _ v u Q I rx ry ⟨_, _, rfl, rfl, h.ok_here wd (.int _)⟩
  · split at h
    · rename_i hz
      cases ra; cases rb
      exact op_add_str pins s σ H _ _ v u Q I rx ry ⟨_, _, rfl, rfl, hz, h.ok_here wd (.str _)⟩
    · exact False.elim h
  · split at h
    · rename_i xs ys _ hz
      cases ra with
      | tup ea r1 =>
        cases rb with
        | tup eb r2 =>
          refine op_catA pins s σ H _ _ v u Q I rx ry ⟨_, _, _, _, rfl, rfl, .of (wd.sub _ _ ea), .of (wd.sub _ _ eb), by rw [← r1.length, ← r2.length]; exact hz, fun e => ?_, fun n e => ?_, fun n1 n2 p hp => ?_⟩
          · subst e
            cases r1
            exact h.ok_here wd (.tup eb r2)
          · subst e
            cases r2
            rw [List.append_nil] at h
            exact h.ok_here wd (.tup ea r1)
          · exact new_tup wd (r1.append r2) h p hp
    · exact False.elim h
  · split at h
    · rename_i xs ys _ hz
      cases ra with
      | lst ea r1 =>
        cases rb with
        | lst eb r2 =>
          exact op_cat pins s σ H _ _ v u Q I rx ry ⟨_, _, _, _, rfl, rfl, wd.sub _ _ ea, wd.sub _ _ eb, by rw [← r1.length, ← r2.length]; exact hz, new_lst wd (r1.append r2) h⟩
    · exact False.elim h
  · split at h
    · rename_i q
      split at h
      · rename_i hz
        cases ra with
        | loc ea =>
          cases rb with
          | lst eb r2 =>
            obtain ⟨ws, e, r1⟩ := wd.obj _ _ _ ea q
            exact op_cat pins s σ H _ _ v u Q I rx ry ⟨_, _, _, _, rfl, rfl, e, wd.sub _ _ eb, by rw [← r1.length, ← r2.length]; exact hz, new_lst wd (r1.append r2) h⟩
      · exact False.elim h
    · exact False.elim h
  · exact False.elim h
theorem os_sub : OpS X (binaryOp .Sub) pSub := .mk' fun pins s σ H x y v u Q E ω st a b I rx ry wd ra rb h => by
  unfold pSub at h
  split at h
  · cases ra; cases rb
    exact op_sub pins s σ H _ _ v u Q I rx ry ⟨_, _, rfl, rfl, h.ok_here wd (.int _)⟩
  · exact False.elim h
theorem os_mul : OpS X (binaryOp .Mult) pMul := .mk' fun pins s σ H x y v u Q E ω st a b I rx ry wd ra rb h => by
  unfold pMul at h
  split at h
  · split at h
    · rename_i hz
      cases ra; cases rb
      rcases hz with hz | hz
      · refine op_mul pins s σ H _ _ v u Q I rx ry ⟨_, _, rfl, rfl, ?_, h.ok_here wd (.int _)⟩
        unfold CMul
        omega
      · exact op_mulW pins s σ H _ _ v u Q I rx ry ⟨_, _, rfl, rfl, hz, h.ok_here wd (.int _)⟩
    · exact False.elim h
  · split at h
    · rename_i hz
      obtain ⟨h1, h2, h3, h4⟩ := hz
      cases ra with
      | tup ea r1 =>
        cases rb
        refine op_repT pins s σ H _ _ v u Q I rx ry ⟨_, _, _, rfl, rfl, .of (wd.sub _ _ ea), ?_, h2, h3, by rw [← r1.length]; exact h4, new_tup wd (r1.replicate _) h⟩
        intro e; subst e; cases r1; exact h1 rfl
    · exact False.elim h
  · exact False.elim h
theorem os_fdiv : OpS X (binaryOp .FloorDiv) pFdiv := .mk' fun pins s σ H x y v u Q E ω st a b I rx ry wd ra rb h => by
  unfold pFdiv at h
  split at h
  · split at h
    · rename_i hz
      cases ra; cases rb
      exact op_fdivW pins s σ H _ _ v u Q I rx ry ⟨_, _, rfl, rfl, hz, h.ok_here wd (.int _)⟩
    · exact False.elim h
  · exact False.elim h
theorem os_mod : OpS X (binaryOp .Mod) pMod := .mk' fun pins s σ H x y v u Q E ω st a b I rx ry wd ra rb h => by
  unfold pMod at h
  split at h
  · split at h
    · rename_i hz
      cases ra; cases rb
      exact op_mod pins s σ H _ _ v u Q I rx ry ⟨_, _, rfl, rfl, hz, h.ok_here wd (.int _)⟩
    · exact False.elim h
  · exact False.elim h
theorem os_pow : OpS X (binaryOp .Pow) pPow := .mk' fun pins s σ H x y v u Q E ω st a b I rx ry wd ra rb h => by
  unfold pPow at h
  split at h
  · split at h
    · rename_i hz
      cases ra; cases rb
      exact op_pow pins s σ H _ _ v u Q I rx ry ⟨_, _, rfl, rfl, hz, h.ok_here wd (.int _)⟩
    · exact False.elim h
  · exact False.elim h
theorem us_neg : UnS X (unaryOp .USub) pNeg := .mk' fun pins s σ H x v Q E ω st a I rx wd ra h => by
  unfold pNeg at h
  split at h
  · cases ra
    exact un_neg pins s σ H _ v Q I rx ⟨_, rfl, h.ok_here wd (.int _)⟩
  · exact False.elim h
end
/-! ### comparisons -/
def pEq (v w : PV) (st : Store) : Res PV := if isD v = true ∧ isD w = true ∧ min (toD v).depth (toD w).depth ≤ 64 then .ok (.bl (PyData.eqv (toD v) (toD w))) st else .stuck
def pNe (v w : PV) (st : Store) : Res PV := if isD v = true ∧ isD w = true ∧ min (toD v).depth (toD w).depth ≤ 64 then .ok (.bl (!PyData.eqv (toD v) (toD w))) st else .stuck
def isNn : PV → Bool
  | .non => true
  | _ => false
def OrdOk (v w : PV) : Prop := isD v = true ∧ isD w = true ∧ PySem.W.alike (toD v) (toD w) = true ∧ isNn v = false ∧ min (toD v).depth (toD w).depth ≤ 64
instance (v w : PV) : Decidable (OrdOk v w) := by unfold OrdOk; infer_instance
def pLt (v w : PV) (st : Store) : Res PV := if OrdOk v w then .ok (.bl (PySem.W.dataLt (toD v) (toD w))) st else .stuck
def pGt (v w : PV) (st : Store) : Res PV := if OrdOk v w then .ok (.bl (PySem.W.dataLt (toD w) (toD v))) st else .stuck
def pLe (v w : PV) (st : Store) : Res PV := if OrdOk v w then .ok (.bl (!PySem.W.dataLt (toD w) (toD v))) st else .stuck
def pGe (v w : PV) (st : Store) : Res PV := if OrdOk v w then .ok (.bl (!PySem.W.dataLt (toD v) (toD w))) st else .stuck
def inD (v : PV) (xs : List PV) : Bool := xs.any fun y => PyData.eqv (toD y) (toD v)
def inStr (a z : Str) : Bool := match a.cps.toList with
  | [c] => decide (c ∈ z.cps.toList)
  | _ => !(Builtin.Str.occurrences z a 0 z.length 1).isEmpty
def pIn (v w : PV) (st : Store) : Res PV := match v, w with
  | .str a, .str z => .ok (.bl (inStr a z)) st
  | _, _ => match seqOf st w with
    | some (_, xs) => if isD v = true ∧ isDs xs = true ∧ min (PyData.depthAll (toDs xs)) (toD v).depth ≤ 60 then .ok (.bl (inD v xs)) st else .stuck
    | none => .stuck
def pNotIn (v w : PV) (st : Store) : Res PV := match v, w with
  | .str a, .str z => .ok (.bl (!inStr a z)) st
  | _, _ => match seqOf st w with
    | some (_, xs) => if isD v = true ∧ isDs xs = true ∧ min (PyData.depthAll (toDs xs)) (toD v).depth ≤ 60 then .ok (.bl (!inD v xs)) st else .stuck
    | none => .stuck
def isNonP : PV → Option Bool
  | .non => some true
  | .con _ => none
  | _ => some false
def pIs (v w : PV) (st : Store) : Res PV := match w, isNonP v with
  | .non, some b => .ok (.bl b) st
  | _, _ => .stuck
def pIsNot (v w : PV) (st : Store) : Res PV := match w, isNonP v with
  | .non, some b => .ok (.bl (!b)) st
  | _, _ => .stuck
section
variable {X : Cx}
theorem Rep.reads {pins : List (Addr × Obj)} {s : Shared} {σ : L2.St} {H : Hp} {ω : Wo} {st : Store} {v : PV} {x : V} {u : Value} (I : Inv X pins σ H s) (wd : Wd X.K ω st H) (r : Rep X.K ω v x) (d : isD v = true) (rx : RelV x u) : ∃ as, Reads s.heap u (toD v) as :=
  Dp.reads I _ _ _ (r.dp wd.sub d) rx
theorem os_eq (hu : X.A.units + 64 < cLine) : OpS X (compareOp .Eq) pEq := .mk' fun pins s σ H x y v u Q E ω st a b I rx ry wd ra rb h => by
  unfold pEq at h
  split at h
  · rename_i hz
    obtain ⟨da, db, hd⟩ := hz
    obtain ⟨as, r1⟩ := ra.reads I wd da rx
    obtain ⟨bs, r2⟩ := rb.reads I wd db ry
    exact PySem.SeqAt.eq_plain r1 r2 (plain_toD _) (plain_toD _) (by omega) ⟨.bl _, H, I, rfl, h.ok_here wd (.bl _)⟩
  · exact False.elim h
theorem os_ne (hu : X.A.units + 64 < cLine) : OpS X (compareOp .NotEq) pNe := .mk' fun pins s σ H x y v u Q E ω st a b I rx ry wd ra rb h => by
  unfold pNe at h
  split at h
  · rename_i hz
    obtain ⟨da, db, hd⟩ := hz
    obtain ⟨as, r1⟩ := ra.reads I wd da rx
    obtain ⟨bs, r2⟩ := rb.reads I wd db ry
    exact PySem.SeqAt.ne_plain r1 r2 (plain_toD _) (plain_toD _) (by omega) ⟨.bl _, H, I, rfl, h.ok_here wd (.bl _)⟩
  · exact False.elim h
theorem toD_ne_none {v : PV} (d : isD v = true) (n : isNn v = false) : toD v ≠ .none := by
  cases v <;> first | (simp [isNn] at n; done) | (simp [isD] at d; done) | (rw [toD]; intro z; cases z)
theorem os_lt (hu : X.A.units + 64 < cLine) : OpS X (compareOp .Lt) pLt := .mk' fun pins s σ H x y v u Q E ω st a b I rx ry wd ra rb h => by
  unfold pLt at h
  split at h
  · rename_i hz
    obtain ⟨da, db, al, nn, hd⟩ := hz
    obtain ⟨as, r1⟩ := ra.reads I wd da rx
    obtain ⟨bs, r2⟩ := rb.reads I wd db ry
    exact PySem.W.lt_data r1 r2 al (toD_ne_none da nn) (by omega) ⟨.bl _, H, I, rfl, h.ok_here wd (.bl _)⟩
  · exact False.elim h
theorem os_gt (hu : X.A.units + 64 < cLine) : OpS X (compareOp .Gt) pGt := .mk' fun pins s σ H x y v u Q E ω st a b I rx ry wd ra rb h => by
  unfold pGt at h
  split at h
  · rename_i hz
    obtain ⟨da, db, al, nn, hd⟩ := hz
    obtain ⟨as, r1⟩ := ra.reads I wd da rx
    obtain ⟨bs, r2⟩ := rb.reads I wd db ry
    exact PySem.W.gt_data r1 r2 al (toD_ne_none da nn) (by omega) ⟨.bl _, H, I, rfl, h.ok_here wd (.bl _)⟩
  · exact False.elim h
theorem os_le (hu : X.A.units + 64 < cLine) : OpS X (compareOp .LtE) pLe := .mk' fun pins s σ H x y v u Q E ω st a b I rx ry wd ra rb h => by
  unfold pLe at h
  split at h
  · rename_i hz
    obtain ⟨da, db, al, nn, hd⟩ := hz
    obtain ⟨as, r1⟩ := ra.reads I wd da rx
    obtain ⟨bs, r2⟩ := rb.reads I wd db ry
    exact PySem.W.le_data r1 r2 al (toD_ne_none da nn) (by omega) ⟨.bl _, H, I, rfl, h.ok_here wd (.bl _)⟩
  · exact False.elim h
theorem os_ge (hu : X.A.units + 64 < cLine) : OpS X (compareOp .GtE) pGe := .mk' fun pins s σ H x y v u Q E ω st a b I rx ry wd ra rb h => by
  unfold pGe at h
  split at h
  · rename_i hz
    obtain ⟨da, db, al, nn, hd⟩ := hz
    obtain ⟨as, r1⟩ := ra.reads I wd da rx
    obtain ⟨bs, r2⟩ := rb.reads I wd db ry
    exact PySem.W.ge_data r1 r2 al (toD_ne_none da nn) (by omega) ⟨.bl _, H, I, rfl, h.ok_here wd (.bl _)⟩
  · exact False.elim h
theorem inStr_one {a : Str} {c : Nat} (e : a.cps.toList = [c]) : a = ⟨#[c]⟩ := by
  cases a with
  | mk cps =>
    have e : cps.toList = [c] := e
    have : cps = #[c] := by rw [← Array.toArray_toList (xs := cps), e]
    rw [this]
theorem os_in (hu : X.A.units + 64 < cLine) : OpS X (compareOp .In) pIn := .mk' fun pins s σ H x y v u Q E ω st a b I rx ry wd ra rb h => by
  unfold pIn at h
  split at h
  · cases ra; cases rb
    unfold inStr at h
    split at h
    · rename_i c e
      have e := inStr_one e
      subst e
      exact op_in_sign pins s σ H _ _ v u Q I rx ry ⟨_, _, rfl, rfl, h.ok_here wd (.bl _)⟩
    · exact op_in_str pins s σ H _ _ v u Q I rx ry ⟨_, _, rfl, rfl, h.ok_here wd (.bl _)⟩
  · split at h
    · rename_i t xs q
      split at h
      · rename_i hz
        obtain ⟨da, db, hd⟩ := hz
        obtain ⟨as, r1⟩ := ra.reads I wd da rx
        obtain ⟨p, ws, e, rs, ht⟩ := seqOf_rep wd rb q
        subst e
        have hin : Q (.bl ((toDs xs).any fun y => PyData.eqv y (toD a))) H := by
          rw [toDs_map, List.any_map]
          exact h.ok_here wd (.bl _)
        rcases ht with ⟨_, hq⟩ | ⟨_, hq⟩
        · obtain ⟨bs, r2⟩ := Dp.reads I _ _ _ (Dp.tup hq (rs.dp wd.sub db)) ry
          exact PySem.SeqAt.in_tuple_data r2 r1 (plain_toDs _) (plain_toD _) (by omega) ⟨.bl _, H, I, rfl, hin⟩
        · obtain ⟨bs, r2⟩ := Dp.reads I _ _ _ (Dp.lst hq (rs.dp wd.sub db)) ry
          exact PySem.SeqAt.in_list_data r2 r1 (plain_toDs _) (plain_toD _) (by omega) ⟨.bl _, H, I, rfl, hin⟩
      · exact False.elim h
    · exact False.elim h
theorem os_notIn (hu : X.A.units + 64 < cLine) : OpS X (compareOp .NotIn) pNotIn := .mk' fun pins s σ H x y v u Q E ω st a b I rx ry wd ra rb h => by
  unfold pNotIn at h
  split at h
  · cases ra; cases rb
    unfold inStr at h
    split at h
    · rename_i c e
      have e := inStr_one e
      subst e
      exact op_notIn_sign pins s σ H _ _ v u Q I rx ry ⟨_, _, rfl, rfl, h.ok_here wd (.bl _)⟩
    · exact op_notin_str pins s σ H _ _ v u Q I rx ry ⟨_, _, rfl, rfl, h.ok_here wd (.bl _)⟩
  · split at h
    · rename_i t xs q
      split at h
      · rename_i hz
        obtain ⟨da, db, hd⟩ := hz
        obtain ⟨as, r1⟩ := ra.reads I wd da rx
        obtain ⟨p, ws, e, rs, ht⟩ := seqOf_rep wd rb q
        subst e
        have hin : Q (.bl (!(toDs xs).any fun y => PyData.eqv y (toD a))) H := by
          rw [toDs_map, List.any_map]
          exact h.ok_here wd (.bl _)
        rcases ht with ⟨_, hq⟩ | ⟨_, hq⟩
        · obtain ⟨bs, r2⟩ := Dp.reads I _ _ _ (Dp.tup hq (rs.dp wd.sub db)) ry
          exact PySem.SeqAt.notIn_tuple_data r2 r1 (plain_toDs _) (plain_toD _) (by omega) ⟨.bl _, H, I, rfl, hin⟩
        · obtain ⟨bs, r2⟩ := Dp.reads I _ _ _ (Dp.lst hq (rs.dp wd.sub db)) ry
          exact PySem.SeqAt.notIn_list_data r2 r1 (plain_toDs _) (plain_toD _) (by omega) ⟨.bl _, H, I, rfl, hin⟩
      · exact False.elim h
    · exact False.elim h
theorem isNon_rep {K : PySem.W.Frag} {ω : Wo} {v : PV} {x : V} {b : Bool} (r : Rep K ω v x) (e : isNonP v = some b) : decide (x = .non) = b := by
  cases r <;> first | (cases e; simp) | (cases e)
theorem os_is : OpS X (compareOp .Is) pIs := .mk' fun pins s σ H x y v u Q E ω st a b I rx ry wd ra rb h => by
  unfold pIs at h
  split at h
  · rename_i k e
    cases rb
    refine op_isN pins s σ H _ _ v u Q I rx ry ⟨rfl, ?_⟩
    rw [isNon_rep ra e]
    exact h.ok_here wd (.bl _)
  · exact False.elim h
theorem os_isNot : OpS X (compareOp .IsNot) pIsNot := .mk' fun pins s σ H x y v u Q E ω st a b I rx ry wd ra rb h => by
  unfold pIsNot at h
  split at h
  · rename_i k e
    cases rb
    refine op_notN pins s σ H _ _ v u Q I rx ry ⟨rfl, ?_⟩
    rw [isNon_rep ra e]
    exact h.ok_here wd (.bl _)
  · exact False.elim h
end
/-! ### items, slices, stores -/
def pIx (v w : PV) (st : Store) : Res PV := match w with
  | .int i => match v with
    | .str z => match (if z.length ≤ sizeLine then atI z.cps.toList i else none) with
      | some c => .ok (.str ⟨#[c]⟩) st
      | none => .stuck
    | _ => match seqOf st v with
      | some (_, xs) => match atI xs i with
        | some y => .ok y st
        | none => .stuck
      | none => .stuck
  | _ => .stuck
def cutP (xs : List PV) (lo hi : Option Int) : List PV := (xs.drop (HT.sIx xs.length 0 lo)).take (HT.sIx xs.length xs.length hi - HT.sIx xs.length 0 lo)
def pSl (v : PV) (lo hi : Option Int) (st : Store) : Res PV := match v with
  | .str z => if z.length ≤ sizeLine then .ok (.str (cutS z lo hi)) st else .stuck
  | _ => match seqOf st v with
    | some (true, xs) => .ok (.tup (cutP xs lo hi)) st
    | some (false, xs) => .ok (.lst (cutP xs lo hi)) st
    | none => .stuck
def pSet (o i v : PV) (st : Store) : Res Unit := match o, i with
  | .loc l, .int k => match st[l]? with
    | some (.lst xs) => match ixN xs.length k with
      | some j => .ok () (st.set l (.lst (xs.set j v)))
      | none => .stuck
    | _ => .stuck
  | _, _ => .stuck
section
variable {X : Cx}
theorem is_ix : IxS X pIx := by
  refine ⟨_, ix_seq, fun E ω st H v w x y Q wd rv rw' h => ?_⟩
  unfold pIx at h
  split at h
  · rename_i i
    cases rw'
    split at h
    · rename_i z
      cases rv
      split at h
      · rename_i c e
        split at e
        · rename_i hz
          exact .inr (.inr ⟨z, i, c, rfl, rfl, hz, e, h.ok_here wd (.str _)⟩)
        · cases e
      · exact False.elim h
    · split at h
      · rename_i t xs q
        split at h
        · rename_i y e
          obtain ⟨p, ws, ep, rs, ht⟩ := seqOf_rep wd rv q
          subst ep
          unfold atI at e
          rw [Option.bind_eq_some_iff] at e
          obtain ⟨j, e1, e2⟩ := e
          obtain ⟨u, e3, ru⟩ := rs.get e2
          have e4 : atI ws i = some u := by
            unfold atI
            rw [← rs.length, e1]
            exact e3
          rcases ht with ⟨_, hq⟩ | ⟨_, hq⟩
          · exact .inr (.inl ⟨p, ws, i, u, rfl, rfl, hq, e4, h.ok_here wd ru⟩)
          · exact .inl ⟨p, ws, i, u, rfl, rfl, hq, e4, h.ok_here wd ru⟩
        · exact False.elim h
      · exact False.elim h
  · exact False.elim h
theorem cutP_rep {K : PySem.W.Frag} {ω : Wo} {xs : List PV} {ws : List V} (r : Reps K ω xs ws) (lo hi : Option Int) : Reps K ω (cutP xs lo hi) (cutV ws lo hi) := by
  unfold cutP cutV
  rw [← r.length]
  exact (r.drop _).take _
theorem ss_sl : SlS X pSl := by
  refine ⟨_, SlR.or sl_str (SlR.or sl_list sl_tupA), fun E ω st H v x lo hi Q wd rv h => ?_⟩
  unfold pSl at h
  split at h
  · split at h
    · rename_i hz
      cases rv
      exact .inl ⟨_, rfl, hz, h.ok_here wd (.str _)⟩
    · exact False.elim h
  · split at h
    · rename_i xs q
      obtain ⟨p, ws, ep, rs, ht⟩ := seqOf_rep wd rv q
      subst ep
      rcases ht with ⟨_, hq⟩ | ⟨e, _⟩
      · refine .inr (.inr ⟨p, ws, rfl, hq, fun hw => ?_, fun _ => new_tup wd (cutP_rep rs lo hi) h⟩)
        -- the whole: the tuple itself
        have hc : cutP xs lo hi = xs := by
          unfold cutP
          rw [rs.length, hw.1, hw.2, List.drop_zero, Nat.sub_zero, ← rs.length, List.take_length]
        rw [hc] at h
        cases rv with
        | tup ea r1 =>
          cases q
          exact h.ok_here wd (.tup ea r1)
        | loc ea =>
          unfold seqOf at q
          simp only at q
          split at q <;> cases q
        | _ => cases q
      · cases e
    · rename_i xs q
      obtain ⟨p, ws, ep, rs, ht⟩ := seqOf_rep wd rv q
      subst ep
      rcases ht with ⟨e, _⟩ | ⟨_, hq⟩
      · cases e
      · exact .inr (.inl ⟨p, ws, rfl, hq, new_lst wd (cutP_rep rs lo hi) h⟩)
    · exact False.elim h
end
end PL
/-! PL, part e: what is walked: lists, tuples, texts, ranges, enumerate. -/
namespace PySem
open Sem (wp)
set_option maxHeartbeats 1000000 in
theorem meets_enumerate_newB1 {v : Value} {o : Obj} {H : Heap → Prop} (B : Begins v o H) :
    Meets (Builtin.«enumerate.__new__» ⟨[.type "enumerate", v], []⟩) (fun _ R s => H s.heap ∧
      R (.ok (.ret (.ref (s.heap.push o).objs.size))) { s with heap := (s.heap.push o).push { cls := .type "enumerate", data := .fields #[.none, .bool false, .ref s.heap.objs.size, rawInt 0, .none, .none] } }) :=
  .of_wp fun prog w A R s h => by
    obtain ⟨hp, g, d, tk, os⟩ := s; obtain ⟨h1, h⟩ := h
    have hsub := sub_enumerate
    have q1 : ∀ {A' : Around} {E : Value → Shared → Prop} {Q : Value → Shared → Prop}, Q (.ref hp.objs.size) ⟨hp.push o, g, d, tk, os⟩ → wpAny (model prog w) A' (pyIter v) Q E ⟨hp, g, d, tk, os⟩ :=
      fun q => B.iter prog w _ _ ⟨hp, g, d, tk, os⟩ _ h1 q
    wp_walk using q1
    refine wpAny_stack_any fun st => wpAny_pure ?_
    split
    · rename_i c _ _ _ _ _
      cases (c == Value.type "enumerate")
      · wp_walk using q1
        exact ⟨_, rfl, h⟩
      · wp_walk using q1
        exact ⟨_, rfl, h⟩
    · wp_walk using q1
      exact ⟨_, rfl, h⟩
theorem call_enumerate_begins {prog : Program} {w : World} {A : Around} {E : Value → Shared → Prop} {s : Shared} {v : Value} {o : Obj} {H : Heap → Prop} {Q : Value → Shared → Prop} (B : Begins v o H) (h1 : H s.heap)
    (h : ∀ h', IsEnum h' (s.heap.objs.size + 1) s.heap.objs.size 0 .none → h'.get? s.heap.objs.size = some o → h'.objs.size = s.heap.objs.size + 2 →
      (∀ b o, s.heap.get? b = some o → h'.get? b = some o) → Q (.ref (s.heap.objs.size + 1)) { s with heap := h' }) :
    wpAny (model prog w) A (call (.type "enumerate") [v]) Q E s := by
  refine callType_new F.called_enumerate (by decide) (F.typeCall_enumerate_1 _) (F.newCall_enumerate_1 _) (fun obj => F.args_object_init_2 obj _) F.entry_enumerate_new
    (meets_enumerate_newB1 B) ⟨h1, ?_⟩
  have hz : (s.heap.push o).objs.size = s.heap.objs.size + 1 := Heap.size_push ..
  show _ ∧ _
  rw [hz]
  have he : IsEnum ((s.heap.push o).push { cls := .type "enumerate", data := .fields #[.none, .bool false, .ref s.heap.objs.size, rawInt 0, .none, .none] }) (s.heap.objs.size + 1) s.heap.objs.size 0 .none := by
    have := Heap.get?_push_size (s.heap.push o) (o := { cls := .type "enumerate", data := .fields #[.none, .bool false, .ref s.heap.objs.size, rawInt 0, .none, .none] }) rfl
    rw [hz] at this; exact this
  refine ⟨⟨_, he, rfl⟩, h _ he (Heap.get?_push_of_some _ (Heap.get?_push_size _ B.free)) (by rw [Heap.size_push, hz]) fun b o x => Heap.get?_push_of_some _ (Heap.get?_push_of_some _ x)⟩
end PySem
namespace PL
open PySem PySem.Spec PyProof.Rows L2
/-! ### enumerate(tuple) -/
def IteT (K : PySem.W.Frag) (a : Addr) : It :=
  ⟨fun i H => ∃ (xs : List V) (x : V), SqT K H a xs ∧ xs[i]? = some x, fun i H v H' => ∃ T x, v = .ref T ∧ H T = none ∧ H' = upd H T (.tup [.int (i : Nat), x]) ∧ ∀ xs, SqT K H a xs → xs[i]? = some x, fun i H => ∃ xs : List V, SqT K H a xs ∧ xs.length = i⟩
theorem turn_enumT {P : Program} {w : World} {K : PySem.W.Frag} {elts : List Expr} {kk : Nat} {tpos : Pos} (a e it : Addr) (hai : a ≠ it) (hea : e ≠ a) :
    Turn P w K (.Tuple elts kk tpos) (IteT K a) [e, it] e (fun i h => (∃ old, IsEnum h e it ((i : Nat) : Int) old) ∧ h.IsTupleIter it a i ∧ e ≠ it) where
  mem := by simp
  obj := fun i h st b hb => by
    obtain ⟨⟨old, he⟩, ⟨o, ho, hc, hd⟩, _⟩ := st
    have e' : b = e ∨ b = it := by simpa using hb
    rcases e' with z | z
    · rw [z]; exact ⟨_, he, fun v q => nomatch q⟩
    · rw [z]; exact ⟨o, ho, fun v q => by rw [hd] at q; cases q⟩
  keep := fun i h h' st k => let ⟨⟨old, he⟩, hi, hne⟩ := st; ⟨⟨old, k e (by simp) _ he⟩, hi.at fun o q => k it (by simp) o q, hne⟩
  item := by
    intro X hP hw hK hc i pins s σ H E I hf st hg
    subst hP hw hK
    obtain ⟨⟨old, he⟩, hit, hne⟩ := st
    obtain ⟨xs, x, hq, hx⟩ := hg
    obtain ⟨its, rv, p, hz⟩ := I.tuple hq
    obtain ⟨u, hu, ru⟩ := rv.get hx
    have hel : e < s.heap.objs.size := Heap.lt_size he
    have hil : it < s.heap.objs.size := by obtain ⟨_, q, _⟩ := hit; exact Heap.lt_size q
    have D := PySem.Draws.tuple (prog := X.prog) (w := X.w) (A := X.A.in1) (I.ok.hd hc) it a hai its.toArray
    have hlt : i < its.toArray.size := by
      rw [List.size_toArray]
      rcases Nat.lt_or_ge i its.length with z | z
      · exact z
      · rw [List.getElem?_eq_none z] at hu; cases hu
    refine wpAny_pyNext_enum_itemC D he ⟨hit, show s.heap.IsTuple a its.toArray from p⟩ hlt hne (by simp; exact ⟨hne, hea⟩) fun x' h' tk hP ho hS hT hsz hk => ?_
    have hx' : x' = u := by
      have hP : its.toArray[i]? = some x' := hP
      rw [List.getElem?_toArray, hu] at hP
      exact (Option.some.inj hP).symm
    subst hx'
    refine ⟨_, rfl, wpAny_letOwnedTupleGo_enum (s := { s with heap := h', toks := tk + 1 }) ho fun h'' he' sb => ?_⟩
    have hT2 : h''.get? s.heap.objs.size = some { cls := .type "tuple", data := .seq #[.int i tk, x'] } := (sb.2 _ (Nat.ne_of_gt hel)).trans hT
    have new : ObjOk X.prog X.w (upd H s.heap.objs.size (.tup [.int (i : Nat), x])) h'' s.heap.objs.size (.tup [.int (i : Nat), x]) :=
      ⟨by show 2 ≤ sizeLine; decide, [.int i tk, x'], .cons ⟨_, rfl⟩ (.cons ru .nil), ⟨_, hT2, rfl, _, rfl⟩⟩
    have I1 : Inv X pins σ (upd H s.heap.objs.size (.tup [.int (i : Nat), x])) { s with heap := h'', toks := tk + 1 } :=
      I.turnedNew (ch := [e, it]) (fun b ob hb q => (sb.2 b (fun z => hb (by simp [z]))).trans (hk b ob (fun z => hb (by simp [z])) (fun z => hb (by simp [z])) q)) hf (Nat.le_refl _) new
    refine ⟨.ref s.heap.objs.size, _, I1, rfl, ⟨_, x, rfl, I.hok.fresh (Nat.le_refl _), rfl, fun ys hy => by rw [I.tuple_inj hy hq]; exact hx⟩, ⟨⟨x', ?_⟩, hS.1.at fun o q => (sb.2 it (Ne.symm hne)).trans q, hne⟩, fun b hb => ?_⟩
    · have e1 : ((i + 1 : Nat) : Int) = (i : Int) + 1 := by omega
      rw [e1]; exact he'
    · have hb' : b < s.heap.objs.size := by
        have e' : b = e ∨ b = it := by simpa using hb
        rcases e' with z | z
        · rw [z]; exact hel
        · rw [z]; exact hil
      rw [upd_ne (Nat.ne_of_lt hb')]
      exact (hf b hb).1
  done := by
    intro X hP hw hK hc i pins s σ H E I hf st hg
    subst hP hw hK
    obtain ⟨⟨old, he⟩, hit, hne⟩ := st
    obtain ⟨xs, hq, hx⟩ := hg
    obtain ⟨its, rv, p, hz⟩ := I.tuple hq
    obtain ⟨f0, f1, f2, f3, f4, f5⟩ := hf it (by simp)
    have hl := rv.length
    have D := PySem.Draws.tuple (prog := X.prog) (w := X.w) (A := X.A.in1) (I.ok.hd hc) it a hai its.toArray
    have hi : its.toArray.size = i := by rw [List.size_toArray, ← hl]; exact hx
    refine wpAny_pyNext_enum_endD D he ?_ fun h' eb => ⟨rfl, I.turned (t' := s.toks) (fun b o hb q => eb b o hb q) f0 f1 f3 f4 f5⟩
    rw [hi]
    exact ⟨hit, show s.heap.IsTuple a its.toArray from p⟩
  self := fun A i s Q E st h => let ⟨⟨_, he⟩, _⟩ := st; wpAny_pyIter_enum he h
/-! ### the walks, by plain values -/
structure ItR0 (K : PySem.W.Frag) (ω : Wo) (xs : List PV) (J : It) : Prop where
  goes : ∀ i H, i < xs.length → Same ω.F H → J.go i H
  stops : ∀ H, Same ω.F H → J.stop xs.length H
  yields : ∀ i ω1 st H x H', i < xs.length → ω.Le ω1 → Wd K ω1 st H → J.yld i H x H' → ∃ ω2 v, Ext ω1 H ω2 H' ∧ Wd K ω2 st H' ∧ xs[i]? = some v ∧ Rep K ω2 v x
theorem ItR.of0 {K : PySem.W.Frag} {ω : Wo} {xs : List PV} {J : It} (h : ItR0 K ω xs J) : ItR K ω ⟨xs, none⟩ J :=
  ⟨fun i ω1 st H hi le wd _ => h.goes i H hi (le.fz.trans wd.sub), fun ω1 st H le wd _ => h.stops H (le.fz.trans wd.sub), fun i ω1 st H x H' hi le wd _ y => h.yields i ω1 st H x H' hi le wd y⟩
section
variable {K : PySem.W.Frag} {ω : Wo}
theorem itr_loc {a : Addr} {l : Nat} {xs : List PV} (e : ω.ρ[l]? = some a) : ItR K ω ⟨xs, some (l, .lst xs)⟩ (Itl K a) where
  goes := fun i ω1 st H hi le wd ok => by
    obtain ⟨ws, h, r⟩ := wd.obj l a (.lst xs) (le.at e) ok
    have hw : i < ws.length := by rw [← r.length]; exact hi
    exact ⟨ws, ws[i], .of h, by simp [hw]⟩
  stops := fun ω1 st H le wd ok => by
    obtain ⟨ws, h, r⟩ := wd.obj l a (.lst xs) (le.at e) ok
    exact ⟨ws, .of h, by rw [r.length]; exact Nat.le_refl _⟩
  yields := fun i ω1 st H x H' hi le wd ok y => by
    obtain ⟨ws, h, r⟩ := wd.obj l a (.lst xs) (le.at e) ok
    obtain ⟨e1, y⟩ := y
    subst e1
    have hx := y ws (.of h)
    obtain ⟨v, hv, rv⟩ := r.get' hx
    exact ⟨ω1, v, .refl _ _, wd, hv, rv⟩
theorem itr_list {a : Addr} {xs : List PV} {ws : List V} (e : SqL K ω.F a ws) (r : Reps K ω xs ws) : ItR0 K ω xs (Itl K a) where
  goes := fun i H hi s => by
    have hw : i < ws.length := by rw [← r.length]; exact hi
    exact ⟨ws, ws[i], s.seq e, by simp [hw]⟩
  stops := fun H s => ⟨ws, s.seq e, by rw [r.length]; exact Nat.le_refl _⟩
  yields := fun i ω1 st H x H' hi le wd y => by
    obtain ⟨e1, y⟩ := y
    subst e1
    have hx := y ws (wd.sub.seq (le.fz.seq e))
    obtain ⟨v, hv, rv⟩ := r.get' hx
    exact ⟨ω1, v, .refl _ _, wd, hv, rv.mono le⟩
theorem sameT {H H' : Hp} {a : Addr} {xs : List V} (s : Same H H') (h : SqT K H a xs) : SqT K H' a xs := by
  rcases h with (h | ⟨o, h⟩) | h
  · exact .inl (.inl (s _ _ h))
  · exact .inl (.inr ⟨o, s _ _ h⟩)
  · exact .inr h
theorem itr_tup {a : Addr} {xs : List PV} {ws : List V} (e : ω.F a = some (.tup ws)) (r : Reps K ω xs ws) : ItR0 K ω xs (Itt K a) where
  goes := fun i H hi s => by
    have hw : i < ws.length := by rw [← r.length]; exact hi
    exact ⟨ws, ws[i], .of (s _ _ e), by simp [hw]⟩
  stops := fun H s => ⟨ws, .of (s _ _ e), by rw [r.length]; exact Nat.le_refl _⟩
  yields := fun i ω1 st H x H' hi le wd y => by
    obtain ⟨e1, y⟩ := y
    subst e1
    have hx := y ws (.of (wd.sub _ _ (le.fz _ _ e)))
    obtain ⟨v, hv, rv⟩ := r.get' hx
    exact ⟨ω1, v, .refl _ _, wd, hv, rv.mono le⟩
def signs (z : Str) : List PV := z.cps.toList.map fun c => .str ⟨#[c]⟩
theorem itr_str {z : Str} : ItR0 K ω (signs z) (Its z) where
  goes := fun i H hi s => by
    show i < z.cps.size
    simpa [signs] using hi
  stops := fun H s => by
    show z.cps.size ≤ _
    simp [signs]
  yields := fun i ω1 st H x H' hi le wd y => by
    obtain ⟨e1, c, hc, e2⟩ := y
    subst e1
    subst e2
    refine ⟨ω1, .str ⟨#[c]⟩, .refl _ _, wd, ?_, .str _⟩
    unfold signs
    rw [List.getElem?_map]
    have : z.cps.toList[i]? = some c := by rw [Array.getElem?_toList]; exact hc
    rw [this]
    rfl
def rngs (lo : Int) (n : Nat) : List PV := (List.range n).map fun (i : Nat) => .int (lo + (i : Int))
theorem itr_range {lo : Int} {n : Nat} : ItR0 K ω (rngs lo n) (Itr lo n) where
  goes := fun i H hi s => by
    show i < n
    simpa [rngs] using hi
  stops := fun H s => by
    show n ≤ _
    simp [rngs]
  yields := fun i ω1 st H x H' hi le wd y => by
    obtain ⟨e1, e2⟩ := y
    subst e1
    subst e2
    refine ⟨ω1, .int (lo + i), .refl _ _, wd, ?_, .int _⟩
    have hi : i < n := by simpa [rngs] using hi
    simp [rngs, hi]
def enums (xs : List PV) : List PV := xs.zipIdx.map fun p => .tup [.int (p.2 : Nat), p.1]
theorem enums_get {xs : List PV} {i : Nat} {v : PV} (h : xs[i]? = some v) : (enums xs)[i]? = some (.tup [.int (i : Nat), v]) := by
  unfold enums
  rw [List.getElem?_map, List.getElem?_zipIdx, h]
  simp
theorem enum_yield {st : Store} {H : Hp} {ω1 : Wo} {T : Addr} {x : V} {v : PV} {i : Nat} (wd : Wd K ω1 st H) (n : H T = none) (r : Rep K ω1 v x) :
    ∃ ω2 u, Ext ω1 H ω2 (upd H T (.tup [.int (i : Nat), x])) ∧ Wd K ω2 st (upd H T (.tup [.int (i : Nat), x])) ∧ (some (.tup [.int (i : Nat), v]) : Option PV) = some u ∧ Rep K ω2 u (.ref T) := by
  obtain ⟨w, e⟩ := wd.fz n (.tup [.int (i : Nat), x])
  exact ⟨_, _, e, w, rfl, .tup upd_same (.cons (.int _) (.cons (r.mono e.le) .nil))⟩
theorem itr_enumL {a : Addr} {xs : List PV} {ws : List V} (e : SqL K ω.F a ws) (r : Reps K ω xs ws) : ItR0 K ω (enums xs) (Ite K a) where
  goes := fun i H hi s => by
    have hw : i < ws.length := by rw [← r.length]; simpa [enums] using hi
    exact ⟨ws, ws[i], s.seq e, by simp [hw]⟩
  stops := fun H s => ⟨ws, s.seq e, by simp [enums, r.length]⟩
  yields := fun i ω1 st H x H' hi le wd y => by
    obtain ⟨T, z, e1, hT, e2, y⟩ := y
    subst e1
    subst e2
    have hx := y ws (wd.sub.seq (le.fz.seq e))
    obtain ⟨v, hv, rv⟩ := r.get' hx
    rw [enums_get hv]
    exact enum_yield wd hT (rv.mono le)
theorem itr_enumT {a : Addr} {xs : List PV} {ws : List V} (e : ω.F a = some (.tup ws)) (r : Reps K ω xs ws) : ItR0 K ω (enums xs) (IteT K a) where
  goes := fun i H hi s => by
    have hw : i < ws.length := by rw [← r.length]; simpa [enums] using hi
    exact ⟨ws, ws[i], .of (s _ _ e), by simp [hw]⟩
  stops := fun H s => ⟨ws, .of (s _ _ e), by simp [enums, r.length]⟩
  yields := fun i ω1 st H x H' hi le wd y => by
    obtain ⟨T, z, e1, hT, e2, y⟩ := y
    subst e1
    subst e2
    have hx := y ws (.of (wd.sub _ _ (le.fz _ _ e)))
    obtain ⟨v, hv, rv⟩ := r.get' hx
    rw [enums_get hv]
    exact enum_yield wd hT (rv.mono le)
end
/-- a finished list, a tuple, a text, walked -/
def pIter (v : PV) (st : Store) : Res Itms := match v with
  | .tup xs => .ok ⟨xs, none⟩ st
  | .lst xs => .ok ⟨xs, none⟩ st
  | .frz xs => .ok ⟨xs, none⟩ st
  | .str z => .ok ⟨signs z, none⟩ st
  | .loc l => match st[l]? with
    | some (.lst xs) => .ok ⟨xs, some (l, .lst xs)⟩ st
    | _ => .stuck
  | _ => .stuck
def iVal (f : EM) : IM := fun env st => (f env st).bind pIter
def pEnum (v : PV) (st : Store) : Res Itms := match v with
  | .tup xs => .ok ⟨enums xs, none⟩ st
  | .lst xs => .ok ⟨enums xs, none⟩ st
  | .frz xs => .ok ⟨enums xs, none⟩ st
  | _ => .stuck
def iEnumM (f : EM) : IM := fun env st => (f env st).bind pEnum
/-- range(n), range(a, b) -/
def pRange1 (vs : List PV) (st : Store) : Res Itms := match vs with
  | [.int j] => if -(2 ^ 62) ≤ j ∧ j < 2 ^ 62 then .ok ⟨rngs 0 j.toNat, none⟩ st else .stuck
  | _ => .stuck
def pRange2 (vs : List PV) (st : Store) : Res Itms := match vs with
  | [.int i, .int j] => if -(2 ^ 62) ≤ i ∧ i < 2 ^ 62 ∧ -(2 ^ 62) ≤ j ∧ j < 2 ^ 62 then .ok ⟨rngs i (j - i).toNat, none⟩ st else .stuck
  | _ => .stuck
def iRange1 (f : EM) : IM := fun env st => (aCons f aNil env st).bind pRange1
def iRange2 (f g : EM) : IM := fun env st => (aCons f (aCons g aNil) env st).bind pRange2
section
variable {X : Cx} {W : WX} {tg e : Expr} {f : EM} {fs : AM} {p pos : Pos}
theorem mi_val (he : ME X W e f) : MI X W tg e (iVal f) := by
  refine ⟨fun pins s σ H R I h => ?_⟩
  obtain ⟨ω, st, env, wd, re, h⟩ := h
  refine thn (he.run pins s σ H _ I ⟨ω, st, env, wd, re, After.bind (Rel := RV X.K) h⟩) fun v s1 hh => ?_
  obtain ⟨x, H1, I1, r1, ω1, st1, pv, e1, wd1, rp, h1⟩ := hh
  unfold pIter at h1
  split at h1
  · cases rp with
    | tup ea rs =>
      cases r1
      have q : R (Itt X.K _) H1 := h1.ok_here wd1 (.of0 (itr_tup ea rs))
      have hq : SqT X.K H1 _ _ := .of (wd1.sub _ _ ea)
      obtain ⟨its, rv, p, hz⟩ := I1.tuple hq
      refine wpAny_pyIter_tuple (show s1.heap.IsTuple _ its.toArray from p) ?_
      refine ⟨s1.heap.objs.size, [s1.heap.objs.size], _, _, H1, rfl, I1.kept (t' := s1.toks) fun b o e => Heap.get?_push_of_some _ e, turn_tuple _ _, ⟨_, Heap.get?_push_size _ rfl, rfl, rfl⟩, fun b hb => ?_, q⟩
      have e : b = s1.heap.objs.size := by simpa using hb
      subst e
      exact I1.fpOk (Nat.le_refl _) (I1.hok.fresh (Nat.le_refl _))
  · cases rp with
    | lst ea rs =>
      cases r1
      have q : R (Itl X.K _) H1 := h1.ok_here wd1 (.of0 (itr_list (.of ea) rs))
      have hq : SqL X.K H1 _ _ := .of (wd1.sub _ _ ea)
      obtain ⟨its, rv, p, hz⟩ := I1.list hq
      refine wpAny_pyIter_list p.isList ?_
      refine ⟨s1.heap.objs.size, [s1.heap.objs.size], _, _, H1, rfl, I1.kept (t' := s1.toks) fun b o e => Heap.get?_push_of_some _ e, turn_list _ _, ⟨_, Heap.get?_push_size _ rfl, rfl, rfl⟩, fun b hb => ?_, q⟩
      have e : b = s1.heap.objs.size := by simpa using hb
      subst e
      exact I1.fpOk (Nat.le_refl _) (I1.hok.fresh (Nat.le_refl _))
  · cases rp with
    | frz ea rs =>
      cases r1
      have q : R (Itl X.K _) H1 := h1.ok_here wd1 (.of0 (itr_list ea rs))
      have hq : SqL X.K H1 _ _ := wd1.sub.seq ea
      obtain ⟨its, rv, p, hz⟩ := I1.list hq
      refine wpAny_pyIter_list p.isList ?_
      refine ⟨s1.heap.objs.size, [s1.heap.objs.size], _, _, H1, rfl, I1.kept (t' := s1.toks) fun b o e => Heap.get?_push_of_some _ e, turn_list _ _, ⟨_, Heap.get?_push_size _ rfl, rfl, rfl⟩, fun b hb => ?_, q⟩
      have e : b = s1.heap.objs.size := by simpa using hb
      subst e
      exact I1.fpOk (Nat.le_refl _) (I1.hok.fresh (Nat.le_refl _))
  · rename_i z
    cases rp
    have q : R (Its z) H1 := h1.ok_here wd1 (.of0 itr_str)
    obtain ⟨t, rfl⟩ := r1
    cases ha : z.cps.all (· < 128)
    · exact wpAny_pyIter_wide ha (pi_one (tk := s1.toks) I1 _ (turn_str _ z t "str_iterator" (.inr rfl)) ⟨_, Heap.get?_push_size _ rfl, rfl, rfl⟩ q)
    · exact wpAny_pyIter_ascii ha (pi_one (tk := s1.toks) I1 _ (turn_str _ z t "str_ascii_iterator" (.inl rfl)) ⟨_, Heap.get?_push_size _ rfl, rfl, rfl⟩ q)
  · rename_i l
    split at h1
    · rename_i xs ok
      cases rp with
      | loc ea =>
        cases r1
        have q : R (Itl X.K _) H1 := h1.ok_here wd1 (itr_loc ea)
        obtain ⟨ws, hw, rs⟩ := wd1.obj _ _ _ ea ok
        have hq : SqL X.K H1 _ _ := .of hw
        obtain ⟨its, rv, p, hz⟩ := I1.list hq
        refine wpAny_pyIter_list p.isList ?_
        refine ⟨s1.heap.objs.size, [s1.heap.objs.size], _, _, H1, rfl, I1.kept (t' := s1.toks) fun b o e => Heap.get?_push_of_some _ e, turn_list _ _, ⟨_, Heap.get?_push_size _ rfl, rfl, rfl⟩, fun b hb => ?_, q⟩
        have e : b = s1.heap.objs.size := by simpa using hb
        subst e
        exact I1.fpOk (Nat.le_refl _) (I1.hok.fresh (Nat.le_refl _))
    · exact False.elim h1
  · exact False.elim h1
theorem mi_range1 {a : Expr} {f1 : EM} (hg : Gl X "range") (hm : X.mg "range" = none) (ha : ME X W a f1) (hs : starEach [a] X.env = [(false, eval a X.env)] := by rfl) : MI X W tg (.Call (.Name "range" p) [a] [] pos) (iRange1 f1) := by
  refine piI (pi_range1 hg hm (ma_cons ha ma_nil (by rw [hs]; rfl)) hs) ?_
  rintro σ H Q ⟨ω, st, env, wd, re, h⟩
  refine ⟨ω, st, env, wd, re, (After.bind (Rel := RL X.K) h).mono ?_⟩
  rintro vs H1 ⟨ω1, st1, ps, e1, wd1, r1, h1⟩
  unfold pRange1 at h1
  split at h1
  · split at h1
    · rename_i j hz
      cases r1 with
      | cons ra r =>
        cases r
        cases ra
        exact ⟨j, rfl, hz.1, hz.2, h1.ok_here wd1 (.of0 itr_range)⟩
    · exact False.elim h1
  · exact False.elim h1
theorem mi_range2 {a b : Expr} {f1 f2 : EM} (hg : Gl X "range") (hm : X.mg "range" = none) (ha : ME X W a f1) (hb : ME X W b f2) (hs : starEach [a, b] X.env = [(false, eval a X.env), (false, eval b X.env)] := by rfl) (hs2 : starEach [b] X.env = [(false, eval b X.env)] := by rfl) :
    MI X W tg (.Call (.Name "range" p) [a, b] [] pos) (iRange2 f1 f2) := by
  refine piI (pi_range2 hg hm (ma_cons ha (ma_cons hb ma_nil (by rw [hs2]; rfl)) (by rw [hs, hs2])) hs hs2) ?_
  rintro σ H Q ⟨ω, st, env, wd, re, h⟩
  refine ⟨ω, st, env, wd, re, (After.bind (Rel := RL X.K) h).mono ?_⟩
  rintro vs H1 ⟨ω1, st1, ps, e1, wd1, r1, h1⟩
  unfold pRange2 at h1
  split at h1
  · split at h1
    · rename_i i j hz
      cases r1 with
      | cons ra r =>
        cases r with
        | cons rb r =>
          cases r
          cases ra
          cases rb
          exact ⟨i, j, rfl, hz, h1.ok_here wd1 (.of0 itr_range)⟩
    · exact False.elim h1
  · exact False.elim h1
theorem mi_enum {a : Expr} {f1 : EM} {elts : List Expr} {kk : Nat} {tpos : Pos} (hg : Gl X "enumerate") (hm : X.mg "enumerate" = none) (ha : ME X W a f1) (hs : starEach [a] X.env = [(false, eval a X.env)] := by rfl) :
    MI X W (.Tuple elts kk tpos) (.Call (.Name "enumerate" p) [a] [] pos) (iEnumM f1) := by
  refine ⟨fun pins s σ H R I h => ?_⟩
  obtain ⟨ω, st, env, wd, re, h⟩ := h
  have hA : tG X W (RL X.K) (aCons f1 aNil) σ H (fun vs H1 => ∃ x ω1 st1 pv, vs = [x] ∧ Ext ω H ω1 H1 ∧ Wd X.K ω1 st1 H1 ∧ Rep X.K ω1 pv x ∧ After (gd X) (wx W σ) ω1 H1 (pEnum pv st1) (RI X.K) R) := by
    refine ⟨ω, st, env, wd, re, ?_⟩
    have h : After (gd X) (wx W σ) ω H ((f1 env st).bind pEnum) (RI X.K) R := h
    show After (gd X) (wx W σ) ω H ((f1 env st).bind fun v st1 => .ok [v] st1) (RL X.K) _
    cases q : f1 env st with
    | ok v st1 =>
      rw [q] at h
      intro ω' H' vs ex w r
      cases r with
      | cons r1 r =>
        cases r
        exact ⟨_, ω', st1, v, rfl, ex, w, r1, After.shift h ex⟩
    | err n fs st1 => rw [q] at h; exact h
    | stuck => rw [q] at h; exact h
  refine Call_ (ld_blt I hg hm boot_enumerate (PyProof.Rows.callWith_type1 (thn ((ma_cons ha ma_nil (by rw [hs]; rfl)).run pos pins s σ H _ I hA) fun us s1 hh => ?_) hs rfl))
  obtain ⟨vs, H1, I1, r1, x, ω1, st1, pv, ev, e1, wd1, rp, h1⟩ := hh
  subst ev
  obtain ⟨u, rfl, ru⟩ := vals1 r1
  have ends : ∀ {a : Addr} {J : It} {tn : Nat → Heap → Prop} {h' : Heap}, (∀ b o, s1.heap.get? b = some o → h'.get? b = some o) → Turn X.prog X.w X.K (.Tuple elts kk tpos) J [s1.heap.objs.size + 1, s1.heap.objs.size] (s1.heap.objs.size + 1) tn → tn 0 h' → R J H1 →
      PIE X pins σ (.Tuple elts kk tpos) R (.ref (s1.heap.objs.size + 1)) { s1 with heap := h' } := fun {a J tn h'} hk T t0 q => by
    refine ⟨s1.heap.objs.size + 1, [s1.heap.objs.size + 1, s1.heap.objs.size], _, _, H1, rfl, I1.kept (t' := s1.toks) hk, T, t0, fun b hb => ?_, q⟩
    have e' : b = s1.heap.objs.size + 1 ∨ b = s1.heap.objs.size := by simpa using hb
    have hle : s1.heap.objs.size ≤ b := by
      rcases e' with z | z
      · rw [z]; exact Nat.le_add_right _ _
      · rw [z]; exact Nat.le_refl _
    exact I1.fpOk hle (I1.hok.fresh hle)
  unfold pEnum at h1
  split at h1
  · cases rp with
    | @tup a _ _ ea rs =>
      cases ru
      have q : R (IteT X.K _) H1 := h1.ok_here wd1 (.of0 (itr_enumT ea rs))
      have hq : SqT X.K H1 _ _ := .of (wd1.sub _ _ ea)
      obtain ⟨its, rv, p', hz⟩ := I1.tuple hq
      have hlt : a < s1.heap.objs.size := by obtain ⟨o, ho, _⟩ := p'; exact Heap.lt_size ho
      refine call_enumerate_begins (begins_tuple a its.toArray) (show s1.heap.IsTuple a its.toArray from p') fun h' he hit hsz hk => wpAny_pyIter_enum he ?_
      exact ends (a := a) hk (turn_enumT a _ _ (Nat.ne_of_lt hlt) (Nat.ne_of_gt (Nat.lt_succ_of_lt hlt))) ⟨⟨.none, he⟩, ⟨_, hit, rfl, rfl⟩, Nat.succ_ne_self _⟩ q
  · cases rp with
    | @lst a _ _ ea rs =>
      cases ru
      have q : R (Ite X.K _) H1 := h1.ok_here wd1 (.of0 (itr_enumL (.of ea) rs))
      have hq : SqL X.K H1 _ _ := .of (wd1.sub _ _ ea)
      obtain ⟨its, rv, p', hz⟩ := I1.list hq
      refine call_enumerate_list p'.isList fun h' he hit hsz hk => wpAny_pyIter_enum he ?_
      exact ends (a := a) hk (turn_enum a _ _) ⟨⟨.none, he⟩, hit, Nat.succ_ne_self _⟩ q
  · cases rp with
    | @frz a _ _ ea rs =>
      cases ru
      have q : R (Ite X.K _) H1 := h1.ok_here wd1 (.of0 (itr_enumL ea rs))
      have hq : SqL X.K H1 _ _ := wd1.sub.seq ea
      obtain ⟨its, rv, p', hz⟩ := I1.list hq
      refine call_enumerate_list p'.isList fun h' he hit hsz hk => wpAny_pyIter_enum he ?_
      exact ends (a := a) hk (turn_enum a _ _) ⟨⟨.none, he⟩, hit, Nat.succ_ne_self _⟩ q
  · exact False.elim h1
end
end PL
/-! PL, part f: built-ins and methods, by plain values. -/
namespace PL
open PySem PySem.Spec PyProof.Rows L2
def intsOf : List PV → Option (List Int)
  | [] => some []
  | .int i :: r => (intsOf r).map (i :: ·)
  | _ :: _ => none
def strsOf : List PV → Option (List Str)
  | [] => some []
  | .str i :: r => (strsOf r).map (i :: ·)
  | _ :: _ => none
theorem intsOf_map : ∀ {xs : List PV} {ns : List Int}, intsOf xs = some ns → xs = ns.map PV.int
  | [], ns, e => by cases e; rfl
  | x :: r, ns, e => by
    cases x with
    | int i =>
      unfold intsOf at e
      rw [Option.map_eq_some_iff] at e
      obtain ⟨ms, e1, e2⟩ := e
      subst e2
      rw [List.map_cons, ← intsOf_map e1]
    | _ => cases e
theorem intsOf_ints : ∀ ns : List Int, intsOf (ns.map PV.int) = some ns
  | [] => rfl
  | n :: ns => by rw [List.map_cons, intsOf, intsOf_ints ns]; rfl
theorem strsOf_map : ∀ {xs : List PV} {ns : List Str}, strsOf xs = some ns → xs = ns.map PV.str
  | [], ns, e => by cases e; rfl
  | x :: r, ns, e => by
    cases x with
    | str i =>
      unfold strsOf at e
      rw [Option.map_eq_some_iff] at e
      obtain ⟨ms, e1, e2⟩ := e
      subst e2
      rw [List.map_cons, ← strsOf_map e1]
    | _ => cases e
theorem strsOf_strs : ∀ ns : List Str, strsOf (ns.map PV.str) = some ns
  | [] => rfl
  | n :: ns => by rw [List.map_cons, strsOf, strsOf_strs ns]; rfl
section
variable {K : PySem.W.Frag} {ω : Wo}
theorem reps_ints : ∀ {ns : List Int} {ws : List V}, Reps K ω (ns.map PV.int) ws → ws = ns.map V.int
  | [], _, .nil => rfl
  | n :: ns, _, .cons r t => by cases r; rw [List.map_cons, reps_ints t]
theorem reps_strs : ∀ {ns : List Str} {ws : List V}, Reps K ω (ns.map PV.str) ws → ws = ns.map V.str
  | [], _, .nil => rfl
  | n :: ns, _, .cons r t => by cases r; rw [List.map_cons, reps_strs t]
end
/-! ### calls of one value -/
def one (p : PV → Store → Res PV) : List PV → Store → Res PV
  | [v], st => p v st
  | _, _ => .stuck
def pLen (v : PV) (st : Store) : Res PV := match v with
  | .str z => if z.length ≤ sizeLine then .ok (.int z.length) st else .stuck
  | _ => match seqOf st v with
    | some (_, xs) => .ok (.int xs.length) st
    | none => .stuck
def pInt (v : PV) (st : Store) : Res PV := match v with
  | .int i => .ok (.int i) st
  | .bl b => .ok (.int (if b then 1 else 0)) st
  | .str a => if a.length ≤ 640 then match PySem.intText? a with
    | some n => .ok (.int n) st
    | none => .stuck else .stuck
  | _ => .stuck
def strInt (i : Int) : Str := toString i
def pStr (v : PV) (st : Store) : Res PV := match v with
  | .int i => if i.natAbs.log2 < 1920 then .ok (.str (strInt i)) st else .stuck
  | _ => .stuck
def pAbs (v : PV) (st : Store) : Res PV := match v with
  | .int i => .ok (.int (if i < 0 then -i else i)) st
  | _ => .stuck
def pSum (v : PV) (st : Store) : Res PV := match seqOf st v with
  | some (false, xs) => match intsOf xs with
    | some ns => .ok (.int ns.sum) st
    | none => .stuck
  | _ => .stuck
def pMin (v : PV) (st : Store) : Res PV := match seqOf st v with
  | some (_, xs) => match intsOf xs with
    | some (n :: ns) => .ok (.int (ns.foldl min n)) st
    | _ => .stuck
  | _ => .stuck
def pMax (v : PV) (st : Store) : Res PV := match seqOf st v with
  | some (_, xs) => match intsOf xs with
    | some (n :: ns) => .ok (.int (ns.foldl max n)) st
    | _ => .stuck
  | _ => .stuck
def pTuple (v : PV) (st : Store) : Res PV := match seqOf st v with
  | some (_, xs) => .ok (.tup xs) st
  | _ => .stuck
def pList (v : PV) (st : Store) : Res PV := match seqOf st v with
  | some (_, xs) => .ok (.lst xs) st
  | _ => .stuck
/-- list(v), to be changed -/
def pListLoc (v : PV) (st : Store) : Res PV := match seqOf st v with
  | some (_, xs) => .ok (.loc st.length) (st ++ [.lst xs])
  | _ => .stuck
def SortOk (xs : List PV) : Prop := isDs xs = true ∧ (∀ d ∈ toDs xs, ∀ d' ∈ toDs xs, PySem.W.alike d d' = true) ∧ ((∀ d ∈ toDs xs, ∃ x r, d = .tuple (x :: r)) ∨ ∀ d ∈ toDs xs, d ≠ .none ∧ ∀ ys, d ≠ .tuple ys) ∧ ∀ d ∈ toDs xs, d.depth ≤ 60
open Classical in
noncomputable def pSorted (v : PV) (st : Store) : Res PV := match seqOf st v with
  | some (false, xs) => if SortOk xs then .ok (.lst (xs.mergeSort (PySem.W.dataLe false toD))) st else .stuck
  | _ => .stuck
section
variable {X : Cx}
theorem CallS.one {f : Value} {p : PV → Store → Res PV}
    (h : ∀ (pins : List (Addr × Obj)) (s : Shared) (σ : L2.St) (H : Hp) (x : V) (u : Value) (Q : VK) (E : XK) (ω : Wo) (st : Store) (a : PV), Inv X pins σ H s → RelV x u → Wd X.K ω st H → Rep X.K ω a x →
      After (gd X) E ω H (p a st) (RV X.K) Q → wpAny (model X.prog X.w) X.A (call f [u]) (EP X pins σ Q) X.xe s) : CallS X f (one p) := .mk' fun pins s σ H xs us Q E ω st as I rx wd ra q => by
  unfold PL.one at q
  split at q
  · cases ra with
    | cons r t =>
      cases t
      obtain ⟨u, rfl, ru⟩ := vals1 rx
      exact h pins s σ H _ u Q E ω st _ I ru wd r q
  · exact False.elim q
theorem vals_one {x : V} {u : Value} (r : RelV x u) : Vals [x] [u] := .cons r .nil
theorem cs_len : CallS X (.builtin "len") (one pLen) := .one fun pins s σ H x u Q E ω st a I rx wd ra h => by
  unfold pLen at h
  split at h
  · split at h
    · rename_i hz
      cases ra
      exact call_len_str pins s σ H [_] [u] Q I (vals_one rx) ⟨_, rfl, hz, h.ok_here wd (.int _)⟩
    · exact False.elim h
  · split at h
    · rename_i t xs q
      obtain ⟨p, ws, e, rs, ht⟩ := seqOf_rep wd ra q
      subst e
      have hl : (xs.length : Int) = (ws.length : Int) := by rw [rs.length]
      rw [hl] at h
      refine call_len_seq pins s σ H [_] [u] Q I (vals_one rx) ⟨p, ws, rfl, ?_, h.ok_here wd (.int _)⟩
      rcases ht with ⟨_, hq⟩ | ⟨_, hq⟩
      · exact .inr hq
      · exact .inl hq
    · exact False.elim h
theorem cs_int : CallS X (.type "int") (one pInt) := .one fun pins s σ H x u Q E ω st a I rx wd ra h => by
  unfold pInt at h
  split at h
  · cases ra
    exact call_int1 pins s σ H [_] [u] Q I (vals_one rx) (.inl ⟨_, rfl, h.ok_here wd (.int _)⟩)
  · cases ra
    exact call_int1 pins s σ H [_] [u] Q I (vals_one rx) (.inr ⟨_, rfl, h.ok_here wd (.int _)⟩)
  · split at h
    · rename_i hz
      split at h
      · rename_i n e
        cases ra
        exact call_int_str pins s σ H [_] [u] Q I (vals_one rx) ⟨_, n, rfl, e, hz, h.ok_here wd (.int _)⟩
      · exact False.elim h
    · exact False.elim h
  · exact False.elim h
theorem cs_str : CallS X (.type "str") (one pStr) := .one fun pins s σ H x u Q E ω st a I rx wd ra h => by
  unfold pStr at h
  split at h
  · split at h
    · rename_i hz
      cases ra
      exact call_str_int pins s σ H [_] [u] Q I (vals_one rx) ⟨_, rfl, hz, h.ok_here wd (.str _)⟩
    · exact False.elim h
  · exact False.elim h
theorem cs_abs : CallS X (.builtin "abs") (one pAbs) := .one fun pins s σ H x u Q E ω st a I rx wd ra h => by
  unfold pAbs at h
  split at h
  · cases ra
    exact call_abs pins s σ H [_] [u] Q I (vals_one rx) ⟨_, rfl, h.ok_here wd (.int _)⟩
  · exact False.elim h
theorem cs_sum (hc : X.calm = true) : CallS X (.builtin "sum") (one pSum) := .one fun pins s σ H x u Q E ω st a I rx wd ra h => by
  unfold pSum at h
  split at h
  · rename_i xs q
    split at h
    · rename_i ns e
      obtain ⟨p, ws, e1, rs, ht⟩ := seqOf_rep wd ra q
      subst e1
      rw [intsOf_map e] at rs
      have e2 := reps_ints rs
      subst e2
      rcases ht with ⟨z, _⟩ | ⟨_, hq⟩
      · cases z
      · exact cr_sum hc pins s σ H [_] [u] Q I (vals_one rx) ⟨p, ns, rfl, hq, h.ok_here wd (.int _)⟩
    · exact False.elim h
  · exact False.elim h
theorem depth_ints0 (ns : List Int) : PyData.depthAll (ns.map .int) = 0 := PySem.W.depth_ints ns
theorem dpAll_ints {H : Hp} : ∀ ns : List Int, DpAll X.K H (ns.map V.int) (ns.map PyData.int)
  | [] => .nil
  | n :: ns => .cons (.int n) (dpAll_ints ns)
theorem alike_ints (n : Int) (ns : List Int) : PySem.W.AlikeAll (PyData.int n :: ns.map PyData.int) := by
  refine ⟨fun x hx y hy => ?_, fun x hx => ?_⟩
  · have e : ∀ z ∈ (PyData.int n :: ns.map PyData.int), ∃ k, z = .int k := fun z hz => by
      rcases List.mem_cons.mp hz with e | hz
      · exact ⟨_, e⟩
      · obtain ⟨k, _, rfl⟩ := List.mem_map.mp hz
        exact ⟨k, rfl⟩
    obtain ⟨a, rfl⟩ := e x hx
    obtain ⟨b, rfl⟩ := e y hy
    rfl
  · rcases List.mem_cons.mp hx with e | hx
    · rw [e]; intro z; cases z
    · obtain ⟨k, _, rfl⟩ := List.mem_map.mp hx
      intro z; cases z
theorem reads_int {h : Heap} {v : Value} {m : Int} {bs : List Addr} (r : Reads h v (.int m) bs) : ∃ t, v = .int m t := by
  cases r
  exact ⟨_, rfl⟩
theorem cs_min (hc : X.calm = true) (hu : X.A.units + 64 < cLine) : CallS X (.builtin "min") (one pMin) := .one fun pins s σ H x u Q E ω st a I rx wd ra h => by
  unfold pMin at h
  split at h
  · rename_i t xs q
    split at h
    · rename_i n ns e
      obtain ⟨p, ws, e1, rs, ht⟩ := seqOf_rep wd ra q
      subst e1
      rw [intsOf_map e] at rs
      have e2 := reps_ints rs
      subst e2
      cases rx
      have hd : X.A.units + 1 + PyData.depthAll (PyData.int n :: ns.map PyData.int) < cLine := by
        have e : PyData.depthAll (PyData.int n :: ns.map PyData.int) = 0 := depth_ints0 (n :: ns)
        rw [e]; omega
      have fin : ∀ (i : Nat) v h' tk bs, Reads h' v (PySem.W.minD (.int n) (ns.map .int)) bs → (∀ b o, s.heap.get? b = some o → h'.get? b = some o) → EP X pins σ Q v { s with heap := h', toks := tk } := fun i v h' tk bs r hk => by
        rw [PySem.W.minD_ints] at r
        obtain ⟨t, rfl⟩ := reads_int r
        exact ⟨.int _, H, I.kept hk, ⟨_, rfl⟩, h.ok_here wd (.int _)⟩
      rcases ht with ⟨_, hq⟩ | ⟨_, hq⟩
      · obtain ⟨its, rv, hl, _⟩ := I.tuple hq
        obtain ⟨as, hr⟩ := Dp.readsAll I _ _ _ (dpAll_ints (n :: ns)) rv
        exact PySem.W.min_tuple_data (I.ok.hd hc) (show s.heap.IsTuple p its.toArray from hl) (as := as) (by simpa using hr) (alike_ints n ns) hd fun i v h' tk bs _ r hk => fin i v h' tk bs r hk
      · obtain ⟨its, rv, hl, _⟩ := I.list hq
        obtain ⟨as, hr⟩ := Dp.readsAll I _ _ _ (dpAll_ints (n :: ns)) rv
        exact PySem.W.min_list_data (I.ok.hd hc) hl.isList (as := as) (by simpa using hr) (alike_ints n ns) hd fun i v h' tk bs _ r hk => fin i v h' tk bs r hk
    · exact False.elim h
  · exact False.elim h
theorem cs_max (hc : X.calm = true) (hu : X.A.units + 64 < cLine) : CallS X (.builtin "max") (one pMax) := .one fun pins s σ H x u Q E ω st a I rx wd ra h => by
  unfold pMax at h
  split at h
  · rename_i t xs q
    split at h
    · rename_i n ns e
      obtain ⟨p, ws, e1, rs, ht⟩ := seqOf_rep wd ra q
      subst e1
      rw [intsOf_map e] at rs
      have e2 := reps_ints rs
      subst e2
      cases rx
      have hd : X.A.units + 1 + PyData.depthAll (PyData.int n :: ns.map PyData.int) < cLine := by
        have e : PyData.depthAll (PyData.int n :: ns.map PyData.int) = 0 := depth_ints0 (n :: ns)
        rw [e]; omega
      have fin : ∀ (i : Nat) v h' tk bs, Reads h' v (PySem.W.maxD (.int n) (ns.map .int)) bs → (∀ b o, s.heap.get? b = some o → h'.get? b = some o) → EP X pins σ Q v { s with heap := h', toks := tk } := fun i v h' tk bs r hk => by
        rw [PySem.W.maxD_ints] at r
        obtain ⟨t, rfl⟩ := reads_int r
        exact ⟨.int _, H, I.kept hk, ⟨_, rfl⟩, h.ok_here wd (.int _)⟩
      rcases ht with ⟨_, hq⟩ | ⟨_, hq⟩
      · obtain ⟨its, rv, hl, _⟩ := I.tuple hq
        obtain ⟨as, hr⟩ := Dp.readsAll I _ _ _ (dpAll_ints (n :: ns)) rv
        exact PySem.W.max_tuple_data (I.ok.hd hc) (show s.heap.IsTuple p its.toArray from hl) (as := as) (by simpa using hr) (alike_ints n ns) hd fun i v h' tk bs _ r hk => fin i v h' tk bs r hk
      · obtain ⟨its, rv, hl, _⟩ := I.list hq
        obtain ⟨as, hr⟩ := Dp.readsAll I _ _ _ (dpAll_ints (n :: ns)) rv
        exact PySem.W.max_list_data (I.ok.hd hc) hl.isList (as := as) (by simpa using hr) (alike_ints n ns) hd fun i v h' tk bs _ r hk => fin i v h' tk bs r hk
    · exact False.elim h
  · exact False.elim h
theorem cs_tuple : CallS X (.type "tuple") (one pTuple) := .one fun pins s σ H x u Q E ω st a I rx wd ra h => by
  unfold pTuple at h
  split at h
  · rename_i t xs q
    obtain ⟨p, ws, e, rs, ht⟩ := seqOf_rep wd ra q
    subst e
    rcases ht with ⟨e, hq⟩ | ⟨_, hq⟩
    · subst e
      refine call_tuple_of pins s σ H [_] [u] Q I (vals_one rx) ⟨p, ws, rfl, .inr ⟨hq, ?_⟩⟩
      cases ra with
      | tup ea r1 =>
        cases q
        exact h.ok_here wd (.tup ea r1)
      | loc ea =>
        unfold seqOf at q
        simp only at q
        split at q <;> cases q
      | _ => cases q
    · exact call_tuple_of pins s σ H [_] [u] Q I (vals_one rx) ⟨p, ws, rfl, .inl ⟨hq, new_tup wd rs h⟩⟩
  · exact False.elim h
theorem cs_list : CallS X (.type "list") (one pList) := .one fun pins s σ H x u Q E ω st a I rx wd ra h => by
  unfold pList at h
  split at h
  · rename_i t xs q
    obtain ⟨p, ws, e, rs, ht⟩ := seqOf_rep wd ra q
    subst e
    exact call_list_of pins s σ H [_] [u] Q I (vals_one rx) ⟨p, ws, rfl, ht.elim (fun z => .inr z.2) (fun z => .inl z.2), new_lst wd rs h⟩
  · exact False.elim h
theorem cs_listLoc : CallS X (.type "list") (one pListLoc) := .one fun pins s σ H x u Q E ω st a I rx wd ra h => by
  unfold pListLoc at h
  split at h
  · rename_i t xs q
    obtain ⟨p, ws, e, rs, ht⟩ := seqOf_rep wd ra q
    subst e
    exact call_list_of pins s σ H [_] [u] Q I (vals_one rx) ⟨p, ws, rfl, ht.elim (fun z => .inr z.2) (fun z => .inl z.2), new_loc wd rs h⟩
  · exact False.elim h
/-- items that stand for plain values -/
def Stands (K : PySem.W.Frag) (ω : Wo) (u : Value) (v : PV) : Prop := ∃ x, RelV x u ∧ Rep K ω v x
theorem each_of {ω : Wo} : ∀ {ws : List V} {us : List Value} {xs : List PV}, Vals ws us → Reps X.K ω xs ws → PySem.W.EachIs (Stands X.K ω) us xs
  | _, _, _, .nil, .nil => .nil
  | _, _, _, .cons r t, .cons r' t' => .cons ⟨_, r, r'⟩ (each_of t t')
theorem each_back {ω : Wo} : ∀ {us : List Value} {xs : List PV}, PySem.W.EachIs (Stands X.K ω) us xs → ∃ ws, Vals ws us ∧ Reps X.K ω xs ws
  | _, _, .nil => ⟨[], .nil, .nil⟩
  | _, _, .cons ⟨x, r1, r2⟩ t => let ⟨ws, h1, h2⟩ := each_back t; ⟨x :: ws, .cons r1 h1, .cons r2 h2⟩
theorem each_reads {pins : List (Addr × Obj)} {s : Shared} {σ : L2.St} {H : Hp} {ω : Wo} {st : Store} (I : Inv X pins σ H s) (wd : Wd X.K ω st H) : ∀ {us : List Value} {xs : List PV}, PySem.W.EachIs (Stands X.K ω) us xs → isDs xs = true → PySem.W.EachIs (fun v b => ∃ as, Reads s.heap v (toD b) as) us xs
  | _, _, .nil, _ => .nil
  | _, _, .cons ⟨x, r1, r2⟩ t, d => by
    simp only [isDs, Bool.and_eq_true] at d
    exact .cons (r2.reads I wd d.1 r1) (each_reads I wd t d.2)
theorem cs_sorted (hu : X.A.units + 64 < cLine) : CallS X (.builtin "sorted") (one pSorted) := .one fun pins s σ H x u Q E ω st a I rx wd ra h => by
  unfold pSorted at h
  split at h
  · rename_i xs q
    split at h
    · rename_i hz
      obtain ⟨h1, h2, h3, h4⟩ := hz
      obtain ⟨p, ws, e, rs, ht⟩ := seqOf_rep wd ra q
      subst e
      cases rx
      rcases ht with ⟨z, _⟩ | ⟨_, hq⟩
      · cases z
      · obtain ⟨its, rv, hl, hz⟩ := I.list hq
        have ei := each_of rv rs
        rw [toDs_map] at h2 h3 h4
        refine PySem.W.sorted_data (R := Stands X.K ω) (enc := toD) hl.isList ei (each_reads I wd ei h1) h2 h3 (by rw [rs.length]; exact hz) (fun b hb => ?_) fun out ho hr => ?_
        · have := h4 _ (List.mem_map.mpr ⟨b, hb, rfl⟩)
          omega
        · obtain ⟨os, v1, v2⟩ := each_back hr
          obtain ⟨ep, he'⟩ := PyProof.Rows.sortedAll_at s.heap its out.toArray
          refine ⟨.ref _, upd H (s.heap.objs.size + 1) (.lst os), I.laid (t' := s.toks) (fun _ _ => PyProof.Rows.sortedAll_old) (Nat.le_succ _) ⟨?_, out, ep, v1, he'⟩, rfl, new_lst wd v2 h _ (I.hok.fresh (Nat.le_succ _))⟩
          rw [v1.length, ho, rs.length]
          exact hz
    · exact False.elim h
  · exact False.elim h
end
/-! ### isinstance -/
def tyName (st : Store) : PV → Option String
  | .non => some "NoneType"
  | .bl _ => some "bool"
  | .int _ => some "int"
  | .str _ => some "str"
  | .tup _ => some "tuple"
  | .lst _ => some "list"
  | .frz _ => some "list"
  | .loc l => match st[l]? with
    | some (.lst _) => some "list"
    | some (.dic _) => some "dict"
    | some (.fdic _) => some "dict"
    | some (.ins _ _) => none
    | none => none
  | .con _ => none
  | .exc _ _ _ _ => none
def kitAll (t : String) : List PV → Option Bool
  | [] => some false
  | .con (.ty n) :: r => match kitB t n with
    | some true => some true
    | some false => kitAll t r
    | none => none
  | _ :: _ => none
def allTys : List PV → Bool
  | [] => true
  | .con (.ty _) :: r => allTys r
  | _ :: _ => false
def pIsi (vs : List PV) (st : Store) : Res PV := match vs with
  | [v, .con (.ty n)] => match tyName st v with
    | some t => match kitB t n with
      | some b => .ok (.bl b) st
      | none => .stuck
    | none => .stuck
  | [v, .tup cs] => match tyName st v with
    | some t => match kitAll t cs with
      | some b => if allTys cs = true then .ok (.bl b) st else .stuck
      | none => .stuck
    | none => .stuck
  | _ => .stuck
section
variable {X : Cx} {ω : Wo} {st : Store} {H : Hp}
theorem tyx_of (wd : Wd X.K ω st H) {v : PV} {x : V} (r : Rep X.K ω v x) {t : String} (e : tyName st v = some t) : TyX X.K H x (.type t) := by
  cases r with
  | non => cases e; exact .base .non
  | bl b => cases e; exact .base (.bl b)
  | int b => cases e; exact .base (.int b)
  | str b => cases e; exact .base (.str b)
  | tup ea rs => cases e; exact .base (.tup (wd.sub _ _ ea))
  | lst ea rs => cases e; exact .base (.lst (wd.sub _ _ ea))
  | frz ea rs =>
    cases e
    rcases ea with (ea | ⟨o, ea⟩) | ⟨o, its, n, hk, hc, _⟩
    · exact .base (.lst (wd.sub _ _ ea))
    · exact .base (.frz (wd.sub _ _ ea))
    · exact .kList hk hc
  | loc ea =>
    unfold tyName at e
    simp only at e
    split at e
    · rename_i q
      cases e
      obtain ⟨vs, h, _⟩ := wd.obj _ _ _ ea q
      exact .base (.lst h)
    · rename_i q
      cases e
      obtain ⟨vs, h, _⟩ := wd.obj _ _ _ ea q
      exact .base (.dK h)
    · rename_i q
      cases e
      obtain ⟨vs, od, _, h, _⟩ := wd.obj _ _ _ ea q
      exact .fDict h
    · cases e
    · cases e
  | con v => cases e
  | exc _ _ _ => cases e
theorem tys_of : ∀ {cs : List PV} {ws : List V}, Reps X.K ω cs ws → allTys cs = true → ∃ us, Paired ClsV ws us ∧ ∀ {t : String} {b : Bool}, kitAll t cs = some b → PySem.W.kitAny X.K (.type t) us = some b
  | _, _, .nil, _ => ⟨[], .nil, fun e => by cases e; rfl⟩
  | c :: cs, _, .cons r t, h => by
    cases c with
    | con v =>
      cases v with
      | ty n =>
        obtain ⟨us, h1, h2⟩ := tys_of t (show allTys cs = true from h)
        cases r
        refine ⟨.type n :: us, .cons (.ty n) h1, fun {t b} e => ?_⟩
        unfold kitAll at e
        cases q : kitB t n with
        | none => rw [q] at e; cases e
        | some k =>
          rw [q] at e
          refine kitAny_cons (b := k) (kit_ty q) (fun z => ?_) (fun z => ?_)
          · subst z; exact h2 e
          · subst z; cases e; rfl
      | _ => cases h
    | _ => cases h
theorem cs_isi : CallS X (.builtin "isinstance") pIsi := .mk' fun pins s σ H xs us Q E ω st as I rx wd ra h => by
  unfold pIsi at h
  split at h
  · rename_i v n
    cases ra with
    | cons r1 ra =>
      cases ra with
      | cons r2 ra =>
        cases ra
        cases r2
        split at h
        · rename_i t e
          split at h
          · rename_i b k
            exact call_isi pins s σ H _ us Q I rx ⟨_, _, _, _, b, rfl, .ty n, tyx_of wd r1 e, kit_ty k, h.ok_here wd (.bl b)⟩
          · exact False.elim h
        · exact False.elim h
  · rename_i v cs
    cases ra with
    | cons r1 ra =>
      cases ra with
      | cons r2 ra =>
        cases ra
        cases r2 with
        | tup ea rs =>
          split at h
          · rename_i t e
            split at h
            · rename_i b k
              split at h
              · rename_i ht
                obtain ⟨ws, p1, p2⟩ := tys_of rs ht
                exact call_isiT pins s σ H _ us Q I rx ⟨_, _, _, _, ws, b, rfl, wd.sub _ _ ea, p1, tyx_of wd r1 e, p2 k, h.ok_here wd (.bl b)⟩
              · exact False.elim h
            · exact False.elim h
          · exact False.elim h
  · exact False.elim h
def pGcd (vs : List PV) (st : Store) : Res PV := match vs with
  | [.int a, .int b] => .ok (.int ((Nat.gcd a.natAbs b.natAbs : Nat) : Int)) st
  | _ => .stuck
theorem cs_gcd : CallS X (.builtin "math.gcd") pGcd := .mk' fun pins s σ H xs us Q E ω st as I rx wd ra h => by
  unfold pGcd at h
  split at h
  · cases ra with
    | cons r1 ra =>
      cases ra with
      | cons r2 ra =>
        cases ra
        cases r1
        cases r2
        exact cr_gcd pins s σ H _ us Q I rx ⟨_, _, rfl, h.ok_here wd (.int _)⟩
  · exact False.elim h
end
/-! ### methods -/
def isListP (v : PV) (st : Store) : Bool := match v with
  | .loc l => match st[l]? with
    | some (.lst _) => true
    | _ => false
  | _ => false
def pAppend (v : PV) (vs : List PV) (st : Store) : Res PV := match v, vs with
  | .loc l, [y] => match st[l]? with
    | some (.lst xs) => if xs.length < sizeLine then .ok .non (st.set l (.lst (xs ++ [y]))) else .stuck
    | _ => .stuck
  | _, _ => .stuck
def isStrP (v : PV) (_ : Store) : Bool := match v with
  | .str _ => true
  | _ => false
def pJoin (v : PV) (vs : List PV) (st : Store) : Res PV := match v, vs with
  | .str a, [w] => match seqOf st w with
    | some (_, xs) => match strsOf xs with
      | some ys => if (ys.map (·.length)).sum + ys.length * a.length ≤ 16777216 then .ok (.str (Txt.join a ys)) st else .stuck
      | none => .stuck
    | none => .stuck
  | _, _ => .stuck
def pBits (v : PV) (st : Store) : Res PV := match v with
  | .int i => .ok (.int (Builtin.Int.intBits i : Nat)) st
  | _ => .stuck
section
variable {X : Cx}
theorem mts_append : MtS X "list" "list.append" isListP pAppend := by
  refine ⟨rAppend, mt_append, fun ω st H v x wd r h => ?_, fun E ω st H v x vs xs Q wd rv rs h => ?_⟩
  · unfold isListP at h
    split at h
    · split at h
      · rename_i q
        cases r with
        | loc ea =>
          obtain ⟨ws, e, _⟩ := wd.obj _ _ _ ea q
          exact .inl ⟨rfl, _, .of e⟩
      · cases h
    · cases h
  · unfold pAppend at h
    split at h
    · split at h
      · rename_i q
        split at h
        · rename_i hz
          cases rv with
          | loc ea =>
            cases rs with
            | cons ry t =>
              cases t
              obtain ⟨ws, e, rw'⟩ := wd.obj _ _ _ ea q
              obtain ⟨w, ex⟩ := wd.wr ea e (rw'.append (Reps.one ry))
              exact ⟨_, ws, _, rfl, rfl, e, by rw [← rw'.length]; exact hz, h _ _ _ ex w .non⟩
        · exact False.elim h
      · exact False.elim h
    · exact False.elim h
theorem mts_join : MtS X "str" "str.join" isStrP pJoin := by
  refine ⟨_, mt_join, fun ω st H v x wd r h => ?_, fun E ω st H v x vs xs Q wd rv rs h => ?_⟩
  · unfold isStrP at h
    split at h
    · cases r
      rfl
    · cases h
  · unfold pJoin at h
    split at h
    · split at h
      · rename_i t xs q
        split at h
        · rename_i ys e
          split at h
          · rename_i hz
            cases rv
            cases rs with
            | cons ry tl =>
              cases tl
              obtain ⟨p, ws, e1, r1, ht⟩ := seqOf_rep wd ry q
              subst e1
              rw [strsOf_map e] at r1
              have e2 := reps_strs r1
              subst e2
              refine ⟨_, p, ys, rfl, rfl, ?_, hz, h.ok_here wd (.str _)⟩
              rcases ht with ⟨_, hq⟩ | ⟨_, hq⟩
              · exact .inr hq
              · exact .inl hq
          · exact False.elim h
        · exact False.elim h
      · exact False.elim h
    · exact False.elim h
theorem me_bits {W : WX} {o : Expr} {fo : EM} {apos pos : Pos} (ho : ME X W o fo) (hbase : attributeBase o "bit_length" X.env (eval o X.env) = eval o X.env := by rfl) (hline : (apos.endLine == pos.line) = true := by rfl) :
    ME X W (.Call (.Attribute o "bit_length" apos) [] [] pos) (eUn pBits fo) := by
  refine peI (pe_bits ho hbase hline) ?_
  rintro σ H Q ⟨ω, st, env, wd, re, h⟩
  refine ⟨ω, st, env, wd, re, (After.bind (Rel := RV X.K) h).mono ?_⟩
  rintro x H1 ⟨ω1, st1, v, e1, wd1, r1, h1⟩
  unfold pBits at h1
  split at h1
  · cases r1
    exact ⟨_, rfl, h1.ok_here wd1 (.int _)⟩
  · exact False.elim h1
theorem sts_set : StS X pSet := by
  refine ⟨_, set_list, fun E ω st H o i v xo xi x Q wd ro ri rv h => ?_⟩
  unfold pSet at h
  split at h
  · split at h
    · rename_i q
      split at h
      · rename_i j hj
        cases ro with
        | loc ea =>
          cases ri
          obtain ⟨ws, e, rw'⟩ := wd.obj _ _ _ ea q
          obtain ⟨w, ex⟩ := wd.wr ea e (rw'.set j rv)
          exact ⟨_, ws, _, j, rfl, rfl, e, by rw [← rw'.length]; exact hj, h _ _ () ex w trivial⟩
      · exact False.elim h
    · exact False.elim h
  · exact False.elim h
end
end PL
/-! PL, part g: defs of the text by name. -/
namespace PL
open PySem PySem.Spec PyProof.Rows L2
/-- the def x stands at the module's name x, with the text st -/
structure DefOf (K : PySem.W.Frag) (mg : Str → Option Value) (x : Str) (st : Stmt) (ps : List Str) : Prop where
  ex : ∃ f fd, Fun K x x st f fd ∧ mg x = some (.ref f) ∧ Binds K fd ps []
/-- the function object at f -/
def FdAt (K : PySem.W.Frag) (f : Addr) (fd : FuncData) : Prop := ∃ oc od sl, K.lookup f = some ⟨oc, od, .func fd, sl⟩
theorem FdAt.of {K : PySem.W.Frag} {x qual : Str} {st : Stmt} {f : Addr} {fd : FuncData} (F : Fun K x qual st f fd) : FdAt K f fd := by
  obtain ⟨oc, od, kV, doc, pm, an, cdv, ct, osl, e, lk, hcd⟩ := F.ex
  exact ⟨oc, od, osl, lk⟩
theorem FdAt.inj {K : PySem.W.Frag} {f : Addr} {fd fd' : FuncData} (h : FdAt K f fd) (h' : FdAt K f fd') : fd = fd' := by
  obtain ⟨_, _, _, e⟩ := h
  obtain ⟨_, _, _, e'⟩ := h'
  rw [e] at e'
  cases e'
  rfl
/-- the def x is worth the plain function m -/
structure Has (P : Program) (w : World) (K : PySem.W.Frag) (mg : Str → Option Value) (base : Heap) (x : Str) (ps : List Str) (k : Nat) (m : List PV → Store → Res PV) : Prop where
  ex : ∃ f fd, FnOk P w K mg base CX0 k f fd ps (spP ⟨K, mg⟩ ps.length (nE m)) ∧ mg x = some (.ref f) ∧ PySem.W.keepIn K (.ref f) = true ∧ Binds K fd ps [] ∧ FdAt K f fd
section
variable {P : Program} {w : World} {K : PySem.W.Frag} {mg : Str → Option Value} {base : Heap} {x : Str} {st : Stmt} {N ps : List Str} {k n : Nat}
theorem has_of {fm : SM} (d : DefOf K mg x st ps) (S : FnScope N ps (defScope st))
    (hbody : ∀ {f : Addr} (cdv : Value) (A : Around) (outer : List Env) (s : Shared) (H : Hp) (E : XK), Room k (A.deeper (envOfC x (defScope st) s.heap.objs.size f cdv)) →
      MB (cxOf CX0 P w K mg base N x (defScope st) f cdv A outer s H E).nox W0 (defBody st) fm) : Has P w K mg base x ps (k + 1) (runBody N.length fm) := by
  obtain ⟨f, fd, F, hm, hb⟩ := d.ex
  exact ⟨f, fd, okP F S fun cdv A outer s H E hr => hbody cdv A outer s H E hr, hm, F.kp, hb, .of F⟩
theorem has_rec {body : (List PV → Store → Res PV) → SM} (d : DefOf K mg x st ps) (S : FnScope N ps (defScope st)) (hk : 1 ≤ k)
    (hbody : ∀ {f : Addr} (n : Nat), Has P w K mg base x ps (k + n) (fuelF N.length body n) → ∀ (cdv : Value) (A : Around) (outer : List Env) (s : Shared) (H : Hp) (E : XK), Room (k + n) (A.deeper (envOfC x (defScope st) s.heap.objs.size f cdv)) →
      MB (cxOf CX0 P w K mg base N x (defScope st) f cdv A outer s H E).nox W0 (defBody st) (body (fuelF N.length body n))) : Has P w K mg base x ps (k + n) (fuelF N.length body n) := by
  obtain ⟨f, fd, F, hm, hb⟩ := d.ex
  exact ⟨f, fd, okP_rec F S hk (fun n h cdv A outer s H E hr => hbody n ⟨f, fd, h, hm, F.kp, hb, .of F⟩ cdv A outer s H E hr) n, hm, F.kp, hb, .of F⟩
end
section
variable {X : Cx} {W : WX} {x : Str} {p pos : Pos} {e : Expr} {es : List Expr} {fs : AM} {ps : List Str} {k : Nat} {m : List PV → Store → Res PV}
theorem me_callH {n : Nat} (h : Has X.prog X.w X.K X.mg X.base x ps k m) (hr : Room k X.A) (ha : MA X W (e :: es) fs) (hn : ps.length = n := by rfl) (hg : Gl X x := by rfl) (hdb : (x == ("__debug__" : Str)) = false := by decide)
    (he : starEach (e :: es) X.env = (false, eval e X.env) :: starEach es X.env := by rfl) (hpl : (backTo pos (starEach es X.env)).any (·.1) = false := by rfl) :
    ME X W (.Call (.Name x p) (e :: es) [] pos) (eCall n m fs) := by
  subst hn
  obtain ⟨f, fd, F, hm, hk, hb, _⟩ := h.ex
  exact me_call F hr hg hm hk hb ha hdb he hpl
end
theorem bb_len : bootBuiltins "len" = some (.builtin "len") := by decide +kernel
theorem bb_abs : bootBuiltins "abs" = some (.builtin "abs") := by decide +kernel
theorem bb_sum : bootBuiltins "sum" = some (.builtin "sum") := by decide +kernel
theorem bb_min : bootBuiltins "min" = some (.builtin "min") := by decide +kernel
theorem bb_max : bootBuiltins "max" = some (.builtin "max") := by decide +kernel
theorem bb_sorted : bootBuiltins "sorted" = some (.builtin "sorted") := by decide +kernel
theorem bb_isinstance : bootBuiltins "isinstance" = some (.builtin "isinstance") := by decide +kernel
theorem bt_int : bootBuiltins "int" = some (.type "int") := by decide +kernel
theorem bt_str : bootBuiltins "str" = some (.type "str") := by decide +kernel
theorem bt_bool : bootBuiltins "bool" = some (.type "bool") := by decide +kernel
theorem bt_tuple : bootBuiltins "tuple" = some (.type "tuple") := by decide +kernel
theorem bt_list : bootBuiltins "list" = some (.type "list") := by decide +kernel
theorem bt_dict : bootBuiltins "dict" = some (.type "dict") := by decide +kernel
end PL
/-! PL, part xb: the __init__ of an own error class over ValueError: super().__init__('..'); self.f = f -/
namespace PLX
open PySem PySem.W PySem.Calls PySem.Spec PyProof.Rows PySem.HandSPX
def iA (f : Str) (p1 p2 : Pos) : Arguments := { posonlyargs := [], args := [{ arg := "self", annotation := none, pos := p1 }, { arg := f, annotation := none, pos := p2 }], vararg := none, kwonlyargs := [], kw_defaults := [], kwarg := none, defaults := [] }
/-- m: what the message is -/
def iB (f : Str) (m : Expr) (a1 a2 a3 a5 a6 q1 q2 q3 q4 : Pos) : List Stmt :=
  [.Expr (.Call (.Attribute (.Call (.Name "super" a1) [] [] a2) "__init__" a3) [m] [] a5) a6, .Assign [.Attribute (.Name "self" q1) f q2] (.Name f q3) q4]
/-- xs: the message's own names -/
def iS (f : Str) (xs : List (Str × NameKind)) : Scope := { kind := .function, names := (PySem.Str.ofString "self", .local) :: (f, .local) :: (PySem.Str.ofString "__class__", .free) :: (PySem.Str.ofString "super", .globalImplicit) :: xs, isGenerator := false, isCoroutine := false, more := [] }
/-- a field's name that is none of the text's other names -/
structure FldOk (f : Str) (xs : List (Str × NameKind)) : Prop where
  nc : ∀ y ∈ xs, y.2 ≠ .cell
  lf : (iS f xs).names.lookup f = some .local
  lc : (iS f xs).names.lookup ("__class__" : Str) = some .free
  ls : (iS f xs).names.lookup ("super" : Str) = some .globalImplicit
  b1 : ∀ (x : Addr) (v : Value), ([(("self" : Str), Value.ref x), (f, v)] : List (Str × Value)).reverse.lookup ("self" : Str) = some (.ref x)
  b2 : ∀ (x : Addr) (v : Value), ([(("self" : Str), Value.ref x), (f, v)] : List (Str × Value)).reverse.lookup f = some v
  db : (f == ("__debug__" : Str)) = false
  bd : ∀ (s : Shared) (q : Str) (p1 p2 : Pos) (body : List Stmt) (doc pm : Value) (an : Option Addr) (cd ct : Value) (cc : Addr) (a v : Value),
    BindsTo s (ksFn "__init__" q (iA f p1 p2) body (iS f xs) .none .none doc pm an cd ct cc) ⟨[a, v], []⟩ [("self", a), (f, v)]
/-- where the pieces of the line super().__init__('..') stand -/
def SupOk (f qual : Str) (xs : List (Str × NameKind)) (m : Expr) (a1 a2 a3 a5 a6 : Pos) : Prop :=
  ∃ pl : Sem Bool, ∀ (L fI : Addr) (cd : Value) (cc : Addr), eval (.Call (.Attribute (.Call (.Name "super" a1) [] [] a2) "__init__" a3) [m] [] a5) (ksEnv qual (iS f xs) L fI cd cc) = (do
      let ov ← attributeBase (.Call (.Name "super" a1) [] [] a2) "__init__" (ksEnv qual (iS f xs) L fI cd cc) (eval (.Call (.Name "super" a1) [] [] a2) (ksEnv qual (iS f xs) L fI cd cc))
      standAt a3.atName
      let (g, first) ← holding [ov] (getMethod ov "__init__" pl)
      callWith a5 g first (backTo a5 (starEach [m] (ksEnv qual (iS f xs) L fI cd cc))) []) ∧
    swapsWith (.Call (.Attribute (.Call (.Name "super" a1) [] [] a2) "__init__" a3) [m] [] a5) none a6.line (ksEnv qual (iS f xs) L fI cd cc) = pure false
/-- the message can be made, of a field that is as Pv says -/
def MsgOk (prog : Program) (f qual : Str) (xs : List (Str × NameKind)) (Pv : L2.V → Prop) (m : Expr) : Prop :=
  (∀ env, starEach [m] env = [(false, eval m env)]) ∧ ∀ {w : World} {A : Around} {E : Value → Shared → Prop} {s : Shared} {L fI cc e : Addr} {cd : Value} {mg mb : Str → Option Value} {x : L2.V} {v : Value} {Q : Value → Shared → Prop}, Pv x → L2.RelV x v → s.heap.Ns mainGlobals mg → mg "str" = none → s.heap.Ns builtinsNs mb → mb "str" = some (.type "str") →
    s.heap.Ns L (fun y => ([(("self" : Str), Value.ref e), (f, v)] : List (Str × Value)).reverse.lookup y) → (∀ z t tk, Q (.str z t) { s with toks := tk }) → wpAny (model prog w) A (eval m (ksEnv qual (iS f xs) L fI cd cc)) Q E s
/-- what the written part says of the class at C and of its __init__, at fI -/
structure XTxt (prog : Program) (K : Frag) (mg : Str → Option Value) (x : Str) (C fI : Addr) (f qual : Str) (xs : List (Str × NameKind)) (Pv : L2.V → Prop) : Prop where
  gC : mg x = some (.ref C)
  cls : ∃ nm q N bs bm sn sub ab col dd k0 k1 k2 k3 k5, K.lookup C = some (excClassObj nm q C N bs bm true sn sub ab col dd k0 k1 k2 k3 k5 "ValueError.__new__") ∧ refsVE bm = true
  sa : findIn K (.ref C) "__setattr__" = some (some (.builtin "object.__setattr__"))
  ga : findIn K (.ref C) "__getattribute__" = some (some (.builtin "BaseException.__getattribute__"))
  gg : findIn K (.ref C) "__getattr__" = some none
  noN : findIn K (.ref C) f = some none
  iC : findIn K (.ref C) "__init__" = some (some (.ref fI))
  tC : typeIn K (.ref fI) = some (.type "function")
  kC : keepIn K (.ref C) = true
  exC : subIn K (.ref C) (.type "BaseException") = some true
  tyC : typeIn K (.ref C) = some (.type "type")
  hdC : hasDictIn K C = true
  mC : mroIn K C (.ref C) = some true
  su : mg "super" = none
  st : mg "str" = none
  ho : nsIn K cStatics "thirdparty.any" = some none
  hm : ks_superIn K C C "__init__" = some (some (.builtin "ValueError.__init__"))
  hB : subIn K (.ref C) (.type "ValueError") = some true
  top : (prog.main.scope.names.lookup ("super" : Str)).isSome = false
  fok : FldOk f xs
  fn : ∃ (oc : Value) (od : Option Addr) (doc pm : Value) (an : Option Addr) (cda cc : Addr) (ct : Value) (osl : Array (Option Value)) (ccl : Value) (cdd : Option Addr) (vs : Array Value) (ccs : Array (Option Value)) (cl : Value) (cld : Option Addr) (csl : Array (Option Value)) (file : Str) (tf : Tok)
    (p1 p2 a1 a2 a3 a5 a6 q1 q2 q3 q4 : Pos) (m : Expr), SupOk f qual xs m a1 a2 a3 a5 a6 ∧ MsgOk prog f qual xs Pv m ∧
    K.lookup fI = some ⟨oc, od, .func (ksFn "__init__" qual (iA f p1 p2) (iB f m a1 a2 a3 a5 a6 q1 q2 q3 q4) (iS f xs) .none .none doc pm an (.ref cda) ct cc), osl⟩ ∧ codeIn K (.ref cda) qual = true ∧
    K.lookup cda = some ⟨ccl, cdd, .fields vs, ccs⟩ ∧ vs[2]? = some (.str file tf) ∧ ((prog.main.file : Str) == file) = true ∧ K.lookup cc = some ⟨cl, cld, .cell (some (.ref C)), csl⟩
/-- what __init__ leaves of a fresh exception at x -/
structure InitEnd (h h' : Heap) (x C dx : Addr) (f : Str) (v : Value) : Prop where
  keep : ∀ b o, b ≠ x → h.get? b = some o → h'.get? b = some o
  obj : ∃ t1, h'.get? x = some { cls := .ref C, dict := some dx, data := .fields #[.ref t1, .none, .none, .none, .bool false, .none] }
  dbig : h.objs.size ≤ dx
  dne : dx ≠ x
  ns : h'.Ns1 dx (fun y => if y = f then some v else none)
section
variable {prog : Program} {w : World} {A : Around} {R : Result → Shared → Prop} {s : Shared} {K : Frag} {mg mb : Str → Option Value} {C fI : Addr} {x : Str} {f qual : Str} {xs : List (Str × NameKind)} {Pv : L2.V → Prop}
theorem x_init (T : XTxt prog K mg x C fI f qual xs Pv) {e t0 : Addr} {xv : L2.V} {v : Value} (hPv : Pv xv) (hRv : L2.RelV xv v) (hbt : mb "str" = some (.type "str")) (X : K.In s.heap) (hg : s.heap.Ns mainGlobals mg) (hb : s.heap.Ns builtinsNs mb) (hbs : mb "super" = some (.type "super")) (hlim : s.heap.NoLimit)
    (hx : s.heap.get? e = some (excO C t0)) (hnx : K.lookup e = none) (hroom : A.depth < recursionLimit)
    (hq : ∀ h' tk dx, InitEnd s.heap h' e C dx f v → R (.ok (.ret .none)) { s with heap := h', toks := tk }) :
    codeAny (model prog w) A (.call (.ref fI) ⟨[.ref e, v], []⟩) R s := by
  obtain ⟨oc, od, doc, pm, an, cda, cc, ct, osl, ccl, cdd, vs, ccs, cl, cld, csl, file, tf, p1, p2, a1, a2, a3, a5, a6, q1, q2, q3, q4, m, ⟨pl, hsu⟩, ⟨hst, hmsg⟩, lf, hcd, lcd, hvs, hfile, lcc⟩ := T.fn
  obtain ⟨nm, q, N, bs, bm, sn, sub, ab, col, dd, k0, k1, k2, k3, k5, hC, hbm⟩ := T.cls
  have hcl : clsIn K C = some { name := nm, bases := bs, mro := .ref C :: bm, ns := N, qualname := q, hasDict := true, slotNames := sn, subclasses := sub, abstract := ab, collection := col, hasDel := false } := by unfold clsIn; rw [hC] <;> rfl
  refine ks_codeAny_call_defAt (fd := ksFn "__init__" qual (iA f p1 p2) (iB f m a1 a2 a3 a5 a6 q1 q2 q3 q4) (iS f xs) .none .none doc pm an (.ref cda) ct cc) (body := iB f m a1 a2 a3 a5 a6 q1 q2 q3 q4) (binds := [("self", .ref e), (f, v)]) hroom (X _ _ lf) rfl hlim (codeRec_of X hcd) rfl (T.fok.bd s qual p1 p2 _ doc pm an (.ref cda) ct cc (.ref e) v) ?_ ?_ (fun h₁ hns k => ?_) rfl rfl rfl
  · intro y hy
    show y.2 ≠ .cell
    have hy : y ∈ (iS f xs).names := hy
    simp only [iS, List.mem_cons] at hy
    rcases hy with rfl | rfl | rfl | rfl | hy
    · intro z; cases z
    · intro z; cases z
    · intro z; cases z
    · intro z; cases z
    · exact T.fok.nc y hy
  · intro y hy
    simp only [List.mem_cons, List.not_mem_nil, or_false] at hy
    rcases hy with rfl | rfl
    · rfl
    · exact T.fok.lf
  have X₁ : K.In h₁ := X.keeps k
  have hx₁ := k _ _ hx
  obtain ⟨oC, hD1, hD2⟩ : ∃ oD, h₁.get? C = some oD ∧ oD.data = .cls { name := nm, bases := bs, mro := .ref C :: bm, ns := N, qualname := q, hasDict := true, slotNames := sn, subclasses := sub, abstract := ab, collection := col, hasDel := false } := ⟨_, X₁ _ _ hC, rfl⟩
  have hLe : s.heap.objs.size ≠ e := Nat.ne_of_gt (Heap.lt_size hx)
  show _root_.PySem.wpAt _ _ _ (execs (_ :: _) (ksEnv qual (iS f xs) s.heap.objs.size fI (.ref cda) cc)) _ _ _
  refine ks_wpAt_execs_cons (ks_wpAt_Expr_any (ks_wpAt_MethodCall (pl := pl) ?_ (hsu _ _ _ _).1) rfl (hsu _ _ _ _).2)
  refine ks_wpAt_super_base (env := ksEnv qual (iS f xs) s.heap.objs.size fI (.ref cda) cc) T.fok.ls T.fok.lc rfl rfl (X₁ _ _ lf) rfl rfl rfl (X₁ _ _ lcd) rfl hvs hfile T.top ?_
  refine ks_loadName_global rfl T.fok.ls (loadGlobal_builtin (env := ksEnv qual (iS f xs) s.heap.objs.size fI (.ref cda) cc) (hg.keeps k) T.su (hb.keeps k) hbs ⟨rfl, ?_⟩)
  refine wpAny_loadName_free rfl T.fok.lc rfl ⟨_, X₁ _ _ lcc, rfl⟩ ?_
  refine wpAny_loadName_local rfl rfl hns (T.fok.b1 e v) ?_
  refine ks_wpAny_isType_cls hD1 hD2 ⟨rfl, ?_⟩
  refine ks_wpAny_call_super hD1 hD2 hx₁ rfl (fun c z => by cases z) (looks_mroIn X₁ T.mC) (fun h₂ e₂ k₂ => ?_)
  have X₂ : K.In h₂ := X₁.keeps k₂
  have hx₂ := k₂ _ _ hx₁
  have I₂ : InstAt h₂ e (excO C t0) C none := ⟨hx₂, rfl, rfl, trivial⟩
  have hsup := T.hm
  unfold ks_superIn at hsup
  rw [hcl, Option.bind_some] at hsup
  have hxC : e ≠ C := fun z => by rw [z] at hnx; rw [hnx] at hC; cases hC
  refine kxs_getMethod kxs_ValueError e₂ (looks_opaque X₂ T.ho) (l₀ := .ref C :: bm) ?_ rfl X₂ hsup (I₂.type.andThen (looks_subIn X₂ T.hB)) hxC rfl ?_
  · exact fun A Q E s k q => wpAny_bind ((looks_clsIn X₂ hcl) A _ E s k (wpAny_pure q))
  rw [hst]
  refine kxs_callWith (i := "ValueError.__init__") (x := e) rfl (evalArgs_plain ?_)
  refine spliced_cons ?_
  refine hmsg (e := e) hPv hRv ((hg.keeps k).keeps fun b o z => Heap.get?_push_of_some _ (k₂ b o z)) T.st ((hb.keeps k).keeps fun b o z => Heap.get?_push_of_some _ (k₂ b o z)) hbt (hns.keeps fun b o z => Heap.get?_push_of_some _ (k₂ b o z)) fun msgz msgt msgk => ?_
  refine spliced_nil ?_
  have k₃ : ∀ b o, h₂.get? b = some o → (h₂.push (kxs_mw "ValueError.__init__" e)).get? b = some o := fun b o z => Heap.get?_push_of_some _ z
  refine ⟨Heap.get?_push_at rfl rfl, ?_⟩
  refine call_mw hbm (X₂.keeps k₃ _ _ hC) (k₃ _ _ hx₂) (Heap.get?_push_at rfl rfl) (by rw [sizeLine_eq]; exact (by decide : 1 ≤ 16777216)) fun h₄ t1 k₄ hx₄ => ?_
  have kA : ∀ b o, h₁.get? b = some o → b ≠ e → h₄.get? b = some o := fun b o z n => k₄ b o n (k₃ _ _ (k₂ _ _ z))
  have kB : ∀ b o, b ≠ e → s.heap.get? b = some o → h₄.get? b = some o := fun b o n z => kA b o (k _ _ z) n
  have X₄ : K.In h₄ := fun b o z => kB b o (fun q => by rw [q, hnx] at z; cases z) (X b o z)
  have hn₄ : h₄.Ns s.heap.objs.size (fun y => ([(("self" : Str), Value.ref e), (f, v)] : List (Str × Value)).reverse.lookup y) := hns.at fun o z => kA _ _ z hLe
  show _root_.PySem.wpAt _ _ _ (execs (_ :: _) (ksEnv qual (iS f xs) s.heap.objs.size fI (.ref cda) cc)) _ _ _
  refine wpAt_of_wpAny (wpAny_execs_cons (plainObj_wpAny_Assign_Attribute ?_))
  refine wpAny_Name (wpAny_loadName_local rfl T.fok.lf hn₄ (T.fok.b2 e v) ?_) T.fok.db
  refine wpAny_Name (wpAny_loadName_local rfl rfl hn₄ (T.fok.b1 e v) ?_) rfl
  refine set_plain X₄ (ox := excO C t1) (od := none) ⟨hx₄, rfl, rfl, trivial⟩ T.sa ?_
  refine exc_osa X₄ hx₄ hcl (show refsVE (.ref C :: bm) = true from hbm) rfl T.noN (fun h₅ tk₅ dx k₅ dn dne hx₅ hn₅ => ?_)
  show wpAny _ _ (execs _ _) _ _ _
  have z : s.heap.objs.size < h₄.objs.size := hn₄.lt
  exact wpAny_execs_nil (hq h₅ tk₅ dx ⟨fun b o hb q => k₅ b o hb (kB b o hb q), ⟨t1, hx₅⟩, Nat.le_of_lt (Nat.lt_of_lt_of_le z dn), dne, hn₅⟩)
end
theorem fld_ok {f : Str} {xs : List (Str × NameKind)} (hc : ∀ y ∈ xs, y.2 ≠ .cell) (h1 : (iS f xs).names.lookup f = some .local) (h2 : (iS f xs).names.lookup ("__class__" : Str) = some .free) (h3 : (iS f xs).names.lookup ("super" : Str) = some .globalImplicit) (h4 : (("self" : Str) == f) = false) (h5 : (f == ("__debug__" : Str)) = false)
    (bd : ∀ (s : Shared) (q : Str) (p1 p2 : Pos) (body : List Stmt) (doc pm : Value) (an : Option Addr) (cd ct : Value) (cc : Addr) (a v : Value),
    BindsTo s (ksFn "__init__" q (iA f p1 p2) body (iS f xs) .none .none doc pm an cd ct cc) ⟨[a, v], []⟩ [("self", a), (f, v)]) : FldOk f xs :=
  ⟨hc, h1, h2, h3, fun x v => by simp [List.lookup, h4], fun x v => by simp [List.lookup], h5, bd⟩
theorem fld_fault : FldOk "fault" [] := fld_ok nofun (by decide +kernel) (by decide +kernel) (by decide +kernel) (by decide +kernel) (by decide +kernel) fun s q p1 p2 body doc pm an cd ct cc a v => BindsTo.of_eq (by first | rfl | with_unfolding_all rfl)
/-- the names of a message with str(..) -/
abbrev xStr : List (Str × NameKind) := [(PySem.Str.ofString "str", .globalImplicit)]
theorem fld_line : FldOk "line" xStr := fld_ok (by intro y m; cases (List.mem_singleton.mp m); intro z; cases z) (by decide +kernel) (by decide +kernel) (by decide +kernel) (by decide +kernel) (by decide +kernel) fun s q p1 p2 body doc pm an cd ct cc a v => BindsTo.of_eq (by first | rfl | with_unfolding_all rfl)
theorem msg_const {prog : Program} {f qual : Str} {xs : List (Str × NameKind)} {z : Str} {j : Nat} {p : Pos} : MsgOk prog f qual xs (fun _ => True) (.Constant (.str z) j p) := by
  refine ⟨fun _ => rfl, ?_⟩
  intro w A E s L fI cc e cd mg mb x v Q _ _ _ _ _ _ _ q
  exact wpAny_Constant_str (q _ _ _)
/-- an int that is shown quickly -/
def PInt : L2.V → Prop := fun x => ∃ i : Int, x = .int i ∧ i.natAbs.log2 < 1920 ∧ (toString i : Str).length ≤ 1000
theorem msg_int {prog : Program} {f qual : Str} {z1 z2 : Str} {j1 j2 : Nat} {p1 p2 p3 p4 p5 p6 p7 : Pos} (fok : FldOk f xStr) (h1 : z1.length ≤ 1000) (h2 : z2.length ≤ 1000) (hls : (iS f xStr).names.lookup ("str" : Str) = some .globalImplicit) :
    MsgOk prog f qual xStr PInt (.BinOp (.BinOp (.Constant (.str z1) j1 p1) .Add (.Call (.Name "str" p2) [.Name f p3] [] p4) p5) .Add (.Constant (.str z2) j2 p6) p7) := by
  refine ⟨fun _ => rfl, ?_⟩
  intro w A E s L fI cc e cd mg mb x v Q hP hR hg hgs hb hbs hns q
  obtain ⟨i, rfl, hi, hl⟩ := hP
  obtain ⟨t, rfl⟩ := hR
  refine wpAny_BinOp (wpAny_BinOp (wpAny_Constant_str ?_))
  refine wpAny_Call_Name_kw (wpAny_Name (ks_loadName_global rfl hls (loadGlobal_builtin (env := ksEnv qual (iS f xStr) L fI cd cc) (hg.keeps fun _ _ z => z) hgs (hb.keeps fun _ _ z => z) hbs ?_)) (by decide))
  refine PyProof.Rows.callWith_type1 ?_ rfl rfl
  refine spliced_cons ?_
  refine wpAny_Name (wpAny_loadName_local rfl fok.lf (hns.keeps fun _ _ z => z) (fok.b2 e _) ?_) fok.db
  refine spliced_nil ?_
  refine PySem.P.str_of_int hi ?_
  refine PyProof.Rows.add_str (fun t' tk => ?_) (by rw [sizeLine_eq]; omega)
  refine wpAny_Constant_str ?_
  refine PyProof.Rows.add_str (fun t' tk => q _ _ _) ?_
  rw [sizeLine_eq]
  have e1 : (z1 ++ (toString i : Str)).length = z1.length + (toString i : Str).length := strLen_append _ _
  rw [e1]
  omega
end PLX
/-! PL, part xc: an own error class called -/
namespace PLX
open PySem PySem.W PySem.Calls PySem.Spec PyProof.Rows PySem.HandSPX
/-- an error made of the class at C -/
structure XMade (h h' : Heap) (e C d : Addr) (f : Str) (v : Value) : Prop where
  keep : ∀ b o, h.get? b = some o → h'.get? b = some o
  new : h.objs.size ≤ e
  obj : ∃ t1, h'.get? e = some { cls := .ref C, dict := some d, data := .fields #[.ref t1, .none, .none, .none, .bool false, .none] }
  dbig : h.objs.size ≤ d
  dne : d ≠ e
  ns : h'.Ns1 d (fun y => if y = f then some v else none)
section
variable {prog : Program} {w : World} {A : Around} {R : Result → Shared → Prop} {s : Shared} {K : Frag} {mg mb : Str → Option Value} {C fI : Addr} {x : Str} {f qual : Str} {xs : List (Str × NameKind)} {Pv : L2.V → Prop}
theorem one_size (v : Value) : [v].length ≤ sizeLine := by
  rw [sizeLine_eq]
  exact (by decide : 1 ≤ 16777216)
theorem x_made (T : XTxt prog K mg x C fI f qual xs Pv) {xv : L2.V} {v : Value} (hPv : Pv xv) (hRv : L2.RelV xv v) (hbt : mb "str" = some (.type "str")) (X : K.In s.heap) (hg : s.heap.Ns mainGlobals mg) (hb : s.heap.Ns builtinsNs mb) (hbs : mb "super" = some (.type "super")) (hlim : s.heap.NoLimit) (hroom : A.depth + 1 < recursionLimit)
    (hq : ∀ h' tk e d, XMade s.heap h' e C d f v → R (.ok (.ret (.ref e))) { s with heap := h', toks := tk }) :
    codeAny (model prog w) A (.call (.ref C) ⟨[v], []⟩) R s := by
  obtain ⟨nm, q, N, bs, bm, sn, sub, ab, col, dd, k0, k1, k2, k3, k5, hC, hbm⟩ := T.cls
  obtain ⟨hp, g, dr, tk, os⟩ := s
  have k : ∀ b o, hp.get? b = some o → ((hp.push (kdv_tup [v])).push (excO C hp.objs.size)).get? b = some o := fun b o e => Heap.get?_push_of_some _ (Heap.get?_push_of_some _ e)
  have hget : ((hp.push (kdv_tup [v])).push (excO C hp.objs.size)).get? (hp.objs.size + 1) = some (excO C hp.objs.size) := by heap_get
  have hnx : K.lookup (hp.objs.size + 1) = none := by
    cases e : K.lookup (hp.objs.size + 1) with
    | none => rfl
    | some o =>
      have z : hp.get? (hp.objs.size + 1) = some o := X _ _ e
      exact absurd (Nat.lt_of_succ_lt (Heap.lt_size z)) (Nat.lt_irrefl _)
  refine call_own F.excBase_ValueError (fun X => refsVE_contains X bm hbm) (X _ _ hC) (looks_findIn X T.iC) (fun self => bind_fn X self T.tC) (one_size v) ?_
  refine x_init (s := ⟨(hp.push (kdv_tup [v])).push (excO C hp.objs.size), g, dr, tk, os⟩) T hPv hRv hbt (X.keeps k) (hg.keeps k) (hb.keeps k) hbs (hlim.keeps k) hget hnx ?_ fun h' tk' dx ⟨k', hx, dn, dne, hns⟩ => ?_
  · show A.depth + 1 < recursionLimit
    exact hroom
  · have old : ∀ b o, hp.get? b = some o → h'.get? b = some o := fun b o e => k' b o (Nat.ne_of_lt (Nat.lt_succ_of_lt (Heap.lt_size e))) (k b o e)
    have z : hp.objs.size + 1 + 1 ≤ dx := by
      first
        | (simpa only [Heap.size_push] using dn)
        | exact dn
        | (have q := dn; rw [Heap.size_push, Heap.size_push] at q; exact q)
    exact ⟨rfl, hq h' tk' (hp.objs.size + 1) dx ⟨old, Nat.le_succ _, hx, Nat.le_trans (Nat.le_trans (Nat.le_succ _) (Nat.le_succ _)) z, dne, hns⟩⟩
end
end PLX
namespace L2
open PySem PySem.Spec PyProof.Rows
section
variable {X : Cx} {C fI : Addr} {x f qual : Str} {xs : List (Str × NameKind)} {Pv : V → Prop}
theorem pmk_x {a : Expr} {ta : TA} {p pos : Pos} {k : Nat} (T : PLX.XTxt X.prog X.K X.mg x C fI f qual xs Pv) (hr : Room (k + 1) X.A) (ha : PA X [a] ta) (hg : Gl X x := by rfl) (hdb : (x == ("__debug__" : Str)) = false := by decide)
    (he : starEach (a :: []) X.env = (false, eval a X.env) :: starEach [] X.env := by rfl) (hpl : (backTo pos (starEach [] X.env)).any (·.1) = false := by rfl) :
    PMk X (.Call (.Name x p) [a] [] pos) (fun σ H Q => ta σ H fun vs H1 => ∃ v, vs = [v] ∧ Pv v ∧ ∀ d, H1 d = none → Q (.ref C) (some d) (upd H1 d (.xd [(f, v)]))) := by
  intro pins s σ H Q I h
  refine wpAny_Call_Name_kw (ld_glob I hg T.gC ?_ hdb)
  refine PySem.W.callWith_K (h₀ := X.base) I.ok.mod.kin T.kC (thn (ha.run pos pins s σ H _ I h) fun us s1 hh => ?_) he hpl
  obtain ⟨vs, H1, I1, r1, v, ev, hPv, q1⟩ := hh
  subst ev
  refine ⟨I1.kIn, ?_⟩
  cases r1 with
  | cons rv rn =>
    rename_i v' us'
    cases rn
    show wpAny _ _ (call (.ref C) [v']) _ _ _
    have hlim := I1.nolimit
    obtain ⟨mb, hb1, hb2⟩ := I1.mod.blt
    have hgl := I1.mod.glob.keeps I1.bk
    have hbl := hb1.keeps I1.bk
    obtain ⟨hp, g, dr, tk, os⟩ := s1
    refine wpAny_call (PLX.x_made T hPv rv ((hb2 _ (by decide)).trans (by decide +kernel)) I1.kIn hgl hbl ((hb2 _ (by decide)).trans (by decide +kernel)) hlim (by have := hr.dp; omega) fun h' tk' e d M => ?_)
    show MkP X pins σ Q (.ref e) ⟨h', g, dr, tk', os⟩
    obtain ⟨t1, hoe⟩ := M.obj
    have hns := M.ns
    obtain ⟨G', g1, g2⟩ := restrict h' fun b => decide (b ≠ e)
    have gk : ∀ b, b ≠ e → G'.get? b = h'.get? b := fun b hb => g1 b (decide_eq_true hb)
    have ge : G'.get? e = none := g2 e (by simp)
    have old : ∀ b o, hp.get? b = some o → G'.get? b = some o := fun b o q => (gk b (Nat.ne_of_lt (Nat.lt_of_lt_of_le (Heap.lt_size q) M.new))).trans (M.keep b o q)
    have ob : ObjOk X.prog X.w (upd H1 d (.xd [(f, v)])) G' d (.xd [(f, v)]) :=
      ⟨_, hns.at (fun o q => (gk d M.dne).trans q), fun g => relO_put (fs := []) (mA := fun _ => none) rv (fun _ => True.intro) g⟩
    have J : Inv X pins σ (upd H1 d (.xd [(f, v)])) ⟨G', g, dr, tk', os⟩ := I1.laid (t' := tk') old M.dbig ob
    refine ⟨e, _, _, ⟨G', g, dr, tk', os⟩, _, .ref C, some d, rfl, J, fun b o q => ?_, ge, hoe, ⟨rfl, rfl⟩, rfl, rfl, ?_, rfl, I1.bare, raises_own T.exC T.tyC, q1 d (I1.hok.fresh M.dbig)⟩
    · by_cases hb : b = e
      · have q' : G'.get? b = some o := q
        rw [hb, ge] at q'; cases q'
      · exact (gk b hb).symm.trans q
    · rw [upd_ne (Ne.symm M.dne)]
      exact I1.hok.fresh M.new
/-- x(a).f -/
theorem pe_mkFld {a : Expr} {te : TE} {p pos pos2 : Pos} {k : Nat} (T : PLX.XTxt X.prog X.K X.mg x C fI f qual xs Pv) (hr : Room (k + 1) X.A) (ha : PE X a te) (hg : Gl X x := by rfl) (hdb : (x == ("__debug__" : Str)) = false := by decide)
    (he : starEach (a :: []) X.env = (false, eval a X.env) :: starEach [] X.env := by rfl) (hpl : (backTo pos (starEach [] X.env)).any (·.1) = false := by rfl)
    (hb : attributeBase (.Call (.Name x p) [a] [] pos) f X.env (eval (.Call (.Name x p) [a] [] pos) X.env) = eval (.Call (.Name x p) [a] [] pos) X.env := by rfl) :
    PE X (.Attribute (.Call (.Name x p) [a] [] pos) f pos2) (fun σ H Q => te σ H fun v H1 => Pv v ∧ Q v H1) := by
  refine ⟨fun pins s σ H Q I h => ?_⟩
  have ha' : PA X [a] (tCons te tNil) := pa_cons ha pa_nil he
  refine attr_of hb ?_
  refine wpAny_Call_Name_kw (ld_glob I hg T.gC ?_ hdb)
  refine PySem.W.callWith_K (h₀ := X.base) I.ok.mod.kin T.kC (thn (ha'.run pos pins s σ H (fun vs H' => match vs with | [v] => Pv v ∧ Q v H' | _ => False) I h) fun us s1 hh => ?_) he hpl
  obtain ⟨vs, H1, I1, r1, q1⟩ := hh
  obtain ⟨v, rfl⟩ : ∃ v, vs = [v] := by
    match vs, q1 with
    | [v], _ => exact ⟨v, rfl⟩
  obtain ⟨hPv, q1⟩ : Pv v ∧ Q v H1 := q1
  refine ⟨I1.kIn, ?_⟩
  cases r1 with
  | cons rv rn =>
    rename_i v' us'
    cases rn
    show wpAny _ _ (call (.ref C) [v']) _ _ _
    have hlim := I1.nolimit
    obtain ⟨mb, hb1, hb2⟩ := I1.mod.blt
    have hgl := I1.mod.glob.keeps I1.bk
    have hbl := hb1.keeps I1.bk
    obtain ⟨hp, g, dr, tk, os⟩ := s1
    refine wpAny_call (PLX.x_made T hPv rv ((hb2 _ (by decide)).trans (by decide +kernel)) I1.kIn hgl hbl ((hb2 _ (by decide)).trans (by decide +kernel)) hlim (by have := hr.dp; omega) fun h' tk' e d M => ?_)
    obtain ⟨t1, hoe⟩ := M.obj
    have J : Inv X pins σ H1 ⟨h', g, dr, tk', os⟩ := I1.kept (t' := tk') M.keep
    obtain ⟨od, ho, hl⟩ := lookIn_ns M.ns
    have IA : PySem.W.InstAt h' e { cls := .ref C, dict := some d, data := .fields #[.ref t1, .none, .none, .none, .bool false, .none] } C (some od) := ⟨hoe, rfl, rfl, ho⟩
    exact HandSPX.exc_get (s := ⟨h', g, dr, tk', os⟩) J.kIn IA T.ga T.gg T.exC (PySem.W.findObj_own T.hdC T.noN rfl (by rw [hl, if_pos rfl])) (handed_of rv) ⟨v, H1, J.tok _, rv, q1⟩
end
end L2
/-! PL, part h: exceptions. -/
namespace PL
open PySem PySem.Spec PyProof.Rows L2
theorem bt_ValueError : bootBuiltins "ValueError" = some (.type "ValueError") := by decide +kernel
/-! ### raise -/
/-- raise x(e), x's only field f; c: for which values the message can be made -/
def sRaiseP (c : PV → Bool) (x f : Str) (fe : EM) : SM := fun env st => sOf (fe env st) env fun v st1 => if c v = true then .err env x (some [(f, v)]) st1 else .stuck
def cAny : PV → Bool := fun _ => true
def cInt : PV → Bool
  | .int i => decide (i.natAbs.log2 < 1920 ∧ (toString i : Str).length ≤ 1000)
  | _ => false
abbrev sRaise (x f : Str) (fe : EM) : SM := sRaiseP cAny x f fe
def CondOk (c : PV → Bool) (Pv : V → Prop) : Prop := ∀ (K : PySem.W.Frag) (ω : Wo) (v : PV) (y : V), c v = true → Rep K ω v y → Pv y
theorem cond_any : CondOk cAny (fun _ => True) := fun _ _ _ _ _ _ => trivial
theorem cond_int : CondOk cInt PLX.PInt := fun K ω v y h r => by
  cases v with
  | int i => cases r; have h : decide (i.natAbs.log2 < 1920 ∧ (toString i : Str).length ≤ 1000) = true := h; exact ⟨i, rfl, of_decide_eq_true h⟩
  | _ => cases h
section
variable {X : Cx} {W : WX} {C fI : Addr} {x f qual : Str} {a : Expr} {fe : EM} {p pos pos2 : Pos} {k : Nat} {xs : List (Str × NameKind)} {Pv : V → Prop} {c : PV → Bool}
theorem ms_raise (hP : CondOk c Pv) (hc : X.calm = true) (tk : Takes X W) (T : PLX.XTxt X.prog X.K X.mg x C fI f qual xs Pv) (hr : Room (k + 1) X.A) (ha : ME X W a fe) (hg : Gl X x := by rfl) (hdb : (x == ("__debug__" : Str)) = false := by decide)
    (he : starEach (a :: []) X.env = (false, eval a X.env) :: starEach [] X.env := by rfl) (hpl : (backTo pos (starEach [] X.env)).any (·.1) = false := by rfl) :
    MS X W (.Raise (some (.Call (.Name x p) [a] [] pos)) none pos2) (sRaiseP c x f fe) := by
  refine psI (ps_raise hc tk (pmk_x T hr (pa_cons ha pa_nil he) hg hdb he hpl)) ?_
  rintro D σ H ⟨ω, st, env, wd, re, h⟩
  refine ⟨ω, st, env, wd, re, (h.bind (Rel := RV X.K) re).mono ?_⟩
  rintro y H1 ⟨ω1, st1, v, e1, wd1, r1, h1⟩
  by_cases hcv : c v = true
  · rw [if_pos hcv] at h1
    refine ⟨y, rfl, hP _ _ _ _ hcv r1, fun d hd => ?_⟩
    have nF : ω1.F d = none := wd1.fresh hd
    have nρ : d ∉ ω1.ρ := fun m => by
      obtain ⟨u, q⟩ := wd1.there m
      rw [hd] at q; cases q
    have x1 : Ext ω1 H1 ω1 (upd H1 d (.xd [(f, y)])) := by
      refine ⟨.refl _, fun b o e _ => ?_, fun b z => ?_, fun b z => .inl z, fun b m => .inl m, fun b od u e => by rw [upd_ne (ne_of_none e hd)]; exact e⟩
      · rw [upd_ne (ne_of_none e hd)]; exact e
      · by_cases hb : b = d
        · subst hb; rw [upd_same]; simp
        · rw [upd_ne hb]; exact z
    exact h1 ω1 _ σ (some d) (.ref C) x1 (wd1.other nF nρ) (re.mono e1.le) T.gC ⟨d, _, rfl, hd, upd_same, nF, nρ, rfl, .cons r1 .nil⟩
  · rw [if_neg hcv] at h1
    exact False.elim h1
/-- x(e).f -/
theorem me_mkFld (T : PLX.XTxt X.prog X.K X.mg x C fI f qual xs fun _ => True) (hr : Room (k + 1) X.A) (ha : ME X W a fe) (hg : Gl X x := by rfl) (hdb : (x == ("__debug__" : Str)) = false := by decide)
    (he : starEach (a :: []) X.env = (false, eval a X.env) :: starEach [] X.env := by rfl) (hpl : (backTo pos (starEach [] X.env)).any (·.1) = false := by rfl)
    (hb : attributeBase (.Call (.Name x p) [a] [] pos) f X.env (eval (.Call (.Name x p) [a] [] pos) X.env) = eval (.Call (.Name x p) [a] [] pos) X.env := by rfl) :
    ME X W (.Attribute (.Call (.Name x p) [a] [] pos) f pos2) fe := peI (pe_mkFld T hr ha hg hdb he hpl hb) fun σ H Q ⟨ω, st, env, wd, re, h⟩ => ⟨ω, st, env, wd, re, h.mono fun _ _ q => ⟨trivial, q⟩⟩
end
/-! ### defs that raise -/
section
variable {P : Program} {w : World} {K : PySem.W.Frag} {mg : Str → Option Value} {base : Heap}
theorem okPX {x qual : Str} {st : Stmt} {f : Addr} {fd : FuncData} {N ps : List Str} {k : Nat} {fm : SM} (F : Fun K x qual st f fd) (S : FnScope N ps (defScope st))
    (hbody : ∀ (cdv : Value) (A : Around) (outer : List Env) (s : Shared) (H : Hp) (E : XK), Room k (A.deeper (envOfC qual (defScope st) s.heap.objs.size f cdv)) →
      MB (cxOf (L2.CX P w) P w K mg base N qual (defScope st) f cdv A outer s H E) (fun cls d _ H => E cls d H) (defBody st) fm) :
    FnOk P w K mg base (L2.CX P w) (k + 1) f fd ps (spP ⟨K, mg⟩ ps.length (runBody N.length fm)) := by
  refine F.okX S (fun vs H Q E h => spP_len h) fun cdv A outer s H vs Q E hr h => ⟨_, hbody cdv A outer s H E hr, ?_⟩
  have hl := spP_len h
  obtain ⟨ω, s0, args, wd, r, h⟩ := h
  unfold guardN at h
  rw [if_pos (by rw [r.length]; exact hl)] at h
  refine ⟨ω, s0, args.map some ++ List.replicate (N.length - args.length) none, wd, ?_, ?_⟩
  · unfold L2.start
    rw [r.length]
    exact r.rep_append _
  · have h : After ⟨K, mg⟩ E ω H (runBody N.length fm args s0) (RV K) Q := h
    unfold runBody at h
    split at h
    · rename_i q; rw [q]
      exact fun ω' H' σ' x w r => h ω' H' .non x w .non
    · rename_i q; rw [q]
      exact fun ω' H' y x w r => h ω' H' y x w r
    · rename_i q; rw [q]
      exact fun ω' H' σ' d cls x w r m y => h ω' H' d cls x w m y
    · exact False.elim h
structure HasX (P : Program) (w : World) (K : PySem.W.Frag) (mg : Str → Option Value) (base : Heap) (x : Str) (ps : List Str) (k : Nat) (m : List PV → Store → Res PV) : Prop where
  ex : ∃ f fd, FnOk P w K mg base (L2.CX P w) k f fd ps (spP ⟨K, mg⟩ ps.length m) ∧ mg x = some (.ref f) ∧ PySem.W.keepIn K (.ref f) = true ∧ Binds K fd ps [] ∧ FdAt K f fd
theorem hasX_of {x : Str} {st : Stmt} {N ps : List Str} {k : Nat} {fm : SM} (d : DefOf K mg x st ps) (S : FnScope N ps (defScope st))
    (hbody : ∀ {f : Addr} (cdv : Value) (A : Around) (outer : List Env) (s : Shared) (H : Hp) (E : XK), Room k (A.deeper (envOfC x (defScope st) s.heap.objs.size f cdv)) →
      MB (cxOf (L2.CX P w) P w K mg base N x (defScope st) f cdv A outer s H E) (fun cls d _ H => E cls d H) (defBody st) fm) : HasX P w K mg base x ps (k + 1) (runBody N.length fm) := by
  obtain ⟨f, fd, F, hm, hb⟩ := d.ex
  exact ⟨f, fd, okPX F S fun cdv A outer s H E hr => hbody cdv A outer s H E hr, hm, F.kp, hb, .of F⟩
end
/-- a call of a def that may raise -/
def eCallX (n : Nat) (m : List PV → Store → Res PV) (fs : AM) : EM := eArgs (guardN n m) fs
section
variable {X : Cx} {W : WX} {x : Str} {p pos : Pos} {e : Expr} {es : List Expr} {fs : AM} {ps : List Str} {k : Nat} {m : List PV → Store → Res PV}
theorem me_callX {n : Nat} (tk : Takes X W) (h : HasX X.prog X.w X.K X.mg X.base x ps k m) (hr : Room k X.A) (ha : MA X W (e :: es) fs) (hn : ps.length = n := by rfl) (hg : Gl X x := by rfl) (hdb : (x == ("__debug__" : Str)) = false := by decide)
    (he : starEach (e :: es) X.env = (false, eval e X.env) :: starEach es X.env := by rfl) (hpl : (backTo pos (starEach es X.env)).any (·.1) = false := by rfl) :
    ME X W (.Call (.Name x p) (e :: es) [] pos) (eCallX n m fs) := by
  subst hn
  obtain ⟨f, fd, F, hm, hk, hb, _⟩ := h.ex
  refine peI (pe_callS F hr hg hm hk hb (fun σ => passAt tk σ) ha hdb he hpl) ?_
  rintro σ H Q ⟨ω, st, env, wd, re, h⟩
  refine ⟨ω, st, env, wd, re, (After.bind (Rel := RL X.K) h).mono ?_⟩
  rintro xs H1 ⟨ω1, st1, vs, e1, wd1, r1, h1⟩
  exact ⟨ω1, st1, vs, wd1, r1, h1⟩
end
/-! ### try .. except x as n -/
def unsetR (i : Nat) : SR → SR
  | .nx env st => .nx (env.set i none) st
  | .bk env st => .bk (env.set i none) st
  | .ct env st => .ct (env.set i none) st
  | .rt v st => .rt v st
  | _ => .stuck
open Classical in
/-- what the suite does, whatever the addresses of the error and of its dict -/
noncomputable def anyAd (r : Nat → Nat → SR) : SR := if ∀ a d, r a d = r 0 0 then r 0 0 else .stuck
noncomputable def sTry (i : Nat) (x : Str) (fb : SM) (fs : Nat → Nat → SM) : SM := fun env st => match fb env st with
  | .err env' n (some fl) st' => if n = x then anyAd fun a d => unsetR i (fs a d (env'.set i (some (.exc a d (fl.map (·.1)) (fl.map (·.2))))) st') else .stuck
  | .err _ _ none _ => .stuck
  | r => r
theorem Wd.freezeX {K : PySem.W.Frag} {ω₀ ω : Wo} {H₀ H : Hp} {p : Addr} {o : HO} (x : Ext ω₀ H₀ ω H) (n0 : H₀ p = none) (e : H p = some o) (nF : ω.F p = none) : Ext ω₀ H₀ (ω.fz p o) H := by
  refine ⟨x.le.trans (Wo.fz_le nF), x.oth, x.live, fun b z => ?_, x.nρ, x.fr⟩
  by_cases hb : b = p
  · subst hb; exact .inr n0
  · have z : upd ω.F p o b ≠ none := z
    rw [upd_ne hb] at z
    exact x.nF b z
section
variable {X : Cx} {W : WX} {x n : Str} {C : Addr} {i : Nat} {body suite : List Stmt} {b₀ : Stmt} {np pos pos' : Pos} {fb : SM} {fs : Nat → Nat → SM}
theorem ms_try (hs : X.stack = X.env :: X.outer) (hf : X.env.frame = some X.env.locals) (hN : X.N.Nodup) (hi : X.N[i]? = some n) (hln : X.env.kindOf n = some .local) (hc : Names X x (.ref C)) (hm : X.mg x = some (.ref C)) (hte : PySem.W.exmOne X.K (.ref C) (.ref C) = some true)
    (hb : ∀ (W : WX) (pn : List (Addr × Obj)) (xe : Value → Shared → Prop), Takes (X.tr pn xe) W → MB (X.tr pn xe) W body fb)
    (hsu : ∀ (a : Addr) (oe : Obj) (d : Addr) (pn : List (Addr × Obj)), Zc (.ref C) (some d) oe → (∃ vs, oe.data = .fields vs) → MB (X.suite a ((a, oe) :: pn)) W0 (b₀ :: suite) (fs a d)) :
    MS X W (.Try body [.ExceptHandler (some (.Name x np)) (some n) (b₀ :: suite) pos'] [] [] pos) (sTry i x fb fs) := by
  refine psI (ps_try_as (tb := fun W => tS X W fb) (ts := fun a cls d D σ H => ∃ dd : Addr, cls = .ref C ∧ d = some dd ∧ tS X W0 (fs a dd) D σ H) (Wout := fun _ _ _ _ => False) hs hf hN hi hln hc takes0
    (fun W pn xe tk _ => hb W pn xe tk) (fun a oe cls d pn hz hf => ⟨fun pins s σ H D I h => ?_⟩)) ?_
  · obtain ⟨dd, rfl, rfl, h⟩ := h
    exact (hsu a oe dd pn hz hf).run pins s σ H D I h
  rintro D σ H ⟨ω, st, env, wd, re, h⟩
  refine ⟨ω, st, env, wd, re, ?_⟩
  unfold sTry at h
  split at h
  · rename_i env' n' fl st' q
    rw [q]
    split at h
    · rename_i en
      subst en
      unfold anyAd at h
      split at h
      · rename_i all
        intro ω' H' σ' d cls x1 w1 r1 m1 xr
        rw [hm] at m1
        cases m1
        obtain ⟨p, vs, rfl, n0, ep, nF, nρ, ens, rv⟩ := xr
        refine ⟨true, hte, fun _ a na => ⟨p, rfl, rfl, ω'.fz p (.xd vs), st', env'.set i (some (.exc a p (fl.map (·.1)) (fl.map (·.2)))), w1.freeze ep nF nρ, ?_, ?_⟩, fun z => nomatch z⟩
        · have le := Wo.fz_le (o := .xd vs) nF
          exact (r1.mono le).set (.exc upd_same ens.symm (rv.mono le)) i
        · have h : AfterS X W ω H (unsetR i (fs a p (env'.set i (some (.exc a p (fl.map (·.1)) (fl.map (·.2))))) st')) D := by
            have e := all a p
            dsimp only at e
            rw [e]
            exact h
          have x2 := Wd.freezeX (K := X.K) x1 n0 ep nF
          cases q2 : fs a p (env'.set i (some (.exc a p (fl.map (·.1)) (fl.map (·.2))))) st' with
          | nx e2 s2 => rw [q2] at h; exact fun ω3 H3 σ3 x w r => h ω3 H3 (σ3.set i none) (x2.trans x) w (r.unset i)
          | bk e2 s2 => rw [q2] at h; exact fun ω3 H3 σ3 x w r => h ω3 H3 (σ3.set i none) (x2.trans x) w (r.unset i)
          | ct e2 s2 => rw [q2] at h; exact fun ω3 H3 σ3 x w r => h ω3 H3 (σ3.set i none) (x2.trans x) w (r.unset i)
          | rt v s2 => rw [q2] at h; exact fun ω3 H3 y x w r => h ω3 H3 y (x2.trans x) w r
          | err e2 n2 f2 s2 => rw [q2] at h; exact False.elim h
          | stuck => rw [q2] at h; exact False.elim h
      · exact False.elim h
    · exact False.elim h
  · exact False.elim h
  · rename_i r q1 q2
    cases q3 : fb env st with
    | nx e2 s2 => rw [q3] at h; exact h
    | bk e2 s2 => rw [q3] at h; exact h
    | ct e2 s2 => rw [q3] at h; exact h
    | rt v s2 => rw [q3] at h; exact h
    | err e2 n2 f2 s2 =>
      cases f2 with
      | none => exact absurd q3 (q2 _ _ _)
      | some fl => exact absurd q3 (q1 _ _ _ _)
    | stuck => rw [q3] at h; exact False.elim h
end
/-! ### within the suite: isinstance(e, ..), e.f -/
def eIsE (a d : Nat) (b : Bool) (fe : EM) : EM := fun env st => (fe env st).bind fun v st1 => match v with
  | .exc a' d' _ _ => if a' = a ∧ d' = d then .ok (.bl b) st1 else .stuck
  | _ => .stuck
def eXf (a d : Nat) (f : Str) (fe : EM) : EM := fun env st => (fe env st).bind fun v st1 => match v with
  | .exc a' d' ns xs => if a' = a ∧ d' = d then match (ns.zip xs).lookup f with
    | some y => .ok y st1
    | none => .stuck
    else .stuck
  | _ => .stuck
/-- what isinstance asks of the error's class -/
structure IsC (K : PySem.W.Frag) (C : Addr) : Prop where
  hcl : (PySem.W.clsIn K C).isSome = true
  hg : PySem.W.findIn K (.ref C) "__getattribute__" = some (some (.builtin "BaseException.__getattribute__"))
  hk : PySem.W.findIn K (.ref C) "__getattr__" = some none
  hs : PySem.W.subIn K (.ref C) (.type "BaseException") = some true
  ha : PySem.W.findIn K (.ref C) "__class__" = some (some (.builtin "object.__class__"))
  hn : PySem.W.specialIn K (.builtin "object.__class__") "__get__" = some (some (.builtin "getset_descriptor.__get__"))
  ht : PySem.W.takesIn K (.builtin "object.__class__") = some true
  hm : PySem.W.mroIn K C (.type "object") = some true
def rIsD (K : PySem.W.Frag) (C a d : Addr) : List V → Hp → VK → Prop := fun xs H Q => ∃ (c : V) (cv : Value) (b : Bool) (fs : List (Str × V)), xs = [.ref a, c] ∧ H d = some (.xd fs) ∧ (∀ u, RelV c u → u = cv) ∧ PySem.W.kitOne K (.ref C) cv = some b ∧ Q (.bl b) H
def rIsDT (K : PySem.W.Frag) (C a d : Addr) : List V → Hp → VK → Prop := fun xs H Q => ∃ (tp : Addr) (cs : List V) (ws : List Value) (b : Bool) (fs : List (Str × V)), xs = [.ref a, .ref tp] ∧ H d = some (.xd fs) ∧ H tp = some (.tup cs) ∧ (∀ us, Vals cs us → us = ws) ∧ PySem.W.kitAny K (.ref C) ws = some b ∧ Q (.bl b) H
section
variable {X : Cx} {a d C : Addr} {oe : Obj} {pn : List (Addr × Obj)}
theorem inst_of {pins : List (Addr × Obj)} {σ : L2.St} {H : Hp} {s : Shared} (hz : Zc (.ref C) (some d) oe) (hf : ∃ vs, oe.data = .fields vs) (I : Inv (X.suite a ((a, oe) :: pn)) pins σ H s) {fs : List (Str × V)} (e : H d = some (.xd fs)) : ∃ od, PySem.W.InstAt s.heap a oe C (some od) := by
  obtain ⟨hget, _⟩ := I.pin (a, oe) (List.mem_append.mpr (.inl List.mem_cons_self))
  obtain ⟨vs, hv⟩ := hf
  have hx : ObjOk X.prog X.w H s.heap d (.xd fs) := I.hok d _ e
  obtain ⟨mA, hns, hr⟩ := hx
  obtain ⟨od, ho, hl⟩ := lookIn_ns hns
  exact ⟨od, hget, hz.1, by unfold PySem.W.notCls; rw [hv] <;> rfl, by rw [hz.2]; exact ho⟩
theorem call_isD (T : IsC X.K C) (hz : Zc (.ref C) (some d) oe) (hf : ∃ vs, oe.data = .fields vs) : CallR (X.suite a ((a, oe) :: pn)) (.builtin "isinstance") (rIsD X.K C a d) := by
  intro pins s σ H xs us Q I r h
  obtain ⟨c, cv, b, fs, rfl, ed, hcv, e, q⟩ := h
  obtain ⟨u1, u2, rfl, r1, r2⟩ := vals2 r
  cases (show u1 = Value.ref a from r1)
  have ec := hcv _ r2
  subst ec
  obtain ⟨od, J⟩ := inst_of hz hf I ed
  exact PySem.W.kia_one (PySem.W.kitx_exc T.hcl T.hg T.hk T.hs T.ha T.hn T.ht T.hm) I.kIn J e (fun z => nomatch z) fun tk => ⟨.bl b, H, I.kept (t' := tk) fun _ _ z => z, rfl, q⟩
theorem call_isDT (T : IsC X.K C) (hz : Zc (.ref C) (some d) oe) (hf : ∃ vs, oe.data = .fields vs) : CallR (X.suite a ((a, oe) :: pn)) (.builtin "isinstance") (rIsDT X.K C a d) := by
  intro pins s σ H xs us Q I r h
  obtain ⟨tp, cs, ws, b, fs, rfl, ed, hT, hws, e, q⟩ := h
  obtain ⟨u1, u2, rfl, r1, r2⟩ := vals2 r
  cases (show u1 = Value.ref a from r1)
  cases (show u2 = Value.ref tp from r2)
  obtain ⟨od, J⟩ := inst_of hz hf I ed
  obtain ⟨_, its, rv, o, h1, h2, n, h3⟩ := (show ObjOk X.prog X.w H s.heap tp (.tup cs) from I.hok tp _ hT)
  have e3 := hws _ rv
  subst e3
  obtain ⟨oc, od', dt, sl⟩ := o
  simp only at h2 h3
  subst h2 h3
  exact PySem.W.kia_tup (PySem.W.kitx_exc T.hcl T.hg T.hk T.hs T.ha T.hn T.ht T.hm) I.kIn J h1 e (fun z => nomatch z) fun tk => ⟨.bl b, H, I.kept (t' := tk) fun _ _ z => z, rfl, q⟩
end
theorem lookup_rep {K : PySem.W.Frag} {ω : Wo} {f : Str} : ∀ {fs : List (Str × V)} {xs : List PV} {y : PV}, Reps K ω xs (fs.map (·.2)) → ((fs.map (·.1)).zip xs).lookup f = some y → ∃ v, fs.lookup f = some v ∧ Rep K ω y v
  | [], _, y, .nil, e => by simp at e
  | (g, v) :: fs, _, y, .cons r t, e => by
    simp only [List.map_cons, List.zip_cons_cons, List.lookup_cons] at e ⊢
    by_cases h : (f == g) = true
    · rw [h] at e ⊢
      simp only [Option.some.injEq] at e
      subst e
      exact ⟨v, rfl, r⟩
    · have h : (f == g) = false := by simpa using h
      rw [h] at e ⊢
      exact lookup_rep t e
section
variable {X : Cx} {W : WX} {a d C : Addr} {oe : Obj} {pn : List (Addr × Obj)} {e : Expr} {fe : EM} {y : Str} {p p2 pos : Pos} {b : Bool}
theorem me_isE {u : Value} {v : V} (T : IsC X.K C) (hz : Zc (.ref C) (some d) oe) (hf : ∃ vs, oe.data = .fields vs) (hi : X.mg "isinstance" = none) (hv : bootBuiltins "isinstance" = some (.builtin "isinstance"))
    (hk : PySem.W.kitOne X.K (.ref C) u = some b) (hR : ∀ u', RelV v u' → u' = u) {c : Expr} (hcl : ∀ W, ME (X.suite a ((a, oe) :: pn)) W c (eC (.con v))) (he : ME (X.suite a ((a, oe) :: pn)) W e fe) (hg : Gl (X.suite a ((a, oe) :: pn)) "isinstance" := by rfl)
    (hs1 : starEach (e :: [c]) X.env = (false, eval e X.env) :: starEach [c] X.env := by rfl) (hs2 : starEach (c :: []) X.env = (false, eval c X.env) :: starEach [] X.env := by rfl) (hpl : (backTo pos (starEach [c] X.env)).any (·.1) = false := by rfl) :
    ME (X.suite a ((a, oe) :: pn)) W (.Call (.Name "isinstance" p) [e, c] [] pos) (eIsE a d b fe) := by
  refine peI (pe_callB (call_isD T hz hf) hg hi hv (pa_cons he (pa_cons (hcl W) pa_nil hs2) hs1) (by decide) (by decide) hs1 hpl) ?_
  rintro σ H Q ⟨ω, st, env, wd, re, h⟩
  refine ⟨ω, st, env, wd, re, (After.bind (Rel := RV X.K) h).mono ?_⟩
  rintro x H1 ⟨ω1, st1, pv, e1, wd1, r1, h1⟩
  split at h1
  · rename_i a' d' ns xs
    split at h1
    · rename_i hh
      obtain ⟨rfl, rfl⟩ := hh
      cases r1 with
      | exc ed en rr =>
        rename_i fs
        refine ⟨ω1, st1, env, wd1, re.mono e1.le, ?_⟩
        intro ω2 H2 z e2 wd2 r2
        cases r2
        exact ⟨v, u, b, fs, rfl, wd2.sub _ _ (e2.le.fz _ _ ed), hR, hk, After.shift h1 e2 ω2 H2 (.bl b) (.refl _ _) wd2 (.bl b)⟩
    · exact False.elim h1
  · exact False.elim h1
theorem vals_refs : ∀ {as : List Addr} {us : List Value}, Vals (as.map V.ref) us → us = as.map Value.ref
  | [], _, r => by cases r; rfl
  | a :: as, _, r => by
    cases r with
    | cons r t =>
      rename_i u us
      have e : u = Value.ref a := r
      rw [e, vals_refs t]
      rfl
/-- names of classes as a tuple's items -/
def aCs (cs : List V) : AM := fun _ st => .ok (cs.map .con) st
theorem ma_cs_nil {X : Cx} {W : WX} : MA X W [] (aCs []) := paI pa_nil fun σ H Q ⟨ω, st, env, wd, re, h⟩ => h.ok_here wd .nil
theorem ma_cs_cons {X : Cx} {W : WX} {v : V} {cs : List V} {es : List Expr} {u : Value} (hg : Gl X y) (hm : X.mg y = some u) (r : RelV v u) (t : MA X W es (aCs cs)) (hd : (y == ("__debug__" : Str)) = false := by decide)
    (hs : starEach (.Name y pos :: es) X.env = (false, eval (.Name y pos) X.env) :: starEach es X.env := by rfl) : MA X W (.Name y pos :: es) (aCs (v :: cs)) := by
  refine paI (pa_cons (pe_glob (pos := pos) hg hm r hd) t hs) ?_
  rintro σ H Q ⟨ω, st, env, wd, re, h⟩
  refine ⟨ω, st, env, wd, re, fun ω1 H1 xs e1 w1 r1 => ?_⟩
  exact h ω1 H1 (v :: xs) e1 w1 (.cons (.con v) r1)
theorem me_isET {es : List Expr} {cs : List V} {us : List Value} {k2 : Nat} (T : IsC X.K C) (hz : Zc (.ref C) (some d) oe) (hf : ∃ vs, oe.data = .fields vs) (hi : X.mg "isinstance" = none) (hv : bootBuiltins "isinstance" = some (.builtin "isinstance"))
    (hk : PySem.W.kitAny X.K (.ref C) us = some b) (hR : ∀ us', Vals cs us' → us' = us) (hlen : cs.length ≤ 1000) (hcl : ∀ W, MA (X.suite a ((a, oe) :: pn)) W es (aCs cs)) (he : ME (X.suite a ((a, oe) :: pn)) W e fe) (hg : Gl (X.suite a ((a, oe) :: pn)) "isinstance" := by rfl)
    (hs1 : starEach (e :: [.Tuple es k2 p2]) X.env = (false, eval e X.env) :: starEach [.Tuple es k2 p2] X.env := by rfl) (hs2 : starEach (.Tuple es k2 p2 :: []) X.env = (false, eval (.Tuple es k2 p2) X.env) :: starEach [] X.env := by rfl) (hpl : (backTo pos (starEach [.Tuple es k2 p2] X.env)).any (·.1) = false := by rfl) :
    ME (X.suite a ((a, oe) :: pn)) W (.Call (.Name "isinstance" p) [e, .Tuple es k2 p2] [] pos) (eIsE a d b fe) := by
  refine peI (pe_callB (call_isDT T hz hf) hg hi hv (pa_cons he (pa_cons (pe_tup (hcl W)) pa_nil hs2) hs1) (by decide) (by decide) hs1 hpl) ?_
  rintro σ H Q ⟨ω, st, env, wd, re, h⟩
  refine ⟨ω, st, env, wd, re, (After.bind (Rel := RV X.K) h).mono ?_⟩
  rintro x H1 ⟨ω1, st1, pv, e1, wd1, r1, h1⟩
  split at h1
  · rename_i a' d' ns xs
    split at h1
    · rename_i hh
      obtain ⟨rfl, rfl⟩ := hh
      cases r1 with
      | exc ed en rr =>
        rename_i fs
        refine ⟨ω1, st1, env, wd1, re.mono e1.le, ?_⟩
        intro ω2 H2 zs e2 wd2 r2
        have ez : ∀ {cs : List V} {zs : List V}, Reps X.K ω2 (cs.map .con) zs → zs = cs := by
          intro cs
          induction cs with
          | nil => intro zs r; cases r; rfl
          | cons c cs ih => intro zs r; cases r with
            | cons r t => cases r; rw [ih t]
        have ez := ez r2
        subst ez
        refine ⟨by rw [sizeLine_eq]; omega, fun tp htp => ?_⟩
        obtain ⟨w3, x3⟩ := wd2.fz htp (.tup zs)
        have x23 := e2.trans x3
        exact ⟨tp, zs, us, b, fs, rfl, w3.sub _ _ (x23.le.fz _ _ ed), upd_same, hR, hk, After.shift h1 x23 _ _ (.bl b) (.refl _ _) w3 (.bl b)⟩
    · exact False.elim h1
  · exact False.elim h1
theorem me_xf {f : Str} (T : XfC X.K C) (hno : PySem.W.findIn X.K (.ref C) f = some none) (hz : Zc (.ref C) (some d) oe) (hf : ∃ vs, oe.data = .fields vs) (he : ME (X.suite a ((a, oe) :: pn)) W e fe)
    (hb : attributeBase e f X.env (eval e X.env) = eval e X.env := by rfl) : ME (X.suite a ((a, oe) :: pn)) W (.Attribute e f pos) (eXf a d f fe) := by
  refine peI (pe_xf T hno hz hf he hb) ?_
  rintro σ H Q ⟨ω, st, env, wd, re, h⟩
  refine ⟨ω, st, env, wd, re, (After.bind (Rel := RV X.K) h).mono ?_⟩
  rintro x H1 ⟨ω1, st1, pv, e1, wd1, r1, h1⟩
  split at h1
  · rename_i a' d' ns xs
    split at h1
    · rename_i hh
      obtain ⟨rfl, rfl⟩ := hh
      split at h1
      · rename_i yv q
        cases r1 with
        | exc ed en rr =>
          rename_i fs
          subst en
          obtain ⟨v, lv, rv⟩ := lookup_rep rr q
          exact ⟨rfl, rfl, d', fs, v, rfl, wd1.sub _ _ ed, lv, h1.ok_here wd1 rv⟩
      · exact False.elim h1
    · exact False.elim h1
  · exact False.elim h1
end
end PL
/-! PL, the end: from a law's evaluator to the law. -/
namespace PL
open PySem PySem.Spec PyProof.Rows L2
theorem defOf_mk {K : PySem.W.Frag} {h : Heap} {mg : Str → Option Value} {x : Str} {st : Stmt} {ps : List Str} {f : Addr} {od an : Option Addr} {sl : Array (Option Value)} {oc kV dc pm cd ct : Value} (X : K.In h) (G : h.Ns mainGlobals mg)
    (a : PySem.W.nsIn K mainGlobals x = some (some (.ref f))) (l : K.lookup f = some ⟨oc, od, .func (PySem.W.fnOf x x (defArgs st) (defBody st) (defScope st) .none kV dc pm an cd ct), sl⟩) (c : PySem.W.codeIn K cd x = true) (k : PySem.W.keepIn K (.ref f) = true)
    (hb : ∀ (kV doc pm : Value) (an : Option Addr) (cdv ct : Value) (us : List Value), us.length = ps.length → bindArgs (PySem.W.fnOf x x (defArgs st) (defBody st) (defScope st) .none kV doc pm an cdv ct) ⟨us, []⟩ = pure (ps.zip us)) : DefOf K mg x st ps := by
  have F := fun_mk (st := st) l c k
  exact ⟨_, _, F, PySem.W.mg_of X G a, F.binds hb⟩
/-- a law's promise: for every script -/
def spScr (K : PySem.W.Frag) (m : List PV → Store → Res PV) : Sp := fun vs H Q _ => ∃ (a : Addr) (ns : List Int), vs = [.ref a] ∧ SqL K H a (ns.map V.int) ∧ ns.length ≤ 63 ∧ ∀ H', Q (.bl true) H'
theorem reps_int {K : PySem.W.Frag} {ω : Wo} : ∀ ns : List Int, Reps K ω (ns.map PV.int) (ns.map V.int)
  | [] => .nil
  | n :: ns => .cons (.int n) (reps_int ns)
theorem FnOk_scr {P : Program} {w : World} {K : PySem.W.Frag} {mg : Str → Option Value} {base : Heap} {k : Nat} {f : Addr} {fd : FuncData} {m : List PV → Store → Res PV} (F : FnOk P w K mg base CX0 k f fd ["script"] (spP ⟨K, mg⟩ 1 (nE m)))
    (hm : ∀ ns : List Int, ns.length ≤ 63 → ∃ s, m [.frz (ns.map .int)] [] = .ok (.bl true) s) : FnOk P w K mg base CX0 k f fd ["script"] (spScr K m) := by
  have i : ∀ vs H Q E, spScr K m vs H Q E → spP ⟨K, mg⟩ 1 (nE m) vs H Q E := by
    rintro vs H Q E ⟨a, ns, rfl, hS, hl, hQ⟩
    obtain ⟨s, e⟩ := hm ns hl
    refine ⟨⟨H, []⟩, [], [.frz (ns.map .int)], ⟨Same.refl _, rfl, List.nodup_nil, fun a m => by simp at m, fun l a o e => by simp at e⟩, .cons (.frz hS (reps_int ns)) .nil, ?_⟩
    show After _ E _ H (guardN 1 (nE m) [.frz (ns.map .int)] []) _ Q
    unfold guardN
    rw [if_pos (show ([PV.frz (ns.map .int)] : List PV).length = 1 from rfl)]
    show After _ E _ H (noErr (m [.frz (ns.map .int)] [])) _ Q
    rw [e]
    intro ω' H' x _ _ r
    cases r
    exact hQ H'
  exact ⟨fun vs H Q E h => F.1 vs H Q E (i _ _ _ _ h), fun A outer s H args us vs Q E hr e0 hb r hsp => F.2 A outer s H args us vs Q E hr e0 hb r (i _ _ _ _ hsp)⟩
theorem walk_scr {l : PySem.W.OpenLaw} {k : Nat} {m : List PV → Store → Res PV} {q : Program} {loose : List Str} {XP : (Str → Option Value) → Heap → Prop} {YP : World → Heap → Prop} {d : DefRec} {K : Params → PySem.W.Frag} (hn : l.most = some 63) (hdf : d.params.defaults = []) (hr : Room k callerA)
    (hY : ∀ (w : World) (h : Heap), YP w h → (K w.params).In h)
    (F : ∀ (w : World) (mg : Str → Option Value) (fa : Addr) (h : Heap), (K w.params).In h → h.Ns mainGlobals mg → mg d.name = some (.ref fa) →
      ∃ fd : FuncData, (∀ (s : Shared) (u : Value), BindsTo s fd ⟨[u], []⟩ [("script", u)]) ∧ ∀ base : Heap, (K w.params).In base → base.Ns mainGlobals mg → FnOk l.prog w (K w.params) mg base CX0 k fa fd ["script"] (spScr (K w.params) m)) :
    PySem.W.WalkO q loose XP YP l.row.toRowW d [] (fun f vs => PySem.call f vs) :=
  L2.walk_of (n := 63) (k := k) (x := "script") (CX := fun _ => CX0) (sp := fun w => spScr (K w.params) m) hn (by decide) hdf hr hY F (fun _ _ a ns hl _ hS => ⟨a, ns, rfl, hS, hl, fun _ => rfl⟩) fun _ _ _ _ _ z => z
end PL
/-! PL, part m: what an evaluator does, by wishes. -/
namespace PL
open PySem PySem.Spec PyProof.Rows L2
inductive Sat {α : Type} (r : Res α) (Q : α → Store → Prop) : Prop where
  | mk (a : α) (st : Store) (e : r = .ok a st) (q : Q a st)
inductive SatS (r : SR) (N : PEnv → Store → Prop) (R : PV → Store → Prop) : Prop where
  | nx (env : PEnv) (st : Store) (e : r = .nx env st) (q : N env st)
  | rt (v : PV) (st : Store) (e : r = .rt v st) (q : R v st)
section
variable {α β : Type} {Q Q' : α → Store → Prop} {N N' : PEnv → Store → Prop} {R R' : PV → Store → Prop} {env : PEnv} {st : Store}
theorem Sat.mono {r : Res α} (h : Sat r Q) (i : ∀ a s, Q a s → Q' a s) : Sat r Q' := by
  obtain ⟨a, s, e, q⟩ := h
  exact ⟨a, s, e, i _ _ q⟩
theorem SatS.mono {r : SR} (h : SatS r N R) (i : ∀ e s, N e s → N' e s) (j : ∀ v s, R v s → R' v s) : SatS r N' R' := by
  rcases h with ⟨a, s, e, q⟩ | ⟨a, s, e, q⟩
  · exact .nx a s e (i _ _ q)
  · exact .rt a s e (j _ _ q)
theorem sat_of {r : Res α} {a : α} {s : Store} (e : r = .ok a s) : Sat r Q = Q a s := propext ⟨fun ⟨b, t, e', q⟩ => (by
    rw [e] at e'
    cases e'
    exact q), fun q => ⟨a, s, e, q⟩⟩
theorem sat_ok {a : α} : Sat (.ok a st) Q = Q a st := sat_of rfl
theorem sat_stuck : Sat (.stuck : Res α) Q = False := propext ⟨fun ⟨b, t, e', q⟩ => (by cases e'), False.elim⟩
theorem sat_err {n f} : Sat (.err n f st : Res α) Q = False := propext ⟨fun ⟨b, t, e', q⟩ => (by cases e'), False.elim⟩
theorem ss_nx : SatS (.nx env st) N R = N env st := propext ⟨fun h => (by
    rcases h with ⟨a, s, e, q⟩ | ⟨a, s, e, q⟩
    · cases e; exact q
    · cases e), fun q => SatS.nx _ _ rfl q⟩
theorem ss_rt {v : PV} : SatS (.rt v st) N R = R v st := propext ⟨fun h => (by
    rcases h with ⟨a, s, e, q⟩ | ⟨a, s, e, q⟩
    · cases e
    · cases e; exact q), fun q => SatS.rt _ _ rfl q⟩
theorem ss_bk : SatS (.bk env st) N R = False := propext ⟨fun h => (by rcases h with ⟨a, s, e, q⟩ | ⟨a, s, e, q⟩ <;> cases e), False.elim⟩
theorem ss_ct : SatS (.ct env st) N R = False := propext ⟨fun h => (by rcases h with ⟨a, s, e, q⟩ | ⟨a, s, e, q⟩ <;> cases e), False.elim⟩
theorem ss_err {n f} : SatS (.err env n f st) N R = False := propext ⟨fun h => (by rcases h with ⟨a, s, e, q⟩ | ⟨a, s, e, q⟩ <;> cases e), False.elim⟩
theorem ss_stuck : SatS .stuck N R = False := propext ⟨fun h => (by rcases h with ⟨a, s, e, q⟩ | ⟨a, s, e, q⟩ <;> cases e), False.elim⟩
theorem sat_bind {r : Res β} {k : β → Store → Res α} : Sat (r.bind k) Q = Sat r fun b s => Sat (k b s) Q := by
  cases r with
  | ok a s => rw [sat_ok]; rfl
  | err n f s => rw [sat_err]; exact sat_err
  | stuck => rw [sat_stuck]; exact sat_stuck
theorem sat_ite {c : Prop} [Decidable c] {a b : Res α} (hc : c) (h : Sat a Q) : Sat (if c then a else b) Q := by rw [if_pos hc]; exact h
theorem sat_var {i : Nat} {v : PV} {Q : PV → Store → Prop} (e : env[i]? = some (some v)) : Sat (eVar i env st) Q = Q v st := by unfold eVar; rw [e]; exact sat_ok
theorem sat_v {i : Nat} {Q : PV → Store → Prop} : Sat (eVar i env st) Q = match env[i]? with
    | some (some v) => Q v st
    | _ => False := by
  unfold eVar
  cases env[i]? with
  | none => exact sat_stuck
  | some o => cases o with
    | none => exact sat_stuck
    | some v => exact sat_ok
theorem sat_c {v : PV} {Q : PV → Store → Prop} : Sat (eC v env st) Q = Q v st := sat_ok
theorem sat_bin {p fa fb} {Q : PV → Store → Prop} : Sat (eBin p fa fb env st) Q = Sat (fa env st) fun v s => Sat (fb env s) fun w s => Sat (p v w s) Q := by
  unfold eBin; rw [sat_bind]; simp only [sat_bind]
theorem sat_un {p fa} {Q : PV → Store → Prop} : Sat (eUn p fa env st) Q = Sat (fa env st) fun v s => Sat (p v s) Q := by unfold eUn; rw [sat_bind]
theorem sat_test {f : EM} {Q : Bool → Store → Prop} : Sat (eTest f env st) Q = Sat (f env st) fun v s => Sat (pTruth v s) Q := by unfold eTest; rw [sat_bind]
theorem sat_truth {b : Bool} {Q : Bool → Store → Prop} : Sat (pTruth (.bl b) st) Q = Q b st := sat_ok
theorem sat_and {f g : TM} {Q : Bool → Store → Prop} : Sat (tAndM f g env st) Q = Sat (f env st) fun b s => if b = true then Sat (g env s) Q else Q false s := by
  unfold tAndM; rw [sat_bind]; congr 1; funext b s; split
  · rfl
  · exact sat_ok
theorem sat_or {f g : TM} {Q : Bool → Store → Prop} : Sat (tOrM f g env st) Q = Sat (f env st) fun b s => if b = true then Q true s else Sat (g env s) Q := by
  unfold tOrM; rw [sat_bind]; congr 1; funext b s; split
  · exact sat_ok
  · rfl
theorem sat_not {f : TM} {Q : Bool → Store → Prop} : Sat (tNotM f env st) Q = Sat (f env st) fun b s => Q (!b) s := by unfold tNotM; rw [sat_bind]; congr 1; funext b s; exact sat_ok
theorem sat_yes {Q : Bool → Store → Prop} : Sat (tYesM env st) Q = Q true st := sat_ok
theorem sat_andv {f g : EM} {Q : PV → Store → Prop} : Sat (eAndV f g env st) Q = Sat (f env st) fun v s => match v with
    | .bl true => Sat (g env s) Q
    | .bl false => Q (.bl false) s
    | _ => False := by
  unfold eAndV; rw [sat_bind]; congr 1; funext v s
  cases v with
  | bl b => cases b with
    | true => rfl
    | false => exact sat_ok
  | _ => exact sat_stuck
theorem sat_notv {f : EM} {Q : PV → Store → Prop} : Sat (eNotV f env st) Q = Sat (f env st) fun v s => match v with
    | .bl b => Q (.bl (!b)) s
    | _ => False := by
  unfold eNotV; rw [sat_bind]; congr 1; funext v s
  cases v with
  | bl b => exact sat_ok
  | _ => exact sat_stuck
theorem sat_chain {p p' fa fb fc} {Q : PV → Store → Prop} : Sat (eChain p p' fa fb fc env st) Q = Sat (fa env st) fun v s => Sat (fb env s) fun w s => Sat (p v w s) fun z s => match z with
    | .bl true => Sat (fc env s) fun u s => Sat (p' w u s) Q
    | .bl false => Q (.bl false) s
    | _ => False := by
  unfold eChain; rw [sat_bind]; simp only [sat_bind]
  congr 1; funext v s; congr 1; funext w s; congr 1; funext z s
  cases z with
  | bl b => cases b with
    | true => simp only [sat_bind]
    | false => exact sat_ok
  | _ => exact sat_stuck
theorem sat_nil {Q : List PV → Store → Prop} : Sat (aNil env st) Q = Q [] st := sat_ok
theorem sat_cons {f : EM} {g : AM} {Q : List PV → Store → Prop} : Sat (aCons f g env st) Q = Sat (f env st) fun v s => Sat (g env s) fun vs s => Q (v :: vs) s := by
  unfold aCons; rw [sat_bind]; simp only [sat_bind, sat_ok]
theorem sat_args {p : List PV → Store → Res PV} {fs : AM} {Q : PV → Store → Prop} : Sat (eArgs p fs env st) Q = Sat (fs env st) fun vs s => Sat (p vs s) Q := by unfold eArgs; rw [sat_bind]
theorem sat_noErr {r : Res α} : Sat (noErr r) Q = Sat r Q := by
  cases r with
  | ok a s => rfl
  | err n f s => rw [sat_err]; exact sat_stuck
  | stuck => rfl
theorem sat_call {n : Nat} {m : List PV → Store → Res PV} {fs : AM} {Q : PV → Store → Prop} : Sat (eCall n m fs env st) Q = Sat (fs env st) fun vs s => vs.length = n ∧ Sat (m vs s) Q := by
  unfold eCall; rw [sat_args]; congr 1; funext vs s
  unfold guardN
  by_cases h : vs.length = n
  · rw [if_pos h, eq_iff_iff]; show Sat (noErr (m vs s)) Q ↔ _; rw [sat_noErr]; simp [h]
  · rw [if_neg h, sat_stuck]; simp [h]
theorem sat_callX {n : Nat} {m : List PV → Store → Res PV} {fs : AM} {Q : PV → Store → Prop} : Sat (eCallX n m fs env st) Q = Sat (fs env st) fun vs s => vs.length = n ∧ Sat (m vs s) Q := by
  unfold eCallX; rw [sat_args]; congr 1; funext vs s
  unfold guardN
  by_cases h : vs.length = n
  · rw [if_pos h, eq_iff_iff]; simp [h]
  · rw [if_neg h, sat_stuck]; simp [h]
theorem sat_meth {ty p fo fs} {Q : PV → Store → Prop} : Sat (eMeth ty p fo fs env st) Q = Sat (fo env st) fun v s => ty v s = true ∧ Sat (fs env s) fun vs s => Sat (p v vs s) Q := by
  unfold eMeth; rw [sat_bind]; congr 1; funext v s
  by_cases h : ty v s = true
  · rw [if_pos h, sat_bind]; simp [h]
  · rw [if_neg h, sat_stuck]; simp [h]
theorem sat_one {p : PV → Store → Res PV} {v : PV} {Q : PV → Store → Prop} : Sat (one p [v] st) Q = Sat (p v st) Q := rfl
theorem sat_oNone {Q : Option Int → Store → Prop} : Sat (oNone env st) Q = Q none st := sat_ok
theorem sat_oSome {f : EM} {Q : Option Int → Store → Prop} : Sat (oSome f env st) Q = Sat (f env st) fun v s => match v with
    | .int i => Q (some i) s
    | _ => False := by
  unfold oSome; rw [sat_bind]; congr 1; funext v s
  cases v with
  | int i => exact sat_ok
  | _ => exact sat_stuck
theorem sat_sl {p f l u} {Q : PV → Store → Prop} : Sat (eSl p f l u env st) Q = Sat (f env st) fun v s => Sat (l env s) fun lo s => Sat (u env s) fun hi s => Sat (p v lo hi s) Q := by
  unfold eSl; rw [sat_bind]; simp only [sat_bind]
theorem sat_tup {vs : List PV} {Q : PV → Store → Prop} : Sat (mkTup vs st) Q = (vs.length ≤ sizeLine ∧ Q (.tup vs) st) := by
  unfold mkTup
  by_cases h : vs.length ≤ sizeLine
  · rw [if_pos h, sat_ok]; simp [h]
  · rw [if_neg h, sat_stuck]; simp [h]
theorem sat_lst {vs : List PV} {Q : PV → Store → Prop} : Sat (mkLst vs st) Q = (vs.length ≤ sizeLine ∧ Q (.lst vs) st) := by
  unfold mkLst
  by_cases h : vs.length ≤ sizeLine
  · rw [if_pos h, sat_ok]; simp [h]
  · rw [if_neg h, sat_stuck]; simp [h]
theorem sat_loc {vs : List PV} {Q : PV → Store → Prop} : Sat (mkLoc vs st) Q = (vs.length ≤ sizeLine ∧ Q (.loc st.length) (st ++ [.lst vs])) := by
  unfold mkLoc
  by_cases h : vs.length ≤ sizeLine
  · rw [if_pos h, sat_ok]; simp [h]
  · rw [if_neg h, sat_stuck]; simp [h]
/-! statements -/
theorem ss_nil : SatS (sNil env st) N R = N env st := ss_nx
theorem ss_seq {f g : SM} : SatS (sSeq f g env st) N R = SatS (f env st) (fun e s => SatS (g e s) N R) R := by
  unfold sSeq
  cases f env st with
  | nx e s => rw [ss_nx]
  | rt v s => rw [ss_rt]; exact ss_rt.symm
  | bk e s => rw [ss_bk]; exact ss_bk.symm
  | ct e s => rw [ss_ct]; exact ss_ct.symm
  | err e n f s => rw [ss_err]; exact ss_err.symm
  | stuck => rw [ss_stuck]; exact ss_stuck.symm
theorem ss_of {r : Res α} {k : α → Store → SR} : SatS (sOf r env k) N R = Sat r fun a s => SatS (k a s) N R := by
  cases r with
  | ok a s => rw [sat_ok]; rfl
  | err n f s => rw [sat_err]; exact ss_err
  | stuck => rw [sat_stuck]; exact ss_stuck
theorem ss_set {i : Nat} {f : EM} : SatS (sSet i f env st) N R = Sat (f env st) fun v s => N (env.set i (some v)) s := by unfold sSet; rw [ss_of]; simp only [ss_nx]
theorem ss_expr {f : EM} : SatS (sExpr f env st) N R = Sat (f env st) fun v s => N env s := by unfold sExpr; rw [ss_of]; simp only [ss_nx]
theorem ss_ret {f : EM} : SatS (sRet f env st) N R = Sat (f env st) R := by unfold sRet; rw [ss_of]; simp only [ss_rt]
theorem ss_retN : SatS (sRetN env st) N R = R .non st := ss_rt
theorem ss_if {c : TM} {f g : SM} : SatS (sIf c f g env st) N R = Sat (c env st) fun b s => if b = true then SatS (f env s) N R else SatS (g env s) N R := by
  unfold sIf; rw [ss_of]; congr 1; funext b s; split <;> rfl
theorem ss_tg {tg : Tg} {f : EM} : SatS (sTg tg f env st) N R = Sat (f env st) fun v s => ∃ e, setTg tg v env = some e ∧ N e s := by
  unfold sTg; rw [ss_of]; congr 1; funext v s
  cases setTg tg v env with
  | none => rw [ss_stuck]; simp
  | some e => rw [ss_nx]; simp
theorem ss_par {i j : Nat} {fs : AM} : SatS (sPar i j fs env st) N R = Sat (fs env st) fun vs s => match vs with
    | [v, w] => N ((env.set i (some v)).set j (some w)) s
    | _ => False := by
  unfold sPar; rw [ss_of]; congr 1; funext vs s
  match vs with
  | [] => exact ss_stuck
  | [_] => exact ss_stuck
  | [_, _] => exact ss_nx
  | _ :: _ :: _ :: _ => exact ss_stuck
theorem ss_sub {p fo fi fv} : SatS (sSub p fo fi fv env st) N R = Sat (fv env st) fun v s => Sat (fo env s) fun o s => Sat (fi env s) fun i s => Sat (p o i v s) fun _ s => N env s := by
  unfold sSub; rw [ss_of]; simp only [ss_of, ss_nx]
theorem ss_for {it : IM} {tg : Tg} {body : SM} : SatS (sFor it tg body env st) N R = Sat (it env st) fun p s => SatS (sForL tg body p.ok p.xs env s) N R := by unfold sFor; rw [ss_of]
theorem ss_forL_nil {tg : Tg} {body : SM} {ok : Store → Prop} (h : ok st) : SatS (sForL tg body ok [] env st) N R = N env st := by unfold sForL; rw [if_pos h]; exact ss_nx
theorem ss_forL_cons {tg : Tg} {body : SM} {ok : Store → Prop} {v : PV} {r : List PV} (ho : ok st) (h : ∃ e, setTg tg v env = some e ∧ SatS (body e st) (fun e s => SatS (sForL tg body ok r e s) N R) R) : SatS (sForL tg body ok (v :: r) env st) N R := by
  obtain ⟨e, h1, h2⟩ := h
  unfold sForL
  rw [if_pos ho, h1]
  show SatS (match body e st with
      | .nx e s => sForL tg body ok r e s
      | .ct e s => sForL tg body ok r e s
      | .bk e s => .nx e s
      | .rt v s => .rt v s
      | .err e n fs s => .err e n fs s
      | .stuck => .stuck) N R
  cases q : body e st with
  | nx e' s => rw [q, ss_nx] at h2; exact h2
  | rt v s => rw [q, ss_rt] at h2; exact .rt _ _ rfl h2
  | bk e' s => rw [q, ss_bk] at h2; exact False.elim h2
  | ct e' s => rw [q, ss_ct] at h2; exact False.elim h2
  | err e' n f s => rw [q, ss_err] at h2; exact False.elim h2
  | stuck => rw [q, ss_stuck] at h2; exact False.elim h2
/-- a for by an invariant of the number of items done -/
theorem for_invC {tg : Tg} {body : SM} {ok : Store → Prop} (I : Nat → PEnv → Store → Prop) : ∀ {xs : List PV} {k : Nat} {env : PEnv} {st : Store}, I k env st →
    (∀ i v env st, xs[i]? = some v → I (k + i) env st → ∃ e, setTg tg v env = some e ∧ SatS (body e st) (I (k + i + 1)) R) →
    (∀ env st, I (k + xs.length) env st → N env st) → (∀ i env st, I i env st → ok st) → SatS (sForL tg body ok xs env st) N R
  | [], k, env, st, h0, _, hd, ho => by rw [ss_forL_nil (ho _ _ _ h0)]; exact hd env st (by simpa using h0)
  | v :: r, k, env, st, h0, hs, hd, ho => by
    obtain ⟨e, h1, h2⟩ := hs 0 v env st (by simp) (by simpa using h0)
    refine ss_forL_cons (ho _ _ _ h0) ⟨e, h1, h2.mono (fun e' s' h' => ?_) fun _ _ z => z⟩
    refine for_invC I (k := k + 1) (by simpa using h') (fun i w e s m q => ?_) (fun e s q => hd e s (by simpa [Nat.add_assoc, Nat.add_comm 1] using q)) ho
    have := hs (i + 1) w e s (by simpa using m) (by simpa [Nat.add_assoc, Nat.add_comm 1] using q)
    simpa [Nat.add_assoc, Nat.add_comm 1] using this
theorem for_invN {tg : Tg} {body : SM} {ok : Store → Prop} (I : Nat → PEnv → Store → Prop) {xs : List PV} {k : Nat} {env : PEnv} {st : Store} (h0 : I k env st)
    (hs : ∀ i v env st, xs[i]? = some v → I (k + i) env st → ∃ e, setTg tg v env = some e ∧ SatS (body e st) (I (k + i + 1)) R)
    (hd : ∀ env st, I (k + xs.length) env st → N env st) (ho : ∀ i env st, I i env st → ok st := by intros; exact True.intro) : SatS (sForL tg body ok xs env st) N R := for_invC I h0 hs hd ho
/-- a for whose invariant doesn't tell the items -/
theorem for_inv0 {tg : Tg} {body : SM} {ok : Store → Prop} (I : PEnv → Store → Prop) {xs : List PV} {env : PEnv} {st : Store} (h0 : I env st)
    (hs : ∀ v env st, v ∈ xs → I env st → ∃ e, setTg tg v env = some e ∧ SatS (body e st) I R) (hd : ∀ env st, I env st → N env st) (ho : ∀ env st, I env st → ok st := by intros; exact True.intro) : SatS (sForL tg body ok xs env st) N R :=
  for_invN (fun _ => I) (k := 0) h0 (fun i v e s m q => hs v e s (List.mem_of_getElem? m) q) (fun e s i => hd e s i) (fun _ => ho)
/-! comprehensions -/
theorem sat_comp {loc own it tg test elt} {Q : PV → Store → Prop} : Sat (eCompG loc own it tg test elt env st) Q = Sat (it env st) fun p s => Sat (compL tg test elt p.ok p.xs (wipeP env own) s []) fun ys s => Sat (fin loc ys s) Q := by
  unfold eCompG; rw [sat_bind]; simp only [sat_bind]
/-- a comprehension by an invariant: what is made so far -/
theorem comp_invC {tg : Tg} {test : TM} {elt : EM} {ok : Store → Prop} {Q : List PV → Store → Prop} (I : Nat → List PV → Store → Prop) : ∀ {xs : List PV} {k : Nat} {env : PEnv} {st : Store} {acc : List PV}, I k acc st →
    (∀ i v st acc, xs[i]? = some v → I (k + i) acc st → ∃ e, setTg tg v env = some e ∧ Sat (test e st) fun b s => if b = true then Sat (elt e s) fun y s => acc.length < sizeLine ∧ I (k + i + 1) (acc ++ [y]) s else I (k + i + 1) acc s) →
    (∀ acc st, I (k + xs.length) acc st → Q acc st) → (∀ i acc st, I i acc st → ok st) → Sat (compL tg test elt ok xs env st acc) Q
  | [], k, env, st, acc, h0, _, hd, ho => by
    unfold compL
    rw [if_pos (ho _ _ _ h0)]
    exact ⟨_, _, rfl, hd acc st (by simpa using h0)⟩
  | v :: r, k, env, st, acc, h0, hs, hd, ho => by
    obtain ⟨e, h1, h2⟩ := hs 0 v st acc (by simp) (by simpa using h0)
    unfold compL
    rw [if_pos (ho _ _ _ h0), h1]
    show Sat ((noErr (test e st)).bind _) Q
    rw [sat_bind, sat_noErr]
    have nxt : ∀ acc' s, I (k + 0 + 1) acc' s → Sat (compL tg test elt ok r env s acc') Q := fun acc' s h' => by
      refine comp_invC I (k := k + 1) (by simpa using h') (fun i w s a m q => ?_) (fun a s q => hd a s (by simpa [Nat.add_assoc, Nat.add_comm 1] using q)) ho
      have := hs (i + 1) w s a (by simpa using m) (by simpa [Nat.add_assoc, Nat.add_comm 1] using q)
      simpa [Nat.add_assoc, Nat.add_comm 1] using this
    refine h2.mono fun b s h3 => ?_
    cases b with
    | false => simpa using nxt _ _ (by simpa using h3)
    | true =>
      have h3 : Sat (elt e s) fun y s => acc.length < sizeLine ∧ I (k + 0 + 1) (acc ++ [y]) s := by simpa using h3
      show Sat (if true = true then _ else _) Q
      rw [if_pos rfl, sat_bind, sat_noErr]
      refine h3.mono fun y s2 h4 => ?_
      rw [if_pos h4.1]
      exact nxt _ _ h4.2
theorem comp_inv {tg : Tg} {test : TM} {elt : EM} {ok : Store → Prop} {Q : List PV → Store → Prop} (I : Nat → List PV → Store → Prop) {xs : List PV} {k : Nat} {env : PEnv} {st : Store} {acc : List PV} (h0 : I k acc st)
    (hs : ∀ i v st acc, xs[i]? = some v → I (k + i) acc st → ∃ e, setTg tg v env = some e ∧ Sat (test e st) fun b s => if b = true then Sat (elt e s) fun y s => acc.length < sizeLine ∧ I (k + i + 1) (acc ++ [y]) s else I (k + i + 1) acc s)
    (hd : ∀ acc st, I (k + xs.length) acc st → Q acc st) (ho : ∀ i acc st, I i acc st → ok st := by intros; exact True.intro) : Sat (compL tg test elt ok xs env st acc) Q := comp_invC I h0 hs hd ho
/-- a def -/
theorem sat_body {n : Nat} {f : SM} {args : List PV} {Q : PV → Store → Prop} (h : SatS (f (args.map some ++ List.replicate (n - args.length) none) st) (fun _ s => Q .non s) Q) : Sat (runBody n f args st) Q := by
  unfold runBody
  rcases h with ⟨a, s, e, q⟩ | ⟨a, s, e, q⟩
  · rw [e]; exact ⟨_, _, rfl, q⟩
  · rw [e]; exact ⟨_, _, rfl, q⟩
theorem Sat.elim {r : Res α} (h : Sat r Q) : ∃ a s, r = .ok a s ∧ Q a s := by
  obtain ⟨a, s, e, q⟩ := h
  exact ⟨a, s, e, q⟩
end
end PL
/-! PL, part o: what the operators are worth at given kinds. -/
namespace PL
open PySem PySem.Spec PyProof.Rows L2
theorem nabs {n : Nat} : Int.natAbs (no_index (OfNat.ofNat n)) = n := rfl
section
variable {Q : PV → Store → Prop} {st : Store} {i j : Int} {x y : Str} {a b : Bool} {xs ys : List PV}
theorem eq_if {α : Type} {c : Prop} [Decidable c] {r : Res α} {Q : α → Store → Prop} : Sat (if c then r else .stuck) Q = (c ∧ Sat r Q) := by
  by_cases h : c
  · rw [if_pos h, eq_iff_iff]; simp [h]
  · rw [if_neg h, sat_stuck]; simp [h]
theorem o_addI : Sat (pAdd (.int i) (.int j) st) Q = Q (.int (i + j)) st := sat_of rfl
theorem o_addS : Sat (pAdd (.str x) (.str y) st) Q = (x.length + y.length ≤ sizeLine ∧ Q (.str (x ++ y)) st) := by show Sat (if _ then _ else _) Q = _; rw [eq_if, sat_ok]
theorem o_addT : Sat (pAdd (.tup xs) (.tup ys) st) Q = (xs.length + ys.length ≤ sizeLine ∧ Q (.tup (xs ++ ys)) st) := by show Sat (if _ then _ else _) Q = _; rw [eq_if, sat_ok]
theorem o_addL : Sat (pAdd (.lst xs) (.lst ys) st) Q = (xs.length + ys.length ≤ sizeLine ∧ Q (.lst (xs ++ ys)) st) := by show Sat (if _ then _ else _) Q = _; rw [eq_if, sat_ok]
theorem o_subI : Sat (pSub (.int i) (.int j) st) Q = Q (.int (i - j)) st := sat_of rfl
theorem o_mulI : Sat (pMul (.int i) (.int j) st) Q = (((i.natAbs < 2 ^ 64 ∨ j.natAbs < 2 ^ 64) ∨ i.natAbs.log2 + j.natAbs.log2 < 1000000) ∧ Q (.int (i * j)) st) := by show Sat (if _ then _ else _) Q = _; rw [eq_if, sat_ok]
theorem o_fdivI : Sat (pFdiv (.int i) (.int j) st) Q = ((0 < j ∧ j.natAbs.log2 < 9000) ∧ Q (.int (i / j)) st) := by show Sat (if _ then _ else _) Q = _; rw [eq_if, sat_ok]
theorem o_modI : Sat (pMod (.int i) (.int j) st) Q = (0 < j ∧ Q (.int (i % j)) st) := by show Sat (if _ then _ else _) Q = _; rw [eq_if, sat_ok]
theorem o_powI : Sat (pPow (.int i) (.int j) st) Q = ((0 ≤ j ∧ j ≤ 1000000 ∧ i.natAbs < 2 ^ 64) ∧ Q (.int (i ^ j.toNat)) st) := by show Sat (if _ then _ else _) Q = _; rw [eq_if, sat_ok]
theorem o_negI : Sat (pNeg (.int i) st) Q = Q (.int (-i)) st := sat_of rfl
theorem o_eqI : Sat (pEq (.int i) (.int j) st) Q = Q (.bl (decide (i = j))) st := by
  unfold pEq
  rw [if_pos (by simp [isD, toD, PyData.depth])]
  simp only [toD, PyData.eqv, sat_ok]
  first | rfl | (congr 2; simp [beq_eq_decide])
theorem o_neI : Sat (pNe (.int i) (.int j) st) Q = Q (.bl (!decide (i = j))) st := by
  unfold pNe
  rw [if_pos (by simp [isD, toD, PyData.depth])]
  simp only [toD, PyData.eqv, sat_ok]
  first | rfl | (congr 2; simp [beq_eq_decide])
theorem o_eqS : Sat (pEq (.str x) (.str y) st) Q = Q (.bl (decide (x = y))) st := by
  unfold pEq
  rw [if_pos (by simp [isD, toD, PyData.depth])]
  simp only [toD, PyData.eqv, sat_ok]
  first | rfl | (congr 2; simp [beq_eq_decide])
theorem o_neS : Sat (pNe (.str x) (.str y) st) Q = Q (.bl (!decide (x = y))) st := by
  unfold pNe
  rw [if_pos (by simp [isD, toD, PyData.depth])]
  simp only [toD, PyData.eqv, sat_ok]
  first | rfl | (congr 2; simp [beq_eq_decide])
theorem dlt_int : PySem.W.dataLt (.int i) (.int j) = decide (i < j) := by
  unfold PySem.W.dataLt
  simp only [PySem.W.keyToks]
  rw [PySem.W.lex_one]
  first | rfl | simp [PySem.W.itemLt]
theorem ord_int : OrdOk (.int i) (.int j) := by
  refine ⟨by simp [isD], by simp [isD], by simp [toD, PySem.W.alike], rfl, by simp [toD, PyData.depth]⟩
theorem ord_str : OrdOk (.str x) (.str y) := by
  refine ⟨by simp [isD], by simp [isD], by simp [toD, PySem.W.alike], rfl, by simp [toD, PyData.depth]⟩
theorem o_ltI : Sat (pLt (.int i) (.int j) st) Q = Q (.bl (decide (i < j))) st := by
  unfold pLt; rw [if_pos ord_int]; simp only [toD, dlt_int, sat_ok]
theorem o_gtI : Sat (pGt (.int i) (.int j) st) Q = Q (.bl (decide (j < i))) st := by
  unfold pGt; rw [if_pos ord_int]; simp only [toD, dlt_int, sat_ok]
theorem o_leI : Sat (pLe (.int i) (.int j) st) Q = Q (.bl (!decide (j < i))) st := by
  unfold pLe; rw [if_pos ord_int]; simp only [toD, dlt_int, sat_ok]
theorem o_geI : Sat (pGe (.int i) (.int j) st) Q = Q (.bl (!decide (i < j))) st := by
  unfold pGe; rw [if_pos ord_int]; simp only [toD, dlt_int, sat_ok]
def strLt (x y : Str) : Bool := PySem.W.dataLt (.str x) (.str y)
theorem o_ltS : Sat (pLt (.str x) (.str y) st) Q = Q (.bl (strLt x y)) st := by
  unfold pLt; rw [if_pos ord_str]; simp only [toD, strLt, sat_ok]
theorem o_geS : Sat (pGe (.str x) (.str y) st) Q = Q (.bl (!strLt x y)) st := by
  unfold pGe; rw [if_pos ord_str]; simp only [toD, strLt, sat_ok]
theorem o_inS : Sat (pIn (.str x) (.str y) st) Q = Q (.bl (inStr x y)) st := sat_of rfl
theorem o_notInS : Sat (pNotIn (.str x) (.str y) st) Q = Q (.bl (!inStr x y)) st := sat_of rfl
theorem o_isN : Sat (pIs .non .non st) Q = Q (.bl true) st := sat_of rfl
theorem o_isNotN : Sat (pIsNot .non .non st) Q = Q (.bl false) st := sat_of rfl
theorem o_isT : Sat (pIs (.tup xs) .non st) Q = Q (.bl false) st := sat_of rfl
theorem o_isNotT : Sat (pIsNot (.tup xs) .non st) Q = Q (.bl true) st := sat_of rfl
theorem o_isS : Sat (pIs (.str x) .non st) Q = Q (.bl false) st := sat_of rfl
theorem o_isNotS : Sat (pIsNot (.str x) .non st) Q = Q (.bl true) st := sat_of rfl
theorem o_int : Sat (pInt (.int i) st) Q = Q (.int i) st := sat_of rfl
theorem o_intB : Sat (pInt (.bl a) st) Q = Q (.int (if a then 1 else 0)) st := sat_of rfl
theorem o_abs : Sat (pAbs (.int i) st) Q = Q (.int (if i < 0 then -i else i)) st := sat_of rfl
theorem o_str : Sat (pStr (.int i) st) Q = (i.natAbs.log2 < 1920 ∧ Q (.str (strInt i)) st) := by show Sat (if _ then _ else _) Q = _; rw [eq_if, sat_ok]
theorem o_lenT : Sat (pLen (.tup xs) st) Q = Q (.int xs.length) st := sat_of rfl
theorem o_lenL : Sat (pLen (.lst xs) st) Q = Q (.int xs.length) st := sat_of rfl
theorem o_lenF : Sat (pLen (.frz xs) st) Q = Q (.int xs.length) st := sat_of rfl
theorem o_lenS : Sat (pLen (.str x) st) Q = (x.length ≤ sizeLine ∧ Q (.int x.length) st) := by show Sat (if _ then _ else _) Q = _; rw [eq_if, sat_ok]
/-- what an index gives -/
def ixW (xs : List PV) (i : Int) (Q : PV → Prop) : Prop := match atI xs i with
  | some y => Q y
  | none => False
theorem o_ixT : Sat (pIx (.tup xs) (.int i) st) Q = ixW xs i fun y => Q y st := by
  show Sat (match atI xs i with | some y => .ok y st | none => .stuck) Q = _
  unfold ixW; cases atI xs i with
  | none => exact sat_stuck
  | some y => exact sat_ok
theorem o_ixL : Sat (pIx (.lst xs) (.int i) st) Q = ixW xs i fun y => Q y st := by
  show Sat (match atI xs i with | some y => .ok y st | none => .stuck) Q = _
  unfold ixW; cases atI xs i with
  | none => exact sat_stuck
  | some y => exact sat_ok
theorem o_ixF : Sat (pIx (.frz xs) (.int i) st) Q = ixW xs i fun y => Q y st := by
  show Sat (match atI xs i with | some y => .ok y st | none => .stuck) Q = _
  unfold ixW; cases atI xs i with
  | none => exact sat_stuck
  | some y => exact sat_ok
theorem o_ixP {l : Nat} (h : st[l]? = some (.lst xs)) : Sat (pIx (.loc l) (.int i) st) Q = ixW xs i fun y => Q y st := by
  have e : seqOf st (.loc l) = some (false, xs) := by unfold seqOf; simp only [h]
  show Sat (match seqOf st (.loc l) with | some (_, xs) => (match atI xs i with | some y => .ok y st | none => .stuck) | none => .stuck) Q = _
  rw [e]
  unfold ixW; show Sat (match atI xs i with | some y => .ok y st | none => .stuck) Q = _; cases atI xs i with
  | none => exact sat_stuck
  | some y => exact sat_ok
theorem ixW_of {k : Nat} {y : PV} {P : PV → Prop} (h : xs[k]? = some y) (p : P y) : ixW xs (k : Int) P := by
  have hk : k < xs.length := (List.getElem?_eq_some_iff.mp h).1
  unfold ixW atI ixN
  rw [if_pos (by omega), if_pos (by omega)]
  simp only [Int.toNat_natCast, Option.bind_some, h]
  exact p
theorem ixW_in {i : Int} {P : PV → Prop} (h0 : 0 ≤ i) (h1 : i < xs.length) (p : ∀ y, xs[i.toNat]? = some y → P y) : ixW xs i P := by
  obtain ⟨k, rfl⟩ := Int.eq_ofNat_of_zero_le h0
  have hk : k < xs.length := by omega
  exact ixW_of (List.getElem?_eq_getElem hk) (p _ (by simp [List.getElem?_eq_getElem hk]))
theorem ixW_0 {P : PV → Prop} {v : PV} : ixW (v :: xs) 0 P = P v := by
  have : (0 : Int) < ((v :: xs).length : Int) := by simp only [List.length_cons]; omega
  unfold ixW atI ixN
  rw [if_pos (by omega), if_pos this]
  rfl
theorem ixW_1 {P : PV → Prop} {v w : PV} : ixW (v :: w :: xs) 1 P = P w := by
  have : (1 : Int) < ((v :: w :: xs).length : Int) := by simp; omega
  unfold ixW atI ixN
  rw [if_pos (by omega), if_pos this]
  rfl
theorem ixW_2 {P : PV → Prop} {v w u : PV} : ixW (v :: w :: u :: xs) 2 P = P u := by
  have : (2 : Int) < ((v :: w :: u :: xs).length : Int) := by simp; omega
  unfold ixW atI ixN
  rw [if_pos (by omega), if_pos this]
  rfl
theorem o_set {l : Nat} {v : PV} {Q : Unit → Store → Prop} (h : st[l]? = some (.lst xs)) : Sat (pSet (.loc l) (.int i) v st) Q = match ixN xs.length i with
    | some j => Q () (st.set l (.lst (xs.set j v)))
    | none => False := by
  unfold pSet
  simp only
  rw [h]
  simp only
  cases ixN xs.length i with
  | none => exact sat_stuck
  | some y => exact sat_ok
theorem o_app {l : Nat} {v : PV} (h : st[l]? = some (.lst xs)) : Sat (pAppend (.loc l) [v] st) Q = (xs.length < sizeLine ∧ Q .non (st.set l (.lst (xs ++ [v])))) := by
  unfold pAppend
  simp only
  rw [h]
  simp only
  rw [eq_if, sat_ok]
theorem o_isL {l : Nat} (h : st[l]? = some (.lst xs)) : isListP (.loc l) st = true := by
  unfold isListP; simp only [h]
theorem o_isStr : isStrP (.str x) st = true := rfl
theorem o_lenP {l : Nat} (h : st[l]? = some (.lst xs)) : Sat (pLen (.loc l) st) Q = Q (.int xs.length) st := by
  have e : seqOf st (.loc l) = some (false, xs) := by unfold seqOf; simp only [h]
  unfold pLen
  simp only
  rw [e]; exact sat_ok
theorem o_tupL : Sat (pTuple (.lst xs) st) Q = Q (.tup xs) st := sat_of rfl
theorem o_tupT : Sat (pTuple (.tup xs) st) Q = Q (.tup xs) st := sat_of rfl
theorem o_tupP {l : Nat} (h : st[l]? = some (.lst xs)) : Sat (pTuple (.loc l) st) Q = Q (.tup xs) st := by
  have e : seqOf st (.loc l) = some (false, xs) := by unfold seqOf; simp only [h]
  unfold pTuple
  rw [e]; exact sat_ok
theorem o_listT : Sat (pList (.tup xs) st) Q = Q (.lst xs) st := sat_of rfl
theorem o_listL : Sat (pList (.lst xs) st) Q = Q (.lst xs) st := sat_of rfl
theorem o_listLocT : Sat (pListLoc (.tup xs) st) Q = Q (.loc st.length) (st ++ [.lst xs]) := sat_of rfl
theorem o_gcd : Sat (pGcd [.int i, .int j] st) Q = Q (.int ((Nat.gcd i.natAbs j.natAbs : Nat) : Int)) st := sat_of rfl
theorem o_bits : Sat (pBits (.int i) st) Q = Q (.int (Builtin.Int.intBits i : Nat)) st := sat_of rfl
theorem o_finF : Sat (fin false xs st) Q = Q (.lst xs) st := sat_of rfl
theorem o_finT : Sat (fin true xs st) Q = Q (.loc st.length) (st ++ [.lst xs]) := sat_of rfl
/-! walks -/
variable {Qx : Itms → Store → Prop}
theorem sat_iVal {f : EM} {env : PEnv} : Sat (iVal f env st) Qx = Sat (f env st) fun v s => Sat (pIter v s) Qx := by unfold iVal; rw [sat_bind]
theorem sat_iEnum {f : EM} {env : PEnv} : Sat (iEnumM f env st) Qx = Sat (f env st) fun v s => Sat (pEnum v s) Qx := by unfold iEnumM; rw [sat_bind]
theorem sat_iRange1 {f : EM} {env : PEnv} : Sat (iRange1 f env st) Qx = Sat (f env st) fun v s => Sat (pRange1 [v] s) Qx := by
  unfold iRange1; rw [sat_bind, sat_cons]; simp only [sat_nil]
theorem sat_iRange2 {f g : EM} {env : PEnv} : Sat (iRange2 f g env st) Qx = Sat (f env st) fun v s => Sat (g env s) fun w s => Sat (pRange2 [v, w] s) Qx := by
  unfold iRange2; rw [sat_bind, sat_cons]; simp only [sat_cons, sat_nil]
theorem o_itT : Sat (pIter (.tup xs) st) Qx = Qx ⟨xs, none⟩ st := sat_of rfl
theorem o_itL : Sat (pIter (.lst xs) st) Qx = Qx ⟨xs, none⟩ st := sat_of rfl
theorem o_itF : Sat (pIter (.frz xs) st) Qx = Qx ⟨xs, none⟩ st := sat_of rfl
theorem o_itS : Sat (pIter (.str x) st) Qx = Qx ⟨signs x, none⟩ st := sat_of rfl
theorem o_itP {l : Nat} (h : st[l]? = some (.lst xs)) : Sat (pIter (.loc l) st) Qx = Qx ⟨xs, some (l, .lst xs)⟩ st := by
  unfold pIter
  simp only
  rw [h]
  exact sat_ok
theorem o_enT : Sat (pEnum (.tup xs) st) Qx = Qx ⟨enums xs, none⟩ st := sat_of rfl
theorem o_rng : Sat (pRange1 [.int j] st) Qx = ((-(2 ^ 62) ≤ j ∧ j < 2 ^ 62) ∧ Qx ⟨rngs 0 j.toNat, none⟩ st) := by show Sat (if _ then _ else _) Qx = _; rw [eq_if, sat_ok]
end
end PL
/-! PL, part i: more of exceptions: classes without fields, several clauses; what is never reached; list.index. -/
namespace PL
open PySem PySem.Spec PyProof.Rows L2
/-! ### what is never reached -/
def sStuckM : SM := fun _ _ => .stuck
theorem ms_stuck {X : Cx} {W : WX} {s : Stmt} : MS X W s sStuckM := ⟨fun _ _ _ _ _ _ ⟨_, _, _, _, _, h⟩ => False.elim h⟩
def eStuckM : EM := fun _ _ => .stuck
theorem me_stuck {X : Cx} {W : WX} {e : Expr} : ME X W e eStuckM := ⟨fun _ _ _ _ _ _ ⟨_, _, _, _, _, h⟩ => False.elim h⟩
/-! ### raise of an own class without an __init__ -/
structure X0 (K : PySem.W.Frag) (mg : Str → Option Value) (x : Str) (C : Addr) : Prop where
  gC : mg x = some (.ref C)
  q : PySem.W.excIn K C [.type "ValueError", .type "Exception", .type "BaseException", .type "object"] "ValueError.__new__" = true
  kC : PySem.W.keepIn K (.ref C) = true
  exC : PySem.W.subIn K (.ref C) (.type "BaseException") = some true
  tyC : PySem.W.typeIn K (.ref C) = some (.type "type")
def sRaise0 (x : Str) (fs : AM) : SM := fun env st => sOf (fs env st) env fun vs st1 => if vs.length ≤ sizeLine then .err env x none st1 else .stuck
section
variable {X : Cx} {W : WX} {C : Addr} {x : Str} {e : Expr} {es : List Expr} {fs : AM} {p pos pos2 : Pos}
theorem ms_raise0 (hc : X.calm = true) (tk : Takes X W) (T : X0 X.K X.mg x C) (ha : MA X W (e :: es) fs) (hg : Gl X x := by rfl) (hdb : (x == ("__debug__" : Str)) = false := by decide)
    (he : starEach (e :: es) X.env = (false, eval e X.env) :: starEach es X.env := by rfl) (hpl : (backTo pos (starEach es X.env)).any (·.1) = false := by rfl) :
    MS X W (.Raise (some (.Call (.Name x p) (e :: es) [] pos)) none pos2) (sRaise0 x fs) := by
  refine psI (ps_raise hc tk (pmk_ownA PySem.F.excBase_ValueError T.q T.gC T.kC (raises_own T.exC T.tyC) hg ha (hdb := hdb) (he := he) (hpl := hpl))) ?_
  rintro D σ H ⟨ω, st, env, wd, re, h⟩
  refine ⟨ω, st, env, wd, re, (h.bind (Rel := RL X.K) re).mono ?_⟩
  rintro y H1 ⟨ω1, st1, vs, e1, wd1, r1, h1⟩
  split at h1
  · rename_i hz
    exact ⟨by rw [← r1.length]; exact hz, h1 ω1 H1 σ none (.ref C) (.refl _ _) wd1 (re.mono e1.le) T.gC rfl⟩
  · exact False.elim h1
end
/-! ### try with clauses, each `except x as n` -/
/-- a clause: the class's name, the slot of the name, the suite (a: the error, d: its dict) -/
structure Cl where
  x : Str
  i : Nat
  fs : Nat → Option Nat → SM
def excV (a : Nat) (d : Option Nat) : Option (List (Str × PV)) → PV
  | some fl => .exc a (d.getD 0) (fl.map (·.1)) (fl.map (·.2))
  | none => .con (.ref a)
def hasF : Option (List (Str × PV)) → Nat → Option Nat
  | some _, d => some d
  | none, _ => none
def clRun (c : Cl) (fl : Option (List (Str × PV))) (env : PEnv) (st : Store) : Nat → Nat → SR := fun a d => unsetR c.i (c.fs a (hasF fl d) (env.set c.i (some (excV a (hasF fl d) fl))) st)
noncomputable def clPick (n : Str) (fl : Option (List (Str × PV))) (env : PEnv) (st : Store) : List Cl → SR
  | [] => .stuck
  | c :: r => if n = c.x then anyAd (clRun c fl env st) else clPick n fl env st r
noncomputable def sTryM (cs : List Cl) (fb : SM) : SM := fun env st => match fb env st with
  | .err env' n fl st' => clPick n fl env' st' cs
  | r => r
abbrev DEnd (D : Ends) (i : Nat) : Ends := { nx := fun σ' H' => D.nx (σ'.set i none) H', rt := D.rt, bk := fun σ' H' => D.bk (σ'.set i none) H', ct := fun σ' H' => D.ct (σ'.set i none) H' }
/-- what the clauses wish of an error of the body -/
def wAsM (K : PySem.W.Frag) (Wo : WX) (D : Ends) : List (Value × Nat × (Addr → Value → Option Addr → TS)) → WX
  | [] => Wo
  | (c, i, ts) :: r => fun cls d σ H => ∃ b, PySem.W.exmOne K cls c = some b ∧ (b = true → ∀ a, H a = none → ts a cls d (DEnd D i) (σ.set i (some (.ref a))) H) ∧ (b = false → wAsM K Wo D r cls d σ H)
inductive HdAs (X : Cx) : List ExceptHandler → List (Value × Nat × (Addr → Value → Option Addr → TS)) → Prop
  | nil : HdAs X [] []
  | cons {x n : Str} {c : Value} {i : Nat} {ts : Addr → Value → Option Addr → TS} {b₀ : Stmt} {suite : List Stmt} {np hp : Pos} {hds : List ExceptHandler} {l : List (Value × Nat × (Addr → Value → Option Addr → TS))} (hi : X.N[i]? = some n) (hln : X.env.kindOf n = some .local) (hc : Names X x c)
      (su : ∀ (a : Addr) (oe : Obj) (cls : Value) (d : Option Addr) (pn : List (Addr × Obj)), Zc cls d oe → (∃ vs, oe.data = .fields vs) → PSs (X.suite a ((a, oe) :: pn)) (b₀ :: suite) (ts a cls d)) (r : HdAs X hds l) :
      HdAs X (.ExceptHandler (some (.Name x np)) (some n) (b₀ :: suite) hp :: hds) ((c, i, ts) :: l)
section
variable {X : Cx} {body : List Stmt} {h₀ : ExceptHandler} {hds : List ExceptHandler} {l : List (Value × Nat × (Addr → Value → Option Addr → TS))} {pos : Pos} {tb : WX → TS} {Wo : WX}
theorem ps_try_asM (st : X.stack = X.env :: X.outer) (fr : X.env.frame = some X.env.locals) (nd : X.N.Nodup) (tk : Takes X Wo)
    (bd : ∀ (W : WX) (pn : List (Addr × Obj)) (xe : Value → Shared → Prop), Takes (X.tr pn xe) W → PassesOwn (model X.prog X.w) X.A X.env xe → PSs (X.tr pn xe) body (tb W))
    (cl : HdAs X (h₀ :: hds) l) : PS X (.Try body (h₀ :: hds) [] [] pos) (fun D σ H => tb (wAsM X.K Wo D l) D σ H) := by
  constructor
  intro pins s σ H D I h
  have ok := I.ok
  have fr2 : X.A.frames = some (X.env :: X.outer) := ok.frames.trans (by rw [st])
  refine wpAny_Try_except (wpAny_mono ((bd (wAsM X.K Wo D l) (X.pn ++ pins) (fun e t1 => wpAny (model X.prog X.w) X.A (noteFrame e X.env) (fun _ t2 => wpAny (model X.prog X.w) X.A (setFlight e none) (fun _ t3 => wpAny (model X.prog X.w) X.A (handleBy e X.env (h₀ :: hds)) (SP X pins D) X.xe t3) X.xe t2) X.xe t1) (fun u s' xx => ?_) PassesOwn.looking).run [] s σ H D (I.toTry _) h) (fun f s1 q => ?_) fun _ _ z => z)
  · obtain ⟨a, B, sI, pins', σ1, H1, cls, d, rfl, J0, nb, up, sky, na, os, ag, w⟩ := xx
    have J : Inv X pins σ1 H1 sI := J0.ofTry ok
    have sky1 : Sky B (X.env :: X.outer) a (Zc cls d) X.env.locals s'.heap := by have q := sky; rw [st] at q; exact q
    refine (show wpAny (model X.prog X.w) X.A (noteFrame (.ref a) X.env) _ _ _ from Sky.land Zc.steady fr2 fr sky1 fun h3 fl up3 => ?_)
    have J3 : Inv X pins σ1 H1 { s' with heap := h3 } := J.landed nb fl.1 (up.trans up3) os ag
    obtain ⟨oe, vs, ge, ze, de⟩ := fl.there
    have far : ∀ {h : Heap} {o : Obj} {vs : Array Value}, h.FunFrames B (X.env :: X.outer) → h.get? a = some o → o.data = .fields vs → a ∉ frs (X.env :: X.outer) := by
      intro h o vs ff e dd m
      obtain ⟨_, o2, e2, z⟩ := ff.mem m
      cases e.symm.trans e2
      exact z _ dd
    have na2 := far fl.2.2.1 ge de
    have nL : a ≠ X.env.locals := by
      intro z
      exact na2 (List.mem_filterMap.mpr ⟨X.env, List.mem_cons_self, fr.trans (by rw [z])⟩)
    have nF : a ∉ X.fs := by
      intro m
      obtain ⟨e, me, q⟩ := List.mem_filterMap.mp m
      exact na2 (List.mem_filterMap.mpr ⟨e, .tail _ me, q⟩)
    have S3 := J3.suite ge de na nL nF
    have each : ∀ {hd2 : List ExceptHandler} {l2 : List (Value × Nat × (Addr → Value → Option Addr → TS))}, HdAs X hd2 l2 → wAsM X.K Wo D l2 cls d σ1 H1 → wpAny (model X.prog X.w) X.A (handleBy (.ref a) X.env hd2) (SP X pins D) X.xe { s' with heap := h3 } := by
      intro hd2 l2 k
      induction k with
      | nil =>
        intro w
        refine wpAny_handleBy_nil ?_
        have out : wpAny (model X.prog X.w) X.A (setFlight (.ref a) X.env.frame) (fun _ t4 => wpAny (model X.prog X.w) X.A (throw (.ref a) : Sem Flow) (SP X pins D) X.xe t4) X.xe { s' with heap := h3 } := by
          rw [fr]
          exact HandSPX.setFlight_upZ fl fun h4 q4 up4 => wpAny_throw (tk _ _ ⟨a, B, sI, pins, σ1, H1, cls, d, rfl, J, nb, (up.trans up3).trans up4, .inr (.inr (by rw [st]; exact q4)), na, os, ag, w⟩)
        obtain ⟨_, _, _, oe1, vs1, T, _, _, g1, _, d1, v1, _⟩ := id fl
        unfold PySem.passOn
        refine wpAny_bind (wpAny_field g1 d1 v1 ?_)
        rw [if_neg (show ¬ ((Value.ref T == Value.none) = true) by simp)]
        first | exact wpAny_bind (wpAny_pure (wpAny_bind out)) | exact wpAny_bind out
      | @cons x n c i ts b₀ suite np hp hd3 l3 hi hln hc su r ih =>
        rintro ⟨b, eb, yes, no⟩
        refine wpAny_handleBy_cons (codeAny_handlers_test ?_) (by intro q; cases q)
        have kind : PySem.W.Looks (model X.prog X.w) h3 (typeOf (.ref a)) cls := fun _ _ _ _ k q => wpAny_typeOf_ref (k _ _ ge) (by rw [ze.1]; exact q)
        have look := PySem.W.exm_one (M := model X.prog X.w) (J3.kIn) kind eb
        have named : ∀ {Q : Value → Shared → Prop} {E : Value → Shared → Prop}, Q c { s' with heap := h3 } → wpAny (model X.prog X.w) (X.A.mark (some (.ref a))) (eval (.Name x np) X.env) Q E { s' with heap := h3 } := by
          intro Q E q
          rcases hc with ⟨g, db, hm | ⟨hm, hv, hn⟩⟩
          · exact ld_glob (X := X.suite a ((a, oe) :: (X.pn ++ pins))) S3 g hm q db
          · exact ld_blt (X := X.suite a ((a, oe) :: (X.pn ++ pins))) S3 g hm hv q hn db
        refine named (look.here ?_)
        cases b with
        | false => exact (show wpAny _ X.A (handleBy (.ref a) X.env hd3) _ _ _ from ih (no rfl))
        | true =>
          refine codeAny_handlers_suite_as (HandSPX.lands_againZ fl fun h4 fl4 up4 => ?_)
          have J4 : Inv X pins σ1 H1 { s' with heap := h4 } := J.landed nb fl4.1 ((up.trans up3).trans up4) os ag
          obtain ⟨oe4, vs4, g4, z4, d4⟩ := fl4.there
          refine store_ok (X := X.suite a ((a, oe4) :: (X.pn ++ pins))) (v := .ref a) (J4.suite g4 d4 na nL nF) nd hi (.inl hln) rfl (fun s5 S5 => ?_) (.inr hln)
          refine wpAny_mono ((su a oe4 cls d (X.pn ++ pins) z4 ⟨_, d4⟩).run [] s5 _ H1 _ S5 (yes rfl a na)) (fun f s6 q => ?_) (fun _ _ z => False.elim z)
          have done : ∀ {σ6 : L2.St} {H6 : Hp} {Q : Shared → Prop}, Inv (X.suite a ((a, oe4) :: (X.pn ++ pins))) [] σ6 H6 s6 → (∀ s7, Inv X pins (σ6.set i none) H6 s7 → Q s7) → wpAny (model X.prog X.w) X.A (do bindName X.env n .none; unbindBehindTheSuite X.env n hp) (fun _ s7 => Q s7) X.xe s6 :=
            fun {_ _ _} S6 hq => gone_ok (S6.unsuite ok) nd hi hln hq
          cases f with
          | ret u =>
            obtain ⟨v6, σ6, H6, S6, r6, q6⟩ := q
            exact done S6 fun _ J7 => ⟨_, _, _, J7, r6, q6⟩
          | next => obtain ⟨_, _, S6, q6⟩ := q; exact done S6 fun _ J7 => ⟨_, _, J7, q6⟩
          | brk => obtain ⟨_, _, S6, q6⟩ := q; exact done S6 fun _ J7 => ⟨_, _, J7, q6⟩
          | cont => obtain ⟨_, _, S6, q6⟩ := q; exact done S6 fun _ J7 => ⟨_, _, J7, q6⟩
    exact each cl w
  · cases f with
    | ret u => obtain ⟨v, σ1, H1, J, r, q⟩ := q; exact ⟨v, σ1, H1, J.ofTry ok, r, q⟩
    | next => obtain ⟨σ1, H1, J, q⟩ := q; exact wpAny_execs_nil ⟨σ1, H1, J.ofTry ok, q⟩
    | brk => obtain ⟨σ1, H1, J, q⟩ := q; exact ⟨σ1, H1, J.ofTry ok, q⟩
    | cont => obtain ⟨σ1, H1, J, q⟩ := q; exact ⟨σ1, H1, J.ofTry ok, q⟩
end
/-- the clauses of the text, and what they are worth -/
inductive ClOk (X : Cx) : List ExceptHandler → List (Cl × Addr) → Prop
  | nil : ClOk X [] []
  | cons {x n : Str} {C : Addr} {i : Nat} {fs : Nat → Option Nat → SM} {b₀ : Stmt} {suite : List Stmt} {np hp : Pos} {hds : List ExceptHandler} {l : List (Cl × Addr)} (hi : X.N[i]? = some n) (hln : X.env.kindOf n = some .local) (hc : Names X x (.ref C)) (hm : X.mg x = some (.ref C)) (te : PySem.W.exmOne X.K (.ref C) (.ref C) = some true)
      (sep : ∀ q ∈ l, PySem.W.exmOne X.K (.ref q.2) (.ref C) = some false)
      (su : ∀ (a : Addr) (oe : Obj) (d : Option Addr) (pn : List (Addr × Obj)), Zc (.ref C) d oe → (∃ vs, oe.data = .fields vs) → MB (X.suite a ((a, oe) :: pn)) W0 (b₀ :: suite) (fs a d)) (r : ClOk X hds l) :
      ClOk X (.ExceptHandler (some (.Name x np)) (some n) (b₀ :: suite) hp :: hds) ((⟨x, i, fs⟩, C) :: l)
abbrev tsOf (X : Cx) (q : Cl × Addr) : Value × Nat × (Addr → Value → Option Addr → TS) := (.ref q.2, q.1.i, fun a cls d D σ H => cls = .ref q.2 ∧ tS X W0 (q.1.fs a d) D σ H)
theorem ClOk.hd {X : Cx} {hds : List ExceptHandler} {l : List (Cl × Addr)} (h : ClOk X hds l) : HdAs X hds (l.map (tsOf X)) := by
  induction h with
  | nil => exact .nil
  | cons hi hln hc hm te sep su r ih =>
    refine .cons hi hln hc (fun a oe cls d pn hz hf => ⟨fun pins s σ H D I h => ?_⟩) ih
    obtain ⟨rfl, h⟩ := h
    exact (su a oe d pn hz hf).run pins s σ H D I h
section
variable {X : Cx} {W : WX} {body : List Stmt} {h₀ : ExceptHandler} {hds : List ExceptHandler} {l : List (Cl × Addr)} {pos : Pos} {fb : SM}
/-- one clause that takes the error -/
theorem cl_take {c : Cl} {C : Addr} {ω ω' : Wo} {H H' : Hp} {env : PEnv} {σ : L2.St} {st : Store} {fl : Option (List (Str × PV))} {d : Option Addr} {D : Ends} (x1 : Ext ω H ω' H') (w1 : Wd X.K ω' st H') (r1 : REnv X.K ω' env σ) (xr : XRep X.K ω' H H' fl d)
    (h : AfterS X W ω H (anyAd (clRun c fl env st)) D) : ∀ a : Addr, H' a = none → tS X W0 (c.fs a d) (DEnd D c.i) (σ.set c.i (some (.ref a))) H' := by
  intro a na
  unfold anyAd at h
  split at h
  case isFalse => exact False.elim h
  rename_i all
  have key : ∀ (dd : Nat) (ω2 : Wo), Ext ω H ω2 H' → Wd X.K ω2 st H' → REnv X.K ω2 (env.set c.i (some (excV a (hasF fl dd) fl))) (σ.set c.i (some (.ref a))) → hasF fl dd = d → tS X W0 (c.fs a d) (DEnd D c.i) (σ.set c.i (some (.ref a))) H' := by
    intro dd ω2 x2 w2 r2 ed
    subst ed
    refine ⟨ω2, st, _, w2, r2, ?_⟩
    have h : AfterS X W ω H (clRun c fl env st a dd) D := by rw [all a dd]; exact h
    unfold clRun at h
    cases q : c.fs a (hasF fl dd) (env.set c.i (some (excV a (hasF fl dd) fl))) st with
    | nx e2 s2 => rw [q] at h; exact fun ω3 H3 σ3 x w r => h ω3 H3 (σ3.set c.i none) (x2.trans x) w (r.unset c.i)
    | bk e2 s2 => rw [q] at h; exact fun ω3 H3 σ3 x w r => h ω3 H3 (σ3.set c.i none) (x2.trans x) w (r.unset c.i)
    | ct e2 s2 => rw [q] at h; exact fun ω3 H3 σ3 x w r => h ω3 H3 (σ3.set c.i none) (x2.trans x) w (r.unset c.i)
    | rt v s2 => rw [q] at h; exact fun ω3 H3 y x w r => h ω3 H3 y (x2.trans x) w r
    | err e2 n2 f2 s2 => rw [q] at h; exact False.elim h
    | stuck => rw [q] at h; exact False.elim h
  cases fl with
  | none =>
    have ed : d = none := xr
    subst ed
    exact key 0 ω' x1 w1 (r1.set (.con _) c.i) rfl
  | some f =>
    obtain ⟨p, vs, rfl, n0, ep, nF, nρ, ens, rv⟩ := xr
    have le := Wo.fz_le (o := .xd vs) nF
    exact key p (ω'.fz p (.xd vs)) (Wd.freezeX (K := X.K) x1 n0 ep nF) (w1.freeze ep nF nρ) ((r1.mono le).set (.exc upd_same ens.symm (rv.mono le)) c.i) rfl
theorem cl_pick {n : Str} {cls : Value} {ω ω' : Wo} {H H' : Hp} {env : PEnv} {σ : L2.St} {st : Store} {fl : Option (List (Str × PV))} {d : Option Addr} {D : Ends} {Wo : WX} (x1 : Ext ω H ω' H') (w1 : Wd X.K ω' st H') (r1 : REnv X.K ω' env σ) (xr : XRep X.K ω' H H' fl d) (m1 : X.mg n = some cls) {hds : List ExceptHandler} {l : List (Cl × Addr)} (k : ClOk X hds l) :
    AfterS X W ω H (clPick n fl env st (l.map (·.1))) D → (∃ q ∈ l, cls = .ref q.2) ∧ wAsM X.K Wo D (l.map (tsOf X)) cls d σ H' := by
  induction k with
  | nil => exact False.elim
  | @cons x nn C i fs b₀ suite np hp hds l hi hln hc hm te sep su r ih =>
    intro h
    have h : AfterS X W ω H (if n = x then anyAd (clRun ⟨x, i, fs⟩ fl env st) else clPick n fl env st (l.map (·.1))) D := h
    by_cases en : n = x
    · subst en
      cases hm.symm.trans m1
      rw [if_pos rfl] at h
      exact ⟨⟨_, List.mem_cons_self, rfl⟩, true, te, fun _ a na => ⟨rfl, cl_take (c := ⟨n, i, fs⟩) (C := C) x1 w1 r1 xr h a na⟩, (fun z => nomatch z)⟩
    · rw [if_neg en] at h
      obtain ⟨⟨q, mq, e⟩, w⟩ := ih h
      exact ⟨⟨q, .tail _ mq, e⟩, false, by rw [e]; exact sep q mq, (fun z => nomatch z), fun _ => w⟩
theorem ms_tryM {cs : List Cl} (hs : X.stack = X.env :: X.outer) (hf : X.env.frame = some X.env.locals) (hN : X.N.Nodup) (k : ClOk X (h₀ :: hds) l) (ec : l.map (·.1) = cs)
    (hb : ∀ (W : WX) (pn : List (Addr × Obj)) (xe : Value → Shared → Prop), Takes (X.tr pn xe) W → MB (X.tr pn xe) W body fb) : MS X W (.Try body (h₀ :: hds) [] [] pos) (sTryM cs fb) := by
  subst ec
  refine psI (ps_try_asM (tb := fun W => tS X W fb) (Wo := fun _ _ _ _ => False) hs hf hN takes0 (fun W pn xe tk _ => hb W pn xe tk) k.hd) ?_
  rintro D σ H ⟨ω, st, env, wd, re, h⟩
  refine ⟨ω, st, env, wd, re, ?_⟩
  unfold sTryM at h
  cases q3 : fb env st with
  | err e2 n2 f2 s2 =>
    rw [q3] at h
    intro ω' H' σ' d cls x1 w1 r1 m1 xr
    exact (cl_pick x1 w1 r1 xr m1 k h).2
  | nx e2 s2 => rw [q3] at h; exact h
  | bk e2 s2 => rw [q3] at h; exact h
  | ct e2 s2 => rw [q3] at h; exact h
  | rt v s2 => rw [q3] at h; exact h
  | stuck => rw [q3] at h; exact False.elim h
end
/-- the suites of errors without fields, and with them -/
def clNone (f : Nat → SM) : Nat → Option Nat → SM := fun a d => match d with
  | none => f a
  | some _ => sStuckM
def clSome (f : Nat → Nat → SM) : Nat → Option Nat → SM := fun a d => match d with
  | some d => f a d
  | none => sStuckM
theorem mb_stuck {X : Cx} {W : WX} {s : List Stmt} : MB X W s sStuckM := ⟨fun _ _ _ _ _ _ ⟨_, _, _, _, _, h⟩ => False.elim h⟩
theorem su_none {X : Cx} {C : Addr} {s : List Stmt} {f : Nat → SM} (h : ∀ (a : Addr) (oe : Obj) (pn : List (Addr × Obj)), Zc (.ref C) none oe → (∃ vs, oe.data = .fields vs) → MB (X.suite a ((a, oe) :: pn)) W0 s (f a)) :
    ∀ (a : Addr) (oe : Obj) (d : Option Addr) (pn : List (Addr × Obj)), Zc (.ref C) d oe → (∃ vs, oe.data = .fields vs) → MB (X.suite a ((a, oe) :: pn)) W0 s (clNone f a d)
  | a, oe, none, pn, hz, hf => h a oe pn hz hf
  | _, _, some _, _, _, _ => mb_stuck
theorem su_some {X : Cx} {C : Addr} {s : List Stmt} {f : Nat → Nat → SM} (h : ∀ (a : Addr) (oe : Obj) (d : Addr) (pn : List (Addr × Obj)), Zc (.ref C) (some d) oe → (∃ vs, oe.data = .fields vs) → MB (X.suite a ((a, oe) :: pn)) W0 s (f a d)) :
    ∀ (a : Addr) (oe : Obj) (d : Option Addr) (pn : List (Addr × Obj)), Zc (.ref C) d oe → (∃ vs, oe.data = .fields vs) → MB (X.suite a ((a, oe) :: pn)) W0 s (clSome f a d)
  | a, oe, some d, pn, hz, hf => h a oe d pn hz hf
  | _, _, none, _, _, _ => mb_stuck
/-! ### isinstance of an error without fields -/
def eIsE0 (a : Nat) (b : Bool) (fe : EM) : EM := fun env st => (fe env st).bind fun v st1 => match v with
  | .con (.ref a') => if a' = a then .ok (.bl b) st1 else .stuck
  | _ => .stuck
def rIs0 (K : PySem.W.Frag) (C a : Addr) : List V → Hp → VK → Prop := fun xs H Q => ∃ (c : V) (cv : Value) (b : Bool), xs = [.ref a, c] ∧ (∀ u, RelV c u → u = cv) ∧ PySem.W.kitOne K (.ref C) cv = some b ∧ Q (.bl b) H
section
variable {X : Cx} {W : WX} {a C : Addr} {oe : Obj} {pn : List (Addr × Obj)} {e : Expr} {fe : EM} {y : Str} {p p2 pos : Pos} {b : Bool}
theorem call_is0 (T : IsC X.K C) (hz : Zc (.ref C) none oe) (hf : ∃ vs, oe.data = .fields vs) : CallR (X.suite a ((a, oe) :: pn)) (.builtin "isinstance") (rIs0 X.K C a) := by
  intro pins s σ H xs us Q I r h
  obtain ⟨c, cv, b, rfl, hcv, e, q⟩ := h
  obtain ⟨u1, u2, rfl, r1, r2⟩ := vals2 r
  cases (show u1 = Value.ref a from r1)
  have ec := hcv _ r2
  subst ec
  have J : PySem.W.InstAt s.heap a oe C none := by
    obtain ⟨hget, _⟩ := I.pin (a, oe) (List.mem_append.mpr (.inl List.mem_cons_self))
    obtain ⟨vs, hv⟩ := hf
    exact ⟨hget, hz.1, by unfold PySem.W.notCls; rw [hv] <;> rfl, by rw [hz.2]; trivial⟩
  exact PySem.W.kia_one (PySem.W.kitx_exc T.hcl T.hg T.hk T.hs T.ha T.hn T.ht T.hm) I.kIn J e (fun z => nomatch z) fun tk => ⟨.bl b, H, I.kept (t' := tk) fun _ _ z => z, rfl, q⟩
theorem me_isE0 {u : Value} {v : V} (T : IsC X.K C) (hz : Zc (.ref C) none oe) (hf : ∃ vs, oe.data = .fields vs) (hi : X.mg "isinstance" = none) (hv : bootBuiltins "isinstance" = some (.builtin "isinstance"))
    (hk : PySem.W.kitOne X.K (.ref C) u = some b) (hR : ∀ u', RelV v u' → u' = u) {c : Expr} (hcl : ∀ W, ME (X.suite a ((a, oe) :: pn)) W c (eC (.con v))) (he : ME (X.suite a ((a, oe) :: pn)) W e fe) (hg : Gl (X.suite a ((a, oe) :: pn)) "isinstance" := by rfl)
    (hs1 : starEach (e :: [c]) X.env = (false, eval e X.env) :: starEach [c] X.env := by rfl) (hs2 : starEach (c :: []) X.env = (false, eval c X.env) :: starEach [] X.env := by rfl) (hpl : (backTo pos (starEach [c] X.env)).any (·.1) = false := by rfl) :
    ME (X.suite a ((a, oe) :: pn)) W (.Call (.Name "isinstance" p) [e, c] [] pos) (eIsE0 a b fe) := by
  refine peI (pe_callB (call_is0 T hz hf) hg hi hv (pa_cons he (pa_cons (hcl W) pa_nil hs2) hs1) (by decide) (by decide) hs1 hpl) ?_
  rintro σ H Q ⟨ω, st, env, wd, re, h⟩
  refine ⟨ω, st, env, wd, re, (After.bind (Rel := RV X.K) h).mono ?_⟩
  rintro x H1 ⟨ω1, st1, pv, e1, wd1, r1, h1⟩
  split at h1
  · rename_i a'
    split at h1
    · rename_i hh
      subst hh
      cases r1
      refine ⟨ω1, st1, env, wd1, re.mono e1.le, ?_⟩
      intro ω2 H2 z e2 wd2 r2
      cases r2
      exact ⟨v, u, b, rfl, hR, hk, After.shift h1 e2 ω2 H2 (.bl b) (.refl _ _) wd2 (.bl b)⟩
    · exact False.elim h1
  · exact False.elim h1
end
/-! ### xs.index(x), where it stands in xs -/
def ixOf (v : PV) : List PV → Option Nat
  | [] => none
  | y :: r => if PyData.eqv (toD y) (toD v) = true then some 0 else (ixOf v r).map (· + 1)
theorem ixOf_some {v : PV} : ∀ {xs : List PV} {j : Nat}, ixOf v xs = some j → ∃ y, xs[j]? = some y ∧ PyData.eqv (toD y) (toD v) = true ∧ ∀ (m : Nat) (z : PV), m < j → xs[m]? = some z → PyData.eqv (toD z) (toD v) = false
  | [], _, h => by cases h
  | y :: r, j, h => by
    unfold ixOf at h
    by_cases e : PyData.eqv (toD y) (toD v) = true
    · rw [if_pos e] at h; cases h
      exact ⟨y, rfl, e, fun m z hm => absurd hm (Nat.not_lt_zero _)⟩
    · rw [if_neg e] at h
      obtain ⟨k, hk, rfl⟩ := Option.map_eq_some_iff.mp h
      obtain ⟨w, h1, h2, h3⟩ := ixOf_some hk
      refine ⟨w, h1, h2, fun m z hm hz => ?_⟩
      cases m with
      | zero => cases hz; simpa using e
      | succ m => exact h3 m z (by omega) (by simpa using hz)
def isSeqL (v : PV) (st : Store) : Bool := match seqOf st v with
  | some (false, _) => true
  | _ => false
def pIndex (v : PV) (vs : List PV) (st : Store) : Res PV := match vs with
  | [y] => match seqOf st v with
    | some (false, xs) => if isDs xs = true ∧ isD y = true ∧ xs.length ≤ 1000000 ∧ min (PyData.depthAll (toDs xs)) (toD y).depth ≤ 60 then match ixOf y xs with
      | some j => .ok (.int (j : Nat)) st
      | none => .stuck
      else .stuck
    | _ => .stuck
  | _ => .stuck
def rIx (K : PySem.W.Frag) : V → List V → Hp → VK → Prop := fun x xs H Q => ∃ (y : V) (d z : PyData) (ds : List PyData) (j : Nat), xs = [y] ∧ Dp K H x (.list ds) ∧ Dp K H y d ∧ PyData.plainAll ds = true ∧ d.plain = true ∧ min (PyData.depthAll ds) d.depth ≤ 60 ∧ ds.length ≤ 1000000 ∧
  ds[j]? = some z ∧ PyData.eqv z d = true ∧ (∀ (m : Nat) (z' : PyData), m < j → ds[m]? = some z' → PyData.eqv z' d = false) ∧ Q (.int (j : Nat)) H
theorem reads_len {h : Heap} : ∀ {ds : List PyData} {vs : List Value} {as : List Addr}, ReadsAll h vs ds as → vs.length = ds.length
  | [], _, _, .nil => rfl
  | _ :: _, _, _, .cons _ t => by rw [List.length_cons, List.length_cons, reads_len t]
section
variable {X : Cx}
theorem mt_ix (hu : X.A.units + 64 < cLine) : MtR X "list.index" (rIx X.K) := by
  rintro pins s σ H x xs v us Q I rx rxs ⟨y, d, z, ds, j, rfl, hl, hy, p1, p2, dep, len, hz, hit, no, q⟩
  obtain ⟨uy, rfl, ry⟩ : ∃ u, us = [u] ∧ RelV y u := by
    cases rxs with
    | cons r t => cases t; exact ⟨_, rfl, r⟩
  obtain ⟨bs, e1⟩ := Dp.reads I d y uy hy ry
  obtain ⟨as, e2⟩ := Dp.reads I (.list ds) x v hl rx
  cases e2 with
  | @list a o vs n _ as2 g1 g2 g3 g4 =>
    obtain ⟨oc, dd, data, sl⟩ := o
    simp only at g2 g3
    subst g2 g3
    have el := reads_len g4
    obtain ⟨jl, _⟩ := List.getElem?_eq_some_iff.mp hz
    have es : vs.size = ds.length := by rw [← el, Array.length_toList]
    have val : ∀ (m : Nat) (hm : m < vs.size) (w : PyData), ds[m]? = some w → SeqAt.readOf s.heap vs[m] = w := by
      intro m hm w hw
      rw [← SeqAt.readsAll_map_plain ds _ _ p1 g4, List.getElem?_map, List.getElem?_eq_getElem (by simpa using hm)] at hw
      simpa using Option.some.inj hw
    have hj : j < vs.size := by omega
    refine call_meets PySem.F.slot_list_index ⟨_, g1, rfl⟩ PySem.F.entry_list_index (PySem.F.args_list_index_2 _ _) (SeqAt.list_indexAt a vs n dd sl uy (fun u => PyData.eqv (SeqAt.readOf s.heap u) d) j hj (by omega) ?_ fun m hm hmj => ?_)
      ⟨g1, SeqAt.items_plain g4 e1 p1 p2 (by omega), ⟨.int (j : Nat), H, I.tok _, ⟨_, rfl⟩, q⟩⟩
    · show PyData.eqv (SeqAt.readOf s.heap vs[j]) d = true
      rw [val j hj z hz]; exact hit
    · show PyData.eqv (SeqAt.readOf s.heap vs[m]) d = false
      have := List.getElem?_eq_getElem (show m < ds.length by omega)
      rw [val m hm _ this]; exact no m _ hmj this
theorem mts_index (hu : X.A.units + 64 < cLine) : MtS X "list" "list.index" isSeqL pIndex := by
  refine ⟨_, mt_ix hu, fun ω st H v x wd r h => ?_, fun E ω st H v x vs xs Q wd rv rs h => ?_⟩
  · unfold isSeqL at h
    split at h
    · rename_i q
      obtain ⟨a, ws, rfl, _, hq⟩ := seqOf_rep wd r q
      rcases hq with ⟨z, _⟩ | ⟨_, hq⟩
      · cases z
      · exact .inl ⟨rfl, _, hq⟩
    · cases h
  · unfold pIndex at h
    split at h
    · split at h
      · rename_i ys q
        split at h
        · rename_i c
          obtain ⟨c1, c2, c3, c4⟩ := c
          split at h
          · rename_i j hj
            obtain ⟨w, k1, k2, k3⟩ := ixOf_some hj
            obtain ⟨a, ws, rfl, rw', hq⟩ := seqOf_rep wd rv q
            have hq : SqL X.K H a ws := by
              rcases hq with ⟨z, _⟩ | ⟨_, hq⟩
              · cases z
              · exact hq
            cases rs with
            | cons ry t =>
              cases t
              refine ⟨_, toD _, toD w, toDs ys, j, rfl, Dp.lst hq (rw'.dp wd.sub c1), ry.dp wd.sub c2, plain_toDs _, plain_toD _, c4, by rw [toDs_map, List.length_map]; exact c3, ?_, k2, fun m z' hm hz' => ?_, h.ok_here wd (.int _)⟩
              · rw [toDs_map, List.getElem?_map, k1]; rfl
              · rw [toDs_map, List.getElem?_map] at hz'
                cases e : ys[m]? with
                | none => rw [e] at hz'; cases hz'
                | some y => rw [e] at hz'; cases hz'; exact k3 m y hm e
          · exact False.elim h
        · exact False.elim h
      · exact False.elim h
    · exact False.elim h
end
end PL
/-! PL, part j: sorted of a tuple. -/
namespace PLT
open PySem PySem.Calls PyProof.Rows PySem.W
section
variable {prog : Program} {w : World} {A : Around} {E : Value → Shared → Prop} {s : Shared} {β : Type} {vs : List Value} {bs : List β} {enc : β → PyData} {R : Value → β → Prop} {κ : PyProof.Rows.KeyKind}
theorem collect_tup {l : Addr} {o : Obj} {n : Nat} {Q : List Value → Shared → Prop} (g : s.heap.get? l = some o) (c : o.cls = .type "tuple") (d : o.data = .seq vs.toArray n) (z : vs.length ≤ sizeLine)
    (h : Q vs { s with heap := (s.heap.push (seqObj "list" #[] 0)).update s.heap.objs.size (Obj.mapSeq (· ++ vs.toArray)) }) : wpAny (model prog w) A (collect (.ref l)) Q E s := by
  unfold collect
  refine wpAny_bind (wpAny_runValue (codeAny_builtin entry_proto_collect' ?_))
  refine (show wpAny _ _ (do again (.builtin "list.__iadd__" ⟨[← newList [], .ref l], []⟩)) _ _ s from wpAny_bind (wpAny_newList (wpAny_pure ⟨Code.quiet_builtin _ (by decide +kernel), codeAny_builtin entry_list_iadd' ?_⟩)))
  refine (show wpAny _ _ (Builtin.List.listExtendWith (.ref s.heap.objs.size) (.ref l) (.ref s.heap.objs.size)) _ _ { s with heap := s.heap.push (seqObj "list" #[] 0) } from ?_)
  have g2 : (s.heap.push (seqObj "list" #[] 0)).get? l = some o := Heap.get?_push_of_some _ g
  unfold Builtin.List.listExtendWith
  refine wpAny_bind (wpAny_typeOf (T := "tuple") ⟨o, g2, c⟩ ?_)
  rw [if_pos (by rw [show (Value.type "tuple" == Value.type "tuple") = true by rfl]; simp)]
  refine wpAny_bind (listItems_at g2 d (wpAny_bind (listItems_at (xs := #[]) (n := 0) (Heap.get?_push_size _ rfl) rfl ?_)))
  rw [if_neg (by simp)]
  refine wpAny_bind (listUpdate_at (xs := #[]) (n := 0) (Heap.get?_push_size _ rfl) rfl ?_ (Nat.zero_le _) (by show (#[] ++ vs.toArray).size ≤ sizeLine + 1; simp only [Array.size_append, List.size_toArray, List.length_nil]; omega))
  refine wpAny_pure (wpAny_bind (wpAny_load (get?_update_seq (Heap.get?_push_size _ rfl) _) ?_))
  have e : ((#[] : Array Value) ++ vs.toArray).toList = vs := by simp
  exact (show wpAny _ _ (pure ((#[] : Array Value) ++ vs.toArray).toList) Q E _ from by rw [e]; exact wpAny_pure h)
theorem sorted_tupV {l : Addr} {o : Obj} {n : Nat} {Q : Value → Shared → Prop} (g : s.heap.get? l = some o) (c : o.cls = .type "tuple") (d : o.data = .seq vs.toArray n) (z : vs.length ≤ sizeLine)
    (S : SortsAt prog w A.in1.in1 { s with heap := sortingHeap (copyHeap s.heap vs) (s.heap.objs.size + 1) vs } κ vs)
    (h : Q (.ref (s.heap.objs.size + 1)) { s with heap := sortedAll s.heap vs (sortVals κ false vs vs).toArray }) : wpAny (model prog w) A (call (.builtin "sorted") [.ref l]) Q E s := by
  refine call_function_entry_kw kind_sorted plain_sorted entry_sorted (args_sorted1 _) ?_
  unfold Builtin.«sorted»
  have sz : ((s.heap.push (seqObj "list" #[] 0)).update s.heap.objs.size (Obj.mapSeq (· ++ vs.toArray))).objs.size = s.heap.objs.size + 1 := (Heap.size_update _ _ _).trans (size_push' _ _)
  refine wpAny_bind (m := checkCount "sorted" 1 1 _) (wpAny_pure (wpAny_bind (collect_tup g c d z (wpAny_bind (wpAny_newList ?_ z)))))
  refine (show wpAny _ _ _ _ _ { s with heap := copyHeap s.heap vs } from ?_)
  rw [sz]
  refine wpAny_bind (wpAny_holding (wpAny_call_entry_kw slot_list_sort ⟨_, copyHeap_at s.heap vs, rfl⟩ entry_list_sort ?body (args_list_sort _)))
  case body =>
    refine (show wpAny (model prog w) A.in1.in1 (Builtin.«list.sort» ⟨[.ref (s.heap.objs.size + 1)], []⟩) _ _ _ from wpAny_mono (list_sort_vals (s := { s with heap := copyHeap s.heap vs }) (P := fun f s' => f = .done (.ret .none) ∧ Q (.ref (s.heap.objs.size + 1)) s') (copyHeap_at s.heap vs) S z ⟨rfl, h⟩) (fun f s' hf => ?_) fun _ _ e => e)
    rcases hf with ⟨rfl, q⟩
    exact ⟨_, rfl, wpAny_pure ⟨_, rfl, q⟩⟩
theorem sorted_tupD {l : Addr} {o : Obj} {n : Nat} {Q : Value → Shared → Prop} (g : s.heap.get? l = some o) (c : o.cls = .type "tuple") (d : o.data = .seq vs.toArray n) (e : EachIs R vs bs) (er : EachIs (fun v b => ∃ as, Reads s.heap v (enc b) as) vs bs) (al : AllAlike (bs.map enc)) (so : Sortable (bs.map enc)) (z : bs.length ≤ sizeLine)
    (hu : ∀ b, b ∈ bs → A.units + 2 + (enc b).depth < cLine) (h : ∀ out, out.length = bs.length → EachIs R out (bs.mergeSort (dataLe false enc)) → Q (.ref (s.heap.objs.size + 1)) { s with heap := sortedAll s.heap vs (List.toArray out) }) :
    wpAny (model prog w) A (call (.builtin "sorted") [.ref l]) Q E s := by
  have er2 : EachIs (fun v b => ∃ as, Reads (sortingHeap (copyHeap s.heap vs) (s.heap.objs.size + 1) vs) v (enc b) as) vs bs := er.mono fun _ _ x => x.elim fun as r => ⟨as, PyProof.Rows.Reads.keeps (fun _ _ => sorting_copy_old) r⟩
  have S := SortsAt.data (prog := prog) (w := w) (A := A.in1.in1) (s := { s with heap := sortingHeap (copyHeap s.heap vs) (s.heap.objs.size + 1) vs }) (each_map (R := fun v d => ∃ as, Reads (sortingHeap (copyHeap s.heap vs) (s.heap.objs.size + 1) vs) v d as) enc er2) al so (bound_map hu)
  exact sorted_tupV g c d (by rw [e.length]; exact z) S (h _ (by rw [sortVals_length false rfl]; exact e.length) (sortVals_data false e er2 al))
end
end PLT
namespace PL
open PySem PySem.Spec PyProof.Rows L2
open Classical in
/-- sorted of any list or tuple -/
noncomputable def pSortedA (v : PV) (st : Store) : Res PV := match seqOf st v with
  | some (_, xs) => if SortOk xs ∧ xs.length ≤ 1000000 then .ok (.lst (xs.mergeSort (PySem.W.dataLe false toD))) st else .stuck
  | _ => .stuck
section
variable {X : Cx}
theorem cs_sortedA (hu : X.A.units + 64 < cLine) : CallS X (.builtin "sorted") (one pSortedA) := .one fun pins s σ H x u Q E ω st a I rx wd ra h => by
  unfold pSortedA at h
  split at h
  · rename_i t xs q
    split at h
    · rename_i hz
      obtain ⟨⟨h1, h2, h3, h4⟩, hlen⟩ := hz
      obtain ⟨p, ws, e, rs, ht⟩ := seqOf_rep wd ra q
      subst e
      cases rx
      rw [toDs_map] at h2 h3 h4
      rcases ht with ⟨_, hq⟩ | ⟨_, hq⟩
      · obtain ⟨bs, r2⟩ := Dp.reads I _ _ _ (Dp.tup hq (rs.dp wd.sub h1)) (show RelV (.ref p) (.ref p) from rfl)
        obtain ⟨its, rv, ⟨o, ho, hc, n, hdt⟩, hlen2⟩ := I.tuple hq
        have ei := each_of rv rs
        refine PLT.sorted_tupD (R := Stands X.K ω) (enc := toD) ho hc hdt ei (each_reads I wd ei h1) h2 h3 (by rw [sizeLine_eq]; omega) (fun b hb => ?_) fun out ho hr => ?_
        · have := h4 _ (List.mem_map.mpr ⟨b, hb, rfl⟩)
          omega
        · obtain ⟨os, v1, v2⟩ := each_back hr
          obtain ⟨ep, he'⟩ := PyProof.Rows.sortedAll_at s.heap its out.toArray
          refine ⟨.ref _, upd H (s.heap.objs.size + 1) (.lst os), I.laid (t' := s.toks) (fun _ _ => PyProof.Rows.sortedAll_old) (Nat.le_succ _) ⟨?_, out, ep, v1, he'⟩, rfl, new_lst wd v2 h _ (I.hok.fresh (Nat.le_succ _))⟩
          rw [v1.length, ho, sizeLine_eq]
          omega
      · obtain ⟨its, rv, hl, hz⟩ := I.list hq
        have ei := each_of rv rs
        refine PySem.W.sorted_data (R := Stands X.K ω) (enc := toD) hl.isList ei (each_reads I wd ei h1) h2 h3 (by rw [rs.length]; exact hz) (fun b hb => ?_) fun out ho hr => ?_
        · have := h4 _ (List.mem_map.mpr ⟨b, hb, rfl⟩)
          omega
        · obtain ⟨os, v1, v2⟩ := each_back hr
          obtain ⟨ep, he'⟩ := PyProof.Rows.sortedAll_at s.heap its out.toArray
          refine ⟨.ref _, upd H (s.heap.objs.size + 1) (.lst os), I.laid (t' := s.toks) (fun _ _ => PyProof.Rows.sortedAll_old) (Nat.le_succ _) ⟨?_, out, ep, v1, he'⟩, rfl, new_lst wd v2 h _ (I.hok.fresh (Nat.le_succ _))⟩
          rw [v1.length, ho, rs.length]
          exact hz
    · exact False.elim h
  · exact False.elim h
end
end PL
/-! PL, part k: dicts, texts cut at a sign. -/
namespace PL
open PySem PySem.Spec PyProof.Rows L2
/-! ### dicts whose keys are ints and texts -/
def keyPV : Key → PV
  | .inl i => .int i
  | .inr x => .str x
def keyOf : PV → Option Key
  | .int i => some (.inl i)
  | .str x => some (.inr x)
  | _ => none
def dget : List (Key × PV) → Key → Option PV
  | [], _ => none
  | (j, x) :: r, k => if j = k then some x else dget r k
def dput : List (Key × PV) → Key → PV → List (Key × PV)
  | [], k, x => [(k, x)]
  | (j, y) :: r, k, x => if j = k then (j, x) :: r.map (fun p => if p.1 = k then (p.1, x) else p) else (j, y) :: dput r k x
section
variable {K : PySem.W.Frag} {ω : Wo} {H : Hp} {st : Store}
theorem RepD.length {xs : List (Key × PV)} {vs : List (Key × V)} (r : RepD K ω xs vs) : xs.length = vs.length := by
  induction r with
  | nil => rfl
  | cons _ _ ih => simp [ih]
theorem RepD.keys {xs : List (Key × PV)} {vs : List (Key × V)} (r : RepD K ω xs vs) : xs.map (·.1) = vs.map (·.1) := by
  induction r with
  | nil => rfl
  | cons _ _ ih => simp [ih]
theorem RepD.get {xs : List (Key × PV)} {vs : List (Key × V)} (r : RepD K ω xs vs) {k : Key} {x : PV} (h : dget xs k = some x) : ∃ v, valV vs k = some v ∧ Rep K ω x v := by
  induction r with
  | nil => cases h
  | @cons j y v xs vs r0 _ ih =>
    unfold dget at h
    by_cases e : j = k
    · rw [if_pos e] at h
      cases h
      exact ⟨v, valV_pos (p := (j, v)) e, r0⟩
    · rw [if_neg e] at h
      obtain ⟨w, e1, r1⟩ := ih h
      exact ⟨w, by rw [valV_neg (p := (j, v)) e]; exact e1, r1⟩
theorem RepD.putAll {xs : List (Key × PV)} {vs : List (Key × V)} (r : RepD K ω xs vs) {k : Key} {x : PV} {v : V} (rv : Rep K ω x v) :
    RepD K ω (xs.map fun p => if p.1 = k then (p.1, x) else p) (vs.map fun kv => if kv.1 = k then (kv.1, v) else kv) := by
  induction r with
  | nil => exact .nil
  | @cons j y w xs vs r0 _ ih =>
    rw [List.map_cons, List.map_cons]
    by_cases e : j = k
    · rw [if_pos e, if_pos e]; exact .cons rv ih
    · rw [if_neg e, if_neg e]; exact .cons r0 ih
theorem RepD.put {xs : List (Key × PV)} {vs : List (Key × V)} (r : RepD K ω xs vs) {k : Key} {x : PV} {v : V} (rv : Rep K ω x v) : RepD K ω (dput xs k x) (putK vs k v) := by
  induction r with
  | nil => unfold dput putK; simp; exact .cons rv .nil
  | @cons j y w xs vs r0 r1 ih =>
    unfold dput
    by_cases e : j = k
    · rw [if_pos e]
      have : putK ((j, w) :: vs) k v = (j, v) :: vs.map (fun kv => if kv.1 = k then (kv.1, v) else kv) := by
        unfold putK
        rw [if_pos (by simp [e]), List.map_cons, if_pos e]
      rw [this]
      exact .cons rv (r1.putAll rv)
    · rw [if_neg e]
      have : putK ((j, w) :: vs) k v = (j, w) :: putK vs k v := by
        unfold putK
        by_cases a : (vs.any fun kv => decide (kv.1 = k)) = true
        · rw [if_pos a, if_pos (by rw [List.any_cons, a, Bool.or_true]), List.map_cons, if_neg e]
        · rw [if_neg a, if_neg (by rw [List.any_cons, decide_eq_false e, Bool.false_or]; exact a), List.cons_append]
      rw [this]
      exact .cons r0 ih
theorem key_rep {w : PV} {k : Key} {y : V} (h : keyOf w = some k) (r : Rep K ω w y) : y = kV k := by
  cases w with
  | int i => cases h; cases r; rfl
  | str z => cases h; cases r; rfl
  | _ => cases h
theorem keyPV_rep (k : Key) : Rep K ω (keyPV k) (kV k) := by
  cases k with
  | inl i => exact .int i
  | inr z => exact .str z
def dicOf (st : Store) : PV → Option (List (Key × PV))
  | .loc l => match st[l]? with
    | some (.dic kvs) => some kvs
    | some (.fdic kvs) => some kvs
    | _ => none
  | _ => none
theorem dicOf_rep (wd : Wd K ω st H) {v : PV} {x : V} (r : Rep K ω v x) {kvs : List (Key × PV)} (e : dicOf st v = some kvs) : ∃ a vs, x = .ref a ∧ Rd H a (.dK vs) ∧ RepD K ω kvs vs := by
  unfold dicOf at e
  split at e
  · split at e
    · rename_i q
      cases e
      cases r with
      | loc ea =>
        obtain ⟨vs, h, rd⟩ := wd.obj _ _ _ ea q
        exact ⟨_, vs, rfl, .inl h, rd⟩
    · rename_i q
      cases e
      cases r with
      | loc ea =>
        obtain ⟨vs, od, _, h, rd⟩ := wd.obj _ _ _ ea q
        exact ⟨_, vs, rfl, .inr ⟨od, h⟩, rd⟩
    · cases e
  · cases e
end
/-- {} -/
def eDict0 : EM := fun _ st => .ok (.loc st.length) (st ++ [.dic []])
/-- a[i] of a dict, or of a list, tuple, text -/
def pIxD (v w : PV) (st : Store) : Res PV := match dicOf st v with
  | some kvs => match keyOf w with
    | some k => match dget kvs k with
      | some x => .ok x st
      | none => .stuck
    | none => .stuck
  | none => pIx v w st
def pSetD (o i v : PV) (st : Store) : Res Unit := match o with
  | .loc l => match st[l]? with
    | some (.dic kvs) => match keyOf i with
      | some k => if kvs.length < sizeLine then .ok () (st.set l (.dic (dput kvs k v))) else .stuck
      | none => .stuck
    | _ => pSet o i v st
  | _ => pSet o i v st
section
variable {X : Cx} {W : WX} {pos : Pos}
theorem me_dict0 : ME X W (.Dict [] [] pos) eDict0 := by
  refine peI pe_dnewK ?_
  rintro σ H Q ⟨ω, st, env, wd, re, h⟩ p hp
  have h : After (gd X) (wx W σ) ω H (.ok (.loc st.length) (st ++ [.dic []])) (RV X.K) Q := h
  obtain ⟨w, x⟩ := wd.nwO hp (.dic []) (.dK []) fun _ _ => ⟨[], upd_same, .nil⟩
  refine h _ _ _ x w (.loc ?_)
  show (ω.ρ ++ [p])[st.length]? = some p
  rw [← wd.len]
  simp
theorem ix_dict (hu : X.A.units + 1 < cLine) : IxR X (fun x y H Q => ∃ a v, x = .ref a ∧ DGet H a y (some v) ∧ Q v H) := by
  intro value slice pins s σ H x y v u Q I rx ry h hs
  obtain ⟨a, v', rfl, g, q⟩ := h
  cases rx
  exact tail_any (dict_typeIs I g) PySem.F.slot_dict_getitem.lookup (d_getItem hu I g ry fun w' s3 I3 rw' => ⟨v', H, I3, rw', q⟩) hs
theorem is_ixD (hu : X.A.units + 64 < cLine) : IxS X pIxD := by
  obtain ⟨r, hr, hi⟩ := is_ix (X := X)
  refine ⟨_, (ix_dict (X := X) (by omega)).or hr, fun E ω st H v w x y Q wd rv rw' h => ?_⟩
  unfold pIxD at h
  split at h
  · rename_i kvs hd
    split at h
    · rename_i k hk
      split at h
      · rename_i z hz
        obtain ⟨a, vs, rfl, rd, rp⟩ := dicOf_rep wd rv hd
        obtain ⟨u, e, ru⟩ := rp.get hz
        refine .inl ⟨a, u, rfl, .inl ⟨vs, k, rd, key_rep hk rw', e.symm⟩, h.ok_here wd ru⟩
      · exact False.elim h
    · exact False.elim h
  · exact .inr (hi E ω st H v w x y Q wd rv rw' h)
theorem pset_or {t t' : TSet} (h : PSet X t) (h' : PSet X t') : PSet X (fun o i v H Q => t o i v H Q ∨ t' o i v H Q) := by
  intro pins s σ H o i v ov iv u Q I r1 r2 r3 q
  rcases q with q | q
  · exact h pins s σ H o i v ov iv u Q I r1 r2 r3 q
  · exact h' pins s σ H o i v ov iv u Q I r1 r2 r3 q
theorem sts_setD (hu : X.A.units + 64 < cLine) : StS X pSetD := by
  obtain ⟨r, hr, hi⟩ := sts_set (X := X)
  refine ⟨_, pset_or (set_dict (X := X) (by omega)) hr, fun E ω st H o i v xo xi x Q wd ro ri rv h => ?_⟩
  unfold pSetD at h
  split at h
  · split at h
    · rename_i kvs q
      split at h
      · rename_i k hk
        split at h
        · rename_i hz
          cases ro with
          | loc ea =>
            obtain ⟨vs, e, rd⟩ := wd.obj _ _ _ ea q
            obtain ⟨w, ex⟩ := wd.wrO ea e (fun _ _ z => nomatch z) (.dic (dput kvs k v)) (.dK (putK vs k x)) ⟨_, upd_same, rd.put rv⟩
            exact .inl ⟨_, _, rfl, .inl ⟨vs, k, e, key_rep hk ri, by rw [← rd.length]; exact hz, rfl⟩, h _ _ () ex w trivial⟩
        · exact False.elim h
      · exact False.elim h
    · exact .inr (hi E ω st H _ i v xo xi x Q wd ro ri rv h)
  · exact .inr (hi E ω st H _ i v xo xi x Q wd ro ri rv h)
end
/-! ### x.split(sep) -/
def pSplit (v : PV) (vs : List PV) (st : Store) : Res PV := match v, vs with
  | .str a, [.str b] => if (b.length == 0) = false ∧ a.length + 2 ≤ sizeLine then .ok (.lst ((Txt.split a b).map .str)) st else .stuck
  | _, _ => .stuck
theorem reps_of_strs {K : PySem.W.Frag} {ω : Wo} : ∀ ys : List Str, Reps K ω (ys.map PV.str) (ys.map V.str)
  | [] => .nil
  | y :: ys => .cons (.str y) (reps_of_strs ys)
section
variable {X : Cx}
theorem mts_split : MtS X "str" "str.split" isStrP pSplit := by
  refine ⟨_, mt_split, fun ω st H v x wd r h => ?_, fun E ω st H v x vs xs Q wd rv rs h => ?_⟩
  · unfold isStrP at h
    split at h
    · cases r
      rfl
    · cases h
  · unfold pSplit at h
    split at h
    · split at h
      · rename_i hz
        cases rv
        cases rs with
        | cons ry tl =>
          cases tl
          cases ry
          exact ⟨_, _, rfl, rfl, hz.1, hz.2, new_lst wd (reps_of_strs _) h⟩
      · exact False.elim h
    · exact False.elim h
end
/-! ### sorted of a dict of texts -/
def keyStrs : List (Key × PV) → Option (List Str)
  | [] => some []
  | (.inr z, _) :: r => (keyStrs r).map (z :: ·)
  | _ :: _ => none
theorem keyStrs_map : ∀ {kvs : List (Key × PV)} {ks : List Str}, keyStrs kvs = some ks → kvs.map (·.1) = ks.map Sum.inr
  | [], ks, e => by cases e; rfl
  | (.inr z, x) :: r, ks, e => by
    unfold keyStrs at e
    rw [Option.map_eq_some_iff] at e
    obtain ⟨ms, e1, rfl⟩ := e
    rw [List.map_cons, List.map_cons, keyStrs_map e1]
  | (.inl _, _) :: _, _, e => by cases e
/-- texts in order -/
def leS (a b : Str) : Bool := !decide (b.cps.toList < a.cps.toList)
theorem leS_iff {a b : Str} : leS a b = true ↔ a.cps.toList ≤ b.cps.toList := by
  unfold leS
  rw [Bool.not_eq_true', decide_eq_false_iff_not]
  exact List.not_lt
theorem str_ext' {x y : Str} (h : x.cps.toList = y.cps.toList) : x = y := by
  cases x; cases y
  congr 1
  exact Array.toList_inj.mp h
theorem leS_trans (a b c : Str) (h : leS a b = true) (h' : leS b c = true) : leS a c = true := leS_iff.mpr (List.le_trans (leS_iff.mp h) (leS_iff.mp h'))
theorem leS_total (a b : Str) : (leS a b || leS b a) = true := by
  rcases List.le_total a.cps.toList b.cps.toList with h | h
  · rw [leS_iff.mpr h]; rfl
  · rw [leS_iff.mpr h, Bool.or_true]
theorem leS_anti {a b : Str} (h : leS a b = true) (h' : leS b a = true) : a = b := str_ext' (List.le_antisymm (leS_iff.mp h) (leS_iff.mp h'))
theorem rising_le : ∀ {ys : List Str} {p : Str}, risingS p ys = true → (p :: ys).Pairwise fun a b => leS a b = true
  | [], p, _ => List.pairwise_singleton _ _
  | x :: r, p, h => by
    unfold risingS at h
    rw [Bool.and_eq_true] at h
    have ih := rising_le h.2
    have h1 : leS p x = true := by
      unfold leS
      rw [← PyProof.Rows.ltCps_eq]
      exact h.1
    refine List.pairwise_cons.mpr ⟨fun y m => ?_, ih⟩
    rcases List.mem_cons.mp m with rfl | m
    · exact h1
    · exact leS_trans _ _ _ h1 ((List.pairwise_cons.mp ih).1 y m)
theorem sortedS_le : ∀ {ys : List Str}, sortedS ys = true → ys.Pairwise fun a b => leS a b = true
  | [], _ => .nil
  | _ :: _, h => rising_le h
theorem sortedS_eq {ks ys : List Str} (p : ys.Perm ks) (h : sortedS ys = true) : ys = ks.mergeSort leS :=
  List.Perm.eq_of_pairwise (le := fun a b => leS a b = true) (fun a b _ _ h1 h2 => leS_anti h1 h2) (sortedS_le h) (List.pairwise_mergeSort (fun a b c h h' => leS_trans a b c h h') (fun a b => leS_total a b) ks) (p.trans (List.mergeSort_perm ..).symm)
/-- sorted of a list, a tuple, a dict of fewer than 64 texts -/
noncomputable def pSortedD (v : PV) (st : Store) : Res PV := match dicOf st v with
  | some kvs => match keyStrs kvs with
    | some ks => if ks.length < 64 then .ok (.lst ((ks.mergeSort leS).map .str)) st else .stuck
    | none => .stuck
  | none => pSortedA v st
theorem CallR.or' {X : Cx} {f : Value} {r r' : List V → Hp → VK → Prop} (h : CallR X f r) (h' : CallR X f r') : CallR X f (fun xs H Q => r xs H Q ∨ r' xs H Q) := by
  intro pins s σ H xs us Q I rx q
  rcases q with q | q
  · exact h pins s σ H xs us Q I rx q
  · exact h' pins s σ H xs us Q I rx q
theorem cs_sortedD {X : Cx} (hc : X.calm = true) (hu : X.A.units + 64 < cLine) : CallS X (.builtin "sorted") (one pSortedD) := by
  obtain ⟨r, hr, hi⟩ := cs_sortedA (X := X) hu
  refine ⟨_, CallR.or' (call_sortedD hc) hr, fun E ω st H vs xs Q wd rs h => ?_⟩
  unfold one at h
  split at h
  · rename_i v
    unfold pSortedD at h
    split at h
    · rename_i kvs hd
      split at h
      · rename_i ks hk
        split at h
        · rename_i hz
          cases rs with
          | cons r1 t =>
            cases t
            obtain ⟨a, ws, rfl, rd, rp⟩ := dicOf_rep wd r1 hd
            refine .inl ⟨a, ws, ks, rfl, rd, by rw [← rp.keys]; exact keyStrs_map hk, hz, fun ys p hp hs hn => ?_⟩
            rw [sortedS_eq hp hs]
            exact new_lst wd (reps_of_strs _) h p hn
        · exact False.elim h
      · exact False.elim h
    · exact .inr (hi E ω st H [v] xs Q wd rs h)
  · exact False.elim h
/-! ### a walk over a dict that is locked meanwhile -/
def pIterD (v : PV) (st : Store) : Res Itms := match v with
  | .loc l => match st[l]? with
    | some (.fdic kvs) => .ok ⟨kvs.map fun p => keyPV p.1, some (l, .fdic kvs)⟩ st
    | _ => .stuck
  | _ => .stuck
def iDict (f : EM) : IM := fun env st => (f env st).bind pIterD
section
variable {X : Cx} {W : WX} {tg e : Expr} {f : EM}
theorem itr_dict {K : PySem.W.Frag} {ω : Wo} {a : Addr} {l : Nat} {o : Obj} {kvs : List (Key × PV)} {vs : List (Key × V)} (e : ω.F a = some (.frz o (.dK vs))) (rp : RepD K ω kvs vs) :
    ItR K ω ⟨kvs.map fun p => keyPV p.1, some (l, .fdic kvs)⟩ (Itk a o vs) where
  goes := fun i ω1 st H hi le wd ok => ⟨wd.sub _ _ (le.fz _ _ e), by rw [← rp.length]; simpa using hi⟩
  stops := fun ω1 st H le wd ok => ⟨wd.sub _ _ (le.fz _ _ e), by rw [← rp.length]; simp⟩
  yields := fun i ω1 st H x H' hi le wd ok y => by
    obtain ⟨rfl, k, v, hk, rfl⟩ := y
    have hk' : (kvs.map (·.1))[i]? = some k := by rw [rp.keys, List.getElem?_map, hk]; rfl
    refine ⟨ω1, keyPV k, .refl _ _, wd, ?_, keyPV_rep k⟩
    show (kvs.map fun p => keyPV p.1)[i]? = some (keyPV k)
    rw [List.getElem?_map] at hk' ⊢
    cases q : kvs[i]? with
    | none => rw [q] at hk'; cases hk'
    | some p => rw [q] at hk'; cases hk'; rfl
theorem mi_dict (he : ME X W e f) : MI X W tg e (iDict f) := by
  refine piI (pi_keys he) ?_
  rintro σ H R ⟨ω, st, env, wd, re, h⟩
  refine ⟨ω, st, env, wd, re, (After.bind (Rel := RV X.K) h).mono ?_⟩
  rintro x H1 ⟨ω1, st1, v, e1, wd1, r1, h1⟩
  unfold pIterD at h1
  split at h1
  · split at h1
    · rename_i kvs q
      cases r1 with
      | loc ea =>
        obtain ⟨vs, od, hF, hH, rp⟩ := wd1.obj _ _ _ ea q
        exact ⟨_, od, rfl, .inl ⟨vs, hH, h1.ok_here wd1 (itr_dict hF rp)⟩⟩
    · exact False.elim h1
  · exact False.elim h1
/-- the dict at the variable in slot i is locked while f runs -/
def eLock (i : Nat) (f : EM) : EM := fun env st => match env[i]? with
  | some (some (.loc l)) => match st[l]? with
    | some (.dic kvs) => match f env (st.set l (.fdic kvs)) with
      | .ok v st' => .ok v (st'.set l (.dic kvs))
      | _ => .stuck
    | _ => .stuck
  | _ => .stuck
/-- what is frozen but for the thing at d -/
def Wo.cutF (ω : Wo) (d : Addr) : Wo := ⟨fun b => if b = d then none else ω.F b, ω.ρ⟩
section
variable {K : PySem.W.Frag} {ω : Wo} {d : Addr} {od : Obj} {vs : List (Key × V)}
theorem cutF_eq {b : Addr} {u : HO} (hd : ω.F d = some (.frz od (.dK vs))) (h : ω.F b = some u) (n : u ≠ .frz od (.dK vs)) : (ω.cutF d).F b = some u := by
  have : b ≠ d := fun z => by subst z; rw [hd] at h; cases h; exact n rfl
  show (if b = d then none else ω.F b) = _
  rw [if_neg this, h]
mutual
theorem Rep.cutF (hd : ω.F d = some (.frz od (.dK vs))) : ∀ {x : PV} {v : V}, Rep K ω x v → Rep K (ω.cutF d) x v
  | _, _, .non => .non
  | _, _, .bl b => .bl b
  | _, _, .int i => .int i
  | _, _, .str x => .str x
  | _, _, .tup e r => .tup (cutF_eq hd e (fun z => nomatch z)) (Reps.cutF hd r)
  | _, _, .lst e r => .lst (cutF_eq hd e (fun z => nomatch z)) (Reps.cutF hd r)
  | _, _, .frz e r => by
    refine .frz ?_ (Reps.cutF hd r)
    rcases e with (e | ⟨o, e⟩) | e
    · exact .inl (.inl (cutF_eq hd e (fun z => nomatch z)))
    · exact .inl (.inr ⟨o, cutF_eq hd e (fun z => nomatch z)⟩)
    · exact .inr e
  | _, _, .loc e => .loc e
  | _, _, .con v => .con v
  | _, _, .exc e n r => .exc (cutF_eq hd e (fun z => nomatch z)) n (Reps.cutF hd r)
theorem Reps.cutF (hd : ω.F d = some (.frz od (.dK vs))) : ∀ {xs : List PV} {vs' : List V}, Reps K ω xs vs' → Reps K (ω.cutF d) xs vs'
  | _, _, .nil => .nil
  | _, _, .cons r t => .cons (Rep.cutF hd r) (Reps.cutF hd t)
end
theorem RepD.cutF (hd : ω.F d = some (.frz od (.dK vs))) {xs : List (Key × PV)} {ws : List (Key × V)} (r : RepD K ω xs ws) : RepD K (ω.cutF d) xs ws := by
  induction r with
  | nil => exact .nil
  | cons r _ ih => exact .cons (r.cutF hd) ih
theorem RepF.cutF (hd : ω.F d = some (.frz od (.dK vs))) {xs : List (Str × PV)} {ws : List (Str × V)} (r : RepF K ω xs ws) : RepF K (ω.cutF d) xs ws := by
  induction r with
  | nil => exact .nil
  | cons r _ ih => exact .cons (r.cutF hd) ih
theorem ObjR.cutF (hd : ω.F d = Option.some (HO.frz od (HO.dK vs))) {H : Hp} {a : Addr} (n : a ≠ d) : ∀ {o : PO}, ObjR K ω H a o → ObjR K (ω.cutF d) H a o
  | .lst _, ⟨ws, h, r⟩ => ⟨ws, h, r.cutF hd⟩
  | .dic _, ⟨ws, h, r⟩ => ⟨ws, h, r.cutF hd⟩
  | .ins _ _, ⟨dx, ws, h, r⟩ => ⟨dx, ws, h, r.cutF hd⟩
  | .fdic _, ⟨ws, o, hF, h, r⟩ => ⟨ws, o, by show (if a = d then none else ω.F a) = _; rw [if_neg n]; exact hF, h, r.cutF hd⟩
end
theorem me_lock {i : Nat} (h : ME X W e f) : ME X W e (eLock i f) := by
  refine peI (pe_lock h) ?_
  rintro σ H Q ⟨ω, st, env, wd, re, hq⟩
  unfold eLock at hq
  split at hq
  · rename_i l he
    split at hq
    · rename_i kvs hs
      obtain ⟨x, hx, rx⟩ := re.at' _ _ he
      cases rx with
      | loc ea =>
        rename_i d
        obtain ⟨vs, hd, rp⟩ := wd.obj _ _ _ ea hs
        have md := List.mem_of_getElem? ea
        have hl := wd.lt ea
        have nF : ω.F d = none := by
          rcases wd.sep d md with n | ⟨o, u, n⟩
          · exact n
          · have := wd.sub _ _ n
            rw [hd] at this; cases this
        refine ⟨d, .dK vs, hd, trivial, fun od => ?_⟩
        let ω1 : Wo := ⟨upd ω.F d (.frz od (.dK vs)), ω.ρ⟩
        have le1 : ω.Le ω1 := Wo.fz_le nF
        have hF1 : ω1.F d = some (.frz od (.dK vs)) := upd_same
        have nd : ∀ {l' : Nat} {a : Addr}, ω.ρ[l']? = some a → l' ≠ l → a ≠ d := fun {l' a} e1 hne z => by
          subst z
          exact hne ((List.getElem?_inj (by rw [wd.len]; exact wd.lt e1) wd.nd).mp (e1.trans ea.symm))
        have wd1 : Wd X.K ω1 (st.set l (.fdic kvs)) (upd H d (.frz od (.dK vs))) := by
          refine ⟨fun b u q => ?_, by rw [List.length_set]; exact wd.len, wd.nd, fun a m => ?_, fun l' a o e1 e2 => ?_⟩
          · have q : upd ω.F d (.frz od (.dK vs)) b = some u := q
            by_cases hb : b = d
            · subst hb; rw [upd_same] at q ⊢; exact q
            · rw [upd_ne hb] at q ⊢; exact wd.sub b u q
          · show upd ω.F d (.frz od (.dK vs)) a = none ∨ ∃ od' u, upd ω.F d (.frz od (.dK vs)) a = some (.frz od' u)
            by_cases ha : a = d
            · subst ha; rw [upd_same]; exact .inr ⟨_, _, rfl⟩
            · rw [upd_ne ha]; exact wd.sep a m
          · by_cases hll : l' = l
            · subst hll
              rw [ea] at e1; cases e1
              rw [List.getElem?_set_self hl] at e2; cases e2
              exact ⟨vs, od, hF1, upd_same, rp.mono le1⟩
            · rw [List.getElem?_set_ne (Ne.symm hll)] at e2
              exact (wd.obj l' a o e1 e2).tr le1 (upd_ne (nd e1 hll))
        refine ⟨ω1, st.set l (.fdic kvs), env, wd1, re.mono le1, ?_⟩
        cases hr : f env (st.set l (.fdic kvs)) with
        | ok v st' =>
          rw [hr] at hq
          have hq : ∀ ω' H' x, Ext ω H ω' H' → Wd X.K ω' (st'.set l (.dic kvs)) H' → Rep X.K ω' v x → Q x H' := hq
          intro ω' H' y ex wd' ry
          have hF' : ω'.F d = some (.frz od (.dK vs)) := ex.le.fz _ _ hF1
          have hH' : H' d = some (.frz od (.dK vs)) := wd'.sub _ _ hF'
          have eρ : ω'.ρ[l]? = some d := ex.le.at ea
          have leC : ω.Le (ω'.cutF d) := by
            refine ⟨fun b u q => ?_, ex.le.pre⟩
            have hb : b ≠ d := fun z => by subst z; rw [nF] at q; cases q
            show (if b = d then none else ω'.F b) = _
            rw [if_neg hb]
            exact ex.le.fz _ _ (by show upd ω.F d (.frz od (.dK vs)) b = some u; rw [upd_ne hb]; exact q)
          have hl' : l < st'.length := wd'.lt eρ
          have nd' : ∀ {l' : Nat} {a : Addr}, ω'.ρ[l']? = some a → l' ≠ l → a ≠ d := fun {l' a} e1 hne z => by
            subst z
            exact hne ((List.getElem?_inj (by rw [wd'.len]; exact wd'.lt e1) wd'.nd).mp (e1.trans eρ.symm))
          refine ⟨hH', hq (ω'.cutF d) _ y ⟨leC, fun b o q n => ?_, fun b q => ?_, fun b q => ?_, fun b m => ?_, fun b o u q => ?_⟩ ⟨fun b u q => ?_, by rw [List.length_set]; exact wd'.len, wd'.nd, fun a m => ?_, fun l' a o e1 e2 => ?_⟩ (ry.cutF hF')⟩
          · have hb : b ≠ d := fun z => n (z ▸ md)
            rw [upd_ne hb]
            exact ex.oth b o (by rw [upd_ne hb]; exact q) n
          · by_cases hb : b = d
            · subst hb; rw [upd_same]; simp
            · rw [upd_ne hb]; exact ex.live b (by rw [upd_ne hb]; exact q)
          · have q : (if b = d then none else ω'.F b) ≠ none := q
            by_cases hb : b = d
            · rw [if_pos hb] at q; exact absurd rfl q
            · rw [if_neg hb] at q
              rcases ex.nF b q with z | z
              · have z : upd ω.F d (.frz od (.dK vs)) b ≠ none := z
                rw [upd_ne hb] at z; exact .inl z
              · rw [upd_ne hb] at z; exact .inr z
          · rcases ex.nρ b m with z | z
            · exact .inl z
            · by_cases hb : b = d
              · exact .inl (hb ▸ md)
              · rw [upd_ne hb] at z; exact .inr z
          · have hb : b ≠ d := fun z => by subst z; rw [hd] at q; cases q
            rw [upd_ne hb]
            exact ex.fr b o u (by rw [upd_ne hb]; exact q)
          · have q : (if b = d then none else ω'.F b) = some u := q
            by_cases hb : b = d
            · rw [if_pos hb] at q; cases q
            · rw [if_neg hb] at q
              rw [upd_ne hb]; exact wd'.sub b u q
          · show (if a = d then none else ω'.F a) = none ∨ ∃ o u, (if a = d then none else ω'.F a) = some (.frz o u)
            by_cases ha : a = d
            · rw [if_pos ha]; exact .inl rfl
            · rw [if_neg ha]; exact wd'.sep a m
          · by_cases hll : l' = l
            · subst hll
              have e1 : ω'.ρ[l']? = some a := e1
              rw [eρ] at e1; cases e1
              rw [List.getElem?_set_self hl'] at e2; cases e2
              exact ⟨vs, upd_same, rp.mono leC⟩
            · rw [List.getElem?_set_ne (Ne.symm hll)] at e2
              have na := nd' e1 hll
              exact ((wd'.obj l' a o e1 e2).cutF hF' na).tr (.refl _) (upd_ne na)
        | err n fs st' => rw [hr] at hq; exact False.elim hq
        | stuck => rw [hr] at hq; exact False.elim hq
    · exact False.elim hq
  · exact False.elim hq
end
/-! ### a text, several times -/
def repS (a : Str) (n : Nat) : Str := ⟨(List.replicate n a.cps).foldl (· ++ ·) #[]⟩
theorem fold_size (a : Array Nat) : ∀ (n : Nat) (z : Array Nat), ((List.replicate n a).foldl (· ++ ·) z).size = z.size + n * a.size
  | 0, z => by simp
  | n + 1, z => by
    rw [List.replicate_succ, List.foldl_cons, fold_size a n, Array.size_append, Nat.add_mul, Nat.one_mul]
    omega
theorem repS_len (a : Str) (n : Nat) : (repS a n).length = n * a.length := by
  unfold repS Str.length
  rw [fold_size]
  simp
def pMulS (v w : PV) (st : Store) : Res PV := match v, w with
  | .str a, .int k => if 2 ≤ k ∧ k ≤ 1000 ∧ 1 ≤ a.length ∧ a.length ≤ 1000 then .ok (.str (repS a k.toNat)) st else .stuck
  | v, w => pMul v w st
section
variable {X : Cx}
theorem op_mulStr : OpR X (binaryOp .Mult) (fun x y H Q => ∃ (a : Str) (k : Int), x = .str a ∧ y = .int k ∧ 2 ≤ k ∧ k ≤ 1000 ∧ 1 ≤ a.length ∧ a.length ≤ 1000 ∧ Q (.str (repS a k.toNat)) H) := by
  intro pins s σ H x y v u Q I rx ry h
  obtain ⟨a, k, rfl, rfl, h1, h2, h3, h4, q⟩ := h
  obtain ⟨t, rfl⟩ := rx
  obtain ⟨t', rfl⟩ := ry
  have hz : a.length * k.toNat ≤ 1000000 := by
    have : k.toNat ≤ 1000 := by omega
    exact Nat.le_trans (Nat.mul_le_mul h4 this) (by decide)
  refine P.mul_str (by rw [decide_eq_false (by omega), decide_eq_false (by omega)]; rfl) (fun _ _ => ?_) (fun _ _ => ?_) ?_
  · have : (1000 : Int) ≤ (2 ^ 63 - 1) / k := by
      rw [Int.le_ediv_iff_mul_le (by omega)]; omega
    omega
  · have e : ¬ (a.length * k.toNat > sizeLine) := by rw [sizeLine_eq]; omega
    exact decide_eq_false e
  · rw [if_neg (by omega), if_neg (by simp; omega)]
    refine ⟨?_, ⟨.str (repS a k.toNat), H, I.tok _, ⟨_, rfl⟩, q⟩⟩
    have e := repS_len a k.toNat
    unfold repS at e
    rw [e, Nat.mul_comm, sizeLine_eq]
    omega
theorem os_mulS : OpS X (binaryOp .Mult) pMulS := by
  obtain ⟨r, hr, hi⟩ := os_mul (X := X)
  refine ⟨fun x y H Q => (∃ (a : Str) (k : Int), x = .str a ∧ y = .int k ∧ 2 ≤ k ∧ k ≤ 1000 ∧ 1 ≤ a.length ∧ a.length ≤ 1000 ∧ Q (.str (repS a k.toNat)) H) ∨ r x y H Q, fun pins s σ H x y v u Q I rx ry h => ?_, fun E ω st H v w x y Q wd rv rw' h => ?_⟩
  · rcases h with h | h
    · exact op_mulStr pins s σ H x y v u Q I rx ry h
    · exact hr pins s σ H x y v u Q I rx ry h
  · unfold pMulS at h
    split at h
    · split at h
      · rename_i hz
        cases rv; cases rw'
        exact .inl ⟨_, _, rfl, rfl, hz.1, hz.2.1, hz.2.2.1, hz.2.2.2, h.ok_here wd (.str _)⟩
      · exact False.elim h
    · exact .inr (hi E ω st H _ _ x y Q wd rv rw' h)
end
/-! ### a def that is given as an argument -/
/-- the defs that a slot may hold, by their addresses -/
abbrev FTab := Addr → Option (List PV → Store → Res PV)
noncomputable def eCallA (n : Nat) (T : FTab) (i : Nat) (fs : AM) : EM := fun env st => match env[i]? with
  | some (some (.con (.ref f))) => match T f with
    | some m => (fs env st).bind (guardN n (nE m))
    | none => .stuck
  | _ => .stuck
/-- each def of the table stands at its address -/
def TabOk (P : Program) (w : World) (K : PySem.W.Frag) (mg : Str → Option Value) (base : Heap) (n k : Nat) (T : FTab) : Prop :=
  ∀ f m, T f = some m → ∃ x ps, Has P w K mg base x ps k m ∧ ps.length = n ∧ mg x = some (.ref f)
section
variable {X : Cx} {W : WX} {x : Str} {p pos : Pos} {e : Expr} {es : List Expr} {fs : AM} {k n i : Nat} {T : FTab}
theorem me_callA (h : TabOk X.prog X.w X.K X.mg X.base n k T) (hr : Room k X.A) (hN : X.N[i]? = some x) (hv : Vis X.env.scope x) (ha : MA X W (e :: es) fs) (hdb : (x == ("__debug__" : Str)) = false := by decide) (hcd : (x == ("__classdict__" : Str)) = false := by decide)
    (he : starEach (e :: es) X.env = (false, eval e X.env) :: starEach es X.env := by rfl) (hpl : (backTo pos (starEach es X.env)).any (·.1) = false := by rfl) :
    ME X W (.Call (.Name x p) (e :: es) [] pos) (eCallA n T i fs) := by
  refine peI (pe_callA (i := i) (S := fun f => (T f).map fun m => spP (gd X) n (nE m)) (fun f sp hf => ?_) hr hN hv ha hdb hcd he hpl) ?_
  · rw [Option.map_eq_some_iff] at hf
    obtain ⟨m, hm, rfl⟩ := hf
    obtain ⟨y, ps, hh, hn, hy⟩ := h f m hm
    obtain ⟨f', fd, F, hm', hk, hb, _⟩ := hh.ex
    rw [hy] at hm'
    cases hm'
    rw [hn] at F
    exact ⟨fd, ps, F, hk, hb⟩
  · rintro σ H Q ⟨ω, st, env, wd, re, h1⟩
    unfold eCallA at h1
    split at h1
    · rename_i f hf
      split at h1
      · rename_i m hm
        obtain ⟨y, hy, ry⟩ := re.at' _ _ hf
        cases ry
        refine ⟨f, spP (gd X) n (nE m), hy, by simp only [hm, Option.map_some], ω, st, env, wd, re, (After.bind (Rel := RL X.K) h1).mono ?_⟩
        rintro xs H1 ⟨ω1, st1, vs, e1, wd1, r1, h2⟩
        exact ⟨ω1, st1, vs, wd1, r1, guard_noErr h2⟩
      · exact False.elim h1
    · exact False.elim h1
end
end PL
/-! PL, part l: a call, that does not raise, of a def that may. -/
namespace PL
open PySem PySem.Spec PyProof.Rows L2
theorem takes0 {X : Cx} : Takes X W0 := fun u s' ⟨a, B, sI, pins, σ, H, cls, d, e, I, nb, up, sky, na, os, ag, w⟩ => w.elim
section
variable {X : Cx} {W : WX} {x : Str} {p pos : Pos} {e : Expr} {es : List Expr} {fs : AM} {ps : List Str} {k : Nat} {m : List PV → Store → Res PV}
theorem me_callX0 {n : Nat} (h : HasX X.prog X.w X.K X.mg X.base x ps k m) (hr : Room k X.A) (ha : MA X W (e :: es) fs) (hn : ps.length = n := by rfl) (hg : Gl X x := by rfl) (hdb : (x == ("__debug__" : Str)) = false := by decide)
    (he : starEach (e :: es) X.env = (false, eval e X.env) :: starEach es X.env := by rfl) (hpl : (backTo pos (starEach es X.env)).any (·.1) = false := by rfl) :
    ME X W (.Call (.Name x p) (e :: es) [] pos) (eCall n m fs) := by
  subst hn
  obtain ⟨f, fd, F, hm, hk, hb, _⟩ := h.ex
  refine peI (pe_callS F hr hg hm hk hb (fun σ => passAt takes0 σ) ha hdb he hpl) ?_
  rintro σ H Q ⟨ω, st, env, wd, re, h⟩
  refine ⟨ω, st, env, wd, re, (After.bind (Rel := RL X.K) h).mono ?_⟩
  rintro xs H1 ⟨ω1, st1, vs, e1, wd1, r1, h1⟩
  refine ⟨ω1, st1, vs, wd1, r1, ?_⟩
  unfold guardN at h1 ⊢
  split
  · rename_i q
    rw [if_pos q] at h1
    exact After.noErr h1
  · rename_i q
    rw [if_neg q] at h1
    exact False.elim h1
end
theorem Has.mono {P : Program} {w : World} {K : PySem.W.Frag} {mg : Str → Option Value} {base : Heap} {x : Str} {ps : List Str} {k k' : Nat} {m : List PV → Store → Res PV} (h : Has P w K mg base x ps k m) (hk : k ≤ k') : Has P w K mg base x ps k' m := by
  obtain ⟨f, fd, F, r⟩ := h.ex
  exact ⟨f, fd, F.mono hk, r⟩
end PL
/-! PL, part ob: instances of own classes. -/
namespace PL
open PySem PySem.Spec PyProof.Rows L2
/-! ### fields -/
def putFP (f : Str) (v : PV) : List (Str × PV) → List (Str × PV)
  | [] => [(f, v)]
  | (g, x) :: r => if g = f then (g, v) :: r else (g, x) :: putFP f v r
section
variable {K : PySem.W.Frag} {ω : Wo} {H : Hp} {st : Store}
theorem RepF.length {xs : List (Str × PV)} {vs : List (Str × V)} (r : RepF K ω xs vs) : xs.length = vs.length := by
  induction r with
  | nil => rfl
  | cons _ _ ih => simp [ih]
theorem RepF.get {f : Str} {xs : List (Str × PV)} {vs : List (Str × V)} (r : RepF K ω xs vs) {x : PV} (h : xs.lookup f = some x) : ∃ v, vs.lookup f = some v ∧ Rep K ω x v := by
  induction r with
  | nil => cases h
  | @cons j y v xs vs r0 _ ih =>
    rw [List.lookup_cons] at h ⊢
    cases e : (f == j) with
    | true =>
      rw [e] at h
      have h : some y = some x := h
      cases h
      exact ⟨v, rfl, r0⟩
    | false =>
      rw [e] at h
      exact ih h
theorem RepF.no {f : Str} {xs : List (Str × PV)} {vs : List (Str × V)} (r : RepF K ω xs vs) (h : (xs.lookup f).isNone = true) : vs.lookup f = none := by
  induction r with
  | nil => rfl
  | @cons j y v xs vs r0 _ ih =>
    rw [List.lookup_cons] at h ⊢
    cases e : (f == j) with
    | true => rw [e] at h; cases h
    | false => rw [e] at h; exact ih h
theorem RepF.put {f : Str} {xs : List (Str × PV)} {vs : List (Str × V)} (r : RepF K ω xs vs) {x : PV} {v : V} (rv : Rep K ω x v) : RepF K ω (putFP f x xs) (putF f v vs) := by
  induction r with
  | nil => exact .cons rv .nil
  | @cons j y w xs vs r0 r1 ih =>
    unfold putFP putF
    by_cases e : j = f
    · rw [if_pos e, if_pos e]; exact .cons rv r1
    · rw [if_neg e, if_neg e]; exact .cons r0 ih
/-- something new that is no one's concern -/
theorem Wd.anon {K : PySem.W.Frag} {ω : Wo} {st : Store} {H : Hp} (h : Wd K ω st H) {p : Addr} (n : H p = none) (o : HO) (no : ∀ od u, o ≠ .frz od u) : Wd K ω st (upd H p o) ∧ Ext ω H ω (upd H p o) := by
  refine ⟨⟨fun b u e => ?_, h.len, h.nd, h.sep, fun l a q e1 e2 => ?_⟩, .refl ω, fun b u e m => ?_, fun b z => ?_, fun b z => .inl z, fun b m => .inl m, fun b od u e => by rw [upd_ne (ne_of_none e n)]; exact e⟩
  · rw [upd_ne (ne_of_none (h.sub b u e) n)]
    exact h.sub b u e
  · exact (h.obj l a q e1 e2).tr (.refl ω) (upd_ne (h.ne (List.mem_of_getElem? e1) n))
  · rw [upd_ne (ne_of_none e n)]
    exact e
  · by_cases hb : b = p
    · subst hb; rw [upd_same]; simp
    · rw [upd_ne hb]; exact z
end
/-- the instance of the class at C that v is: its place, its fields -/
def insOf (C : Nat) (st : Store) : PV → Option (Nat × List (Str × PV))
  | .loc l => match st[l]? with
    | some (.ins C' fs) => if C' = C then some (l, fs) else none
    | _ => none
  | _ => none
theorem insOf_some {C : Nat} {st : Store} {v : PV} {l : Nat} {fs : List (Str × PV)} (h : insOf C st v = some (l, fs)) : v = .loc l ∧ st[l]? = some (.ins C fs) := by
  unfold insOf at h
  split at h
  · split at h
    · rename_i q
      split at h
      · rename_i e
        cases h
        rw [e] at q
        exact ⟨rfl, q⟩
      · cases h
    · cases h
  · cases h
theorem insOf_at {C : Nat} {st : Store} {l : Nat} {fs : List (Str × PV)} (h : st[l]? = some (.ins C fs)) : insOf C st (.loc l) = some (l, fs) := by
  unfold insOf
  simp only [h, if_true]
theorem insOf_rep {K : PySem.W.Frag} {ω : Wo} {H : Hp} {st : Store} (wd : Wd K ω st H) {C : Nat} {v : PV} {x : V} (r : Rep K ω v x) {l : Nat} {fs : List (Str × PV)} (e : insOf C st v = some (l, fs)) :
    ∃ a dx vs, v = .loc l ∧ x = .ref a ∧ ω.ρ[l]? = some a ∧ H a = some (.ins C dx vs) ∧ RepF K ω fs vs := by
  obtain ⟨rfl, q⟩ := insOf_some e
  cases r with
  | loc ea =>
    obtain ⟨dx, vs, h, rf⟩ := wd.obj _ _ _ ea q
    exact ⟨_, dx, vs, rfl, rfl, ea, h, rf⟩
/-! ### e.f -/
def eFld (C : Nat) (f : Str) (fo : EM) : EM := fun env st => (fo env st).bind fun v st1 => match insOf C st1 v with
  | some (_, fs) => match fs.lookup f with
    | some y => .ok y st1
    | none => .stuck
  | none => .stuck
/-- o.f = e -/
def sFldM (C : Nat) (f : Str) (fo fv : EM) : SM := fun env st => sOf (fv env st) env fun y st1 => sOf (fo env st1) env fun v st2 => match insOf C st2 v with
  | some (l, fs) => if fs.length < 1000 then .nx env (st2.set l (.ins C (putFP f y fs))) else .stuck
  | none => .stuck
section
variable {X : Cx} {W : WX} {e o : Expr} {fo fv : EM} {C : Nat} {f : Str} {pos pos' : Pos}
theorem me_fld (c : Cls X.K C) (n : NoAttr X.K C f) (he : ME X W e fo) (hb : attributeBase e f X.env (eval e X.env) = eval e X.env := by rfl) : ME X W (.Attribute e f pos) (eFld C f fo) := by
  refine peI (pe_fld he hb) ?_
  rintro σ H Q ⟨ω, st, env, wd, re, h⟩
  refine ⟨ω, st, env, wd, re, (After.bind (Rel := RV X.K) h).mono ?_⟩
  rintro x H1 ⟨ω1, st1, v, e1, wd1, r1, h1⟩
  split at h1
  · rename_i l fs q
    split at h1
    · rename_i y hy
      obtain ⟨a, dx, vs, rfl, rfl, ea, ha, rf⟩ := insOf_rep wd1 r1 q
      obtain ⟨u, hu, ru⟩ := rf.get hy
      exact ⟨a, C, dx, vs, u, rfl, ha, c, n, hu, h1.ok_here wd1 ru⟩
    · exact False.elim h1
  · exact False.elim h1
theorem ms_fld (c : Cls X.K C) (n : NoAttr X.K C f) (ho : ME X W o fo) (hv : ME X W e fv) (hs : swapsWith e (some (.Attribute o f pos')) pos.line X.env = pure false := by rfl) : MS X W (.Assign [.Attribute o f pos'] e pos) (sFldM C f fo fv) := by
  refine psI (ps_fld ho hv hs) ?_
  rintro D σ H ⟨ω, st, env, wd, re, h⟩
  refine ⟨ω, st, env, wd, re, (h.bind (Rel := RV X.K) re).mono ?_⟩
  rintro y H1 ⟨ω1, st1, v, e1, wd1, r1, h1⟩
  have re1 := re.mono e1.le
  refine ⟨ω1, st1, env, wd1, re1, (h1.bind (Rel := RV X.K) re1).mono ?_⟩
  rintro x H2 ⟨ω2, st2, vo, e2, wd2, r2, h2⟩
  have re2 := re1.mono e2.le
  split at h2
  · rename_i l fs q
    split at h2
    · rename_i hl
      obtain ⟨a, dx, vs, rfl, rfl, ea, ha, rf⟩ := insOf_rep wd2 r2 q
      obtain ⟨w, ex⟩ := wd2.wrO ea ha (fun _ _ z => nomatch z) (.ins C (putFP f v fs)) (.ins C dx (putF f y vs)) ⟨dx, _, upd_same, rf.put (r1.mono e2.le)⟩
      exact ⟨a, C, dx, vs, rfl, ha, c, n, by rw [← rf.length]; exact hl, h2 ω2 _ σ ex w re2⟩
    · exact False.elim h2
  · exact False.elim h2
end
/-! ### methods -/
/-- the method m of the class at C is worth the plain function ev; ps: its parameters, self first -/
structure HasM (P : Program) (w : World) (K : PySem.W.Frag) (mg : Str → Option Value) (base : Heap) (C : Nat) (m : Str) (ps : List Str) (k : Nat) (ev : List PV → Store → Res PV) : Prop where
  ex : ∃ f fd, FnOk P w K mg base CX0 k f fd ps (spP ⟨K, mg⟩ ps.length (nE ev)) ∧ Meth K C m f ∧ Binds K fd ps []
def eMethO (C : Nat) (m : Str) (n : Nat) (ev : List PV → Store → Res PV) (fo : EM) (fs : AM) : EM := fun env st => (fo env st).bind fun v st1 => match insOf C st1 v with
  | some (_, fl) => if (fl.lookup m).isNone = true then (fs env st1).bind fun vs st2 => guardN n (nE ev) (v :: vs) st2 else .stuck
  | none => .stuck
section
variable {X : Cx} {W : WX} {e o : Expr} {es : List Expr} {fo : EM} {fs : AM} {C k : Nat} {m : Str} {ps : List Str} {ev : List PV → Store → Res PV} {apos pos : Pos}
theorem meth_step {n : Nat} {σ : L2.St} {H : Hp} {Q : VK} (h : tG X W (RV X.K) (eMethO C m n ev fo fs) σ H Q) : tMeth C m (spP (gd X) n (nE ev)) [] E0 (tG X W (RV X.K) fo) (tG X W (RL X.K) fs) σ H Q := by
  obtain ⟨ω, st, env, wd, re, h⟩ := h
  refine ⟨ω, st, env, wd, re, (After.bind (Rel := RV X.K) h).mono ?_⟩
  rintro x H1 ⟨ω1, st1, v, e1, wd1, r1, h1⟩
  split at h1
  · rename_i l fl q
    split at h1
    · rename_i hn
      obtain ⟨a, dx, vs, rfl, rfl, ea, ha, rf⟩ := insOf_rep wd1 r1 q
      refine ⟨a, dx, vs, rfl, ha, rf.no hn, ω1, st1, env, wd1, re.mono e1.le, (After.bind (Rel := RL X.K) h1).mono ?_⟩
      rintro xs H2 ⟨ω2, st2, ys, e2, wd2, r2, h2⟩
      rw [List.append_nil]
      exact ⟨ω2, st2, _, wd2, .cons (r1.mono e2.le) r2, guard_noErr h2⟩
    · exact False.elim h1
  · exact False.elim h1
theorem me_meth {n : Nat} {pl : Sem Bool} (c : Cls X.K C) (hm : HasM X.prog X.w X.K X.mg X.base C m ps k ev) (hr : Room k X.A) (ho : ME X W o fo) (ha : MA X W (e :: es) fs) (hn : ps.length = n := by rfl)
    (hst : starEach (e :: es) X.env = (false, eval e X.env) :: starEach es X.env := by rfl) (hpl : (backTo pos (starEach es X.env)).any (·.1) = false := by rfl)
    (ht : eval (.Call (.Attribute o m apos) (e :: es) [] pos) X.env = (do
      let ov ← eval o X.env
      standAt apos.atName
      let (f, first) ← holding [ov] (getMethod ov m pl)
      callWith pos f first (backTo pos (starEach (e :: es) X.env)) (backToKw pos (keywordEach [] X.env))) := by rfl) :
    ME X W (.Call (.Attribute o m apos) (e :: es) [] pos) (eMethO C m n ev fo fs) := by
  subst hn
  obtain ⟨f, fd, F, hM, hb⟩ := hm.ex
  exact peI (pe_meth ho c hM F hr hb .nil pass0 ha hst hpl ht) fun σ H Q h => meth_step h
theorem me_meth0 {n : Nat} {pl : Sem Bool} (c : Cls X.K C) (hm : HasM X.prog X.w X.K X.mg X.base C m ps k ev) (hr : Room k X.A) (ho : ME X W o fo) (hn : ps.length = n := by rfl)
    (ht : eval (.Call (.Attribute o m apos) [] [] pos) X.env = (do
      let ov ← eval o X.env
      standAt apos.atName
      let (f, first) ← holding [ov] (getMethod ov m pl)
      callWith pos f first (backTo pos (starEach [] X.env)) (backToKw pos (keywordEach [] X.env))) := by rfl) :
    ME X W (.Call (.Attribute o m apos) [] [] pos) (eMethO C m n ev fo aNil) := by
  subst hn
  obtain ⟨f, fd, F, hM, hb⟩ := hm.ex
  refine peI (pe_meth0 ho c hM F hr hb .nil pass0 ht) fun σ H Q h => ?_
  obtain ⟨ω, st, env, wd, re, h⟩ := meth_step h
  refine ⟨ω, st, env, wd, re, h.mono ?_⟩
  rintro x H1 ⟨a, dx, vs, ex, ha, hl, ω1, st1, env1, wd1, re1, h1⟩
  exact ⟨a, dx, vs, ex, ha, hl, h1.ok_here wd1 .nil⟩
end
/-! ### properties -/
structure HasP (P : Program) (w : World) (K : PySem.W.Frag) (mg : Str → Option Value) (base : Heap) (C : Nat) (m : Str) (ps : List Str) (k : Nat) (ev : List PV → Store → Res PV) : Prop where
  ex : ∃ p f fd, FnOk P w K mg base CX0 k f fd ps (spP ⟨K, mg⟩ ps.length (nE ev)) ∧ PropOf K C m p f ∧ Binds K fd ps [] ∧ ps.length = 1
def ePropO (C : Nat) (ev : List PV → Store → Res PV) (fo : EM) : EM := fun env st => (fo env st).bind fun v st1 => match insOf C st1 v with
  | some _ => guardN 1 (nE ev) [v] st1
  | none => .stuck
theorem me_prop {X : Cx} {W : WX} {o : Expr} {fo : EM} {C k : Nat} {m : Str} {ps : List Str} {ev : List PV → Store → Res PV} {pos : Pos} (c : Cls X.K C) (hm : HasP X.prog X.w X.K X.mg X.base C m ps k ev) (hr : Room (k + 1) X.A) (ho : ME X W o fo)
    (hb : attributeBase o m X.env (eval o X.env) = eval o X.env := by rfl) : ME X W (.Attribute o m pos) (ePropO C ev fo) := by
  obtain ⟨p, f, fd, F, hM, hbd, h1⟩ := hm.ex
  refine peI (pe_prop ho c hM F hr hbd .nil pass0 hb) ?_
  rintro σ H Q ⟨ω, st, env, wd, re, h⟩
  refine ⟨ω, st, env, wd, re, (After.bind (Rel := RV X.K) h).mono ?_⟩
  rintro x H1 ⟨ω1, st1, v, e1, wd1, r1, h2⟩
  split at h2
  · rename_i q e
    obtain ⟨l, fl⟩ := q
    obtain ⟨a, dx, vs, rfl, rfl, ea, ha, rf⟩ := insOf_rep wd1 r1 e
    refine ⟨a, dx, vs, rfl, ha, ω1, st1, _, wd1, .cons r1 .nil, ?_⟩
    rw [h1]
    exact guard_noErr h2
  · exact False.elim h2
/-! ### an instance, called -/
structure HasC (P : Program) (w : World) (K : PySem.W.Frag) (mg : Str → Option Value) (base : Heap) (C : Nat) (ps : List Str) (k : Nat) (ev : List PV → Store → Res PV) : Prop where
  ex : ∃ f fd, FnOk P w K mg base CX0 k f fd ps (spP ⟨K, mg⟩ ps.length (nE ev)) ∧ StX.CallO K C f ∧ Binds K fd ps []
def eCallO (C : Nat) (n : Nat) (ev : List PV → Store → Res PV) (fo : EM) (fs : AM) : EM := fun env st => (fo env st).bind fun v st1 => match v with
  | .loc _ => (fs env st1).bind fun vs st2 => match insOf C st2 v with
    | some _ => guardN n (nE ev) (v :: vs) st2
    | none => .stuck
  | _ => .stuck
theorem me_callO {X : Cx} {W : WX} {o e : Expr} {es : List Expr} {fo : EM} {fs : AM} {C k n : Nat} {ps : List Str} {ev : List PV → Store → Res PV} {pos : Pos} (hm : HasC X.prog X.w X.K X.mg X.base C ps k ev) (hr : Room k X.A) (ho : ME X W o fo) (ha : MA X W (e :: es) fs) (hn : ps.length = n := by rfl)
    (ht : eval (.Call o (e :: es) [] pos) X.env = (do callWith pos (← eval o X.env) [] (backTo pos (starEach (e :: es) X.env)) (backToKw pos (keywordEach [] X.env))) := by rfl)
    (he : starEach (e :: es) X.env = (false, eval e X.env) :: starEach es X.env := by rfl) (hpl : (backTo pos (starEach es X.env)).any (·.1) = false := by rfl) : ME X W (.Call o (e :: es) [] pos) (eCallO C n ev fo fs) := by
  subst hn
  obtain ⟨f, fd, F, hM, hb⟩ := hm.ex
  refine peI (StX.pe_callO ho hM (F.raw hb .nil) hr pass0 ha ht he hpl) ?_
  rintro σ H Q ⟨ω, st, env, wd, re, h⟩
  refine ⟨ω, st, env, wd, re, (After.bind (Rel := RV X.K) h).mono ?_⟩
  rintro x H1 ⟨ω1, st1, v, e1, wd1, r1, h1⟩
  split at h1
  · cases r1 with
    | loc ea =>
      rename_i a
      refine ⟨a, rfl, ω1, st1, env, wd1, re.mono e1.le, (After.bind (Rel := RL X.K) h1).mono ?_⟩
      rintro xs H2 ⟨ω2, st2, ys, e2, wd2, r2, h2⟩
      split at h2
      · rename_i q eq
        obtain ⟨l, fl⟩ := q
        have r1' : Rep X.K ω2 (.loc _) (.ref a) := .loc (e2.le.at ea)
        obtain ⟨a', dx, vs, e3, e4, ea', ha, rf⟩ := insOf_rep wd2 r1' eq
        cases e4
        refine ⟨.inr ⟨dx, vs, ha⟩, ?_⟩
        show spP (gd X) ps.length (nE ev) (.ref a :: xs ++ []) H2 Q E0
        rw [List.append_nil]
        exact ⟨ω2, st2, _, wd2, .cons r1' r2, guard_noErr h2⟩
      · exact False.elim h2
  · exact False.elim h1
/-! ### a new instance -/
structure HasI (P : Program) (w : World) (K : PySem.W.Frag) (mg : Str → Option Value) (base : Heap) (x : Str) (C : Nat) (ps : List Str) (k : Nat) (ev : List PV → Store → Res PV) : Prop where
  ex : ∃ f fd, FnOk P w K mg base CX0 k f fd ps (spP ⟨K, mg⟩ ps.length (nE ev)) ∧ Mk K C f ∧ Binds K fd ps [] ∧ mg x = some (.ref C)
def eMake (C : Nat) (n : Nat) (ev : List PV → Store → Res PV) (fs : AM) : EM := fun env st => (fs env st).bind fun vs st1 => (guardN n (nE ev) (.loc st1.length :: vs) (st1 ++ [.ins C []])).bind fun v st2 => match v with
  | .non => .ok (.loc st1.length) st2
  | _ => .stuck
theorem make_step {X : Cx} {ω1 : Wo} {st1 : Store} {H1 : Hp} {C n : Nat} {ev : List PV → Store → Res PV} {vs : List PV} {xs : List V} {E : XK} {Q : VK} (wd1 : Wd X.K ω1 st1 H1) (r1 : Reps X.K ω1 vs xs)
    (h : After (gd X) E ω1 H1 ((guardN n (nE ev) (.loc st1.length :: vs) (st1 ++ [.ins C []])).bind fun v st2 => match v with
      | .non => .ok (.loc st1.length) st2
      | _ => .stuck) (RV X.K) Q) (x dx : Addr) (nx : H1 x = none) (ndx : H1 dx = none) (hne : dx ≠ x) :
    spP (gd X) n (nE ev) (.ref x :: (xs ++ [])) (upd (upd H1 dx (.own x)) x (.ins C dx [])) (fun v H2 => v = .non ∧ Q (.ref x) H2) E0 := by
  obtain ⟨wdA, eA⟩ := wd1.anon ndx (.own x) (fun _ _ z => nomatch z)
  have nx' : upd H1 dx (.own x) x = none := by rw [upd_ne (Ne.symm hne)]; exact nx
  obtain ⟨wdB, eB⟩ := wdA.nwO nx' (.ins C []) (.ins C dx []) fun _ _ => ⟨dx, [], upd_same, .nil⟩
  have eAB := eA.trans eB
  have hat : (ω1.nw x).ρ[st1.length]? = some x := by
    show (ω1.ρ ++ [x])[st1.length]? = some x
    rw [← wd1.len]; simp
  rw [List.append_nil]
  refine ⟨ω1.nw x, st1 ++ [.ins C []], .loc st1.length :: vs, wdB, .cons (.loc hat) (r1.mono eAB.le), ?_⟩
  have h' := After.bind (Rel := RV X.K) (h.shift eAB)
  have z : After (gd X) E (ω1.nw x) (upd (upd H1 dx (.own x)) x (.ins C dx [])) (guardN n (nE ev) (.loc st1.length :: vs) (st1 ++ [.ins C []])) (RV X.K) (fun v H2 => v = .non ∧ Q (.ref x) H2) := by
    refine h'.mono ?_
    rintro v H2 ⟨ω2, st2, u, e2, wd2, r2, h2⟩
    split at h2
    · cases r2
      exact ⟨rfl, h2.ok_here wd2 (.loc (e2.le.at hat))⟩
    · exact False.elim h2
  exact guard_noErr z
theorem me_make {X : Cx} {W : WX} {x : Str} {e : Expr} {es : List Expr} {fs : AM} {C k n : Nat} {ps : List Str} {ev : List PV → Store → Res PV} {p pos : Pos} (hm : HasI X.prog X.w X.K X.mg X.base x C ps k ev) (hr : Room (k + 1) X.A) (ha : MA X W (e :: es) fs) (hn : ps.length = n := by rfl) (hg : Gl X x := by rfl)
    (hdb : (x == ("__debug__" : Str)) = false := by decide) (he : starEach (e :: es) X.env = (false, eval e X.env) :: starEach es X.env := by rfl) (hpl : (backTo pos (starEach es X.env)).any (·.1) = false := by rfl) :
    ME X W (.Call (.Name x p) (e :: es) [] pos) (eMake C n ev fs) := by
  subst hn
  obtain ⟨f, fd, F, hM, hb, hg2⟩ := hm.ex
  refine peI (pe_make hM F hr hg hg2 hb .nil pass0 ha hdb he hpl) ?_
  rintro σ H Q ⟨ω, st, env, wd, re, h⟩
  refine ⟨ω, st, env, wd, re, (After.bind (Rel := RL X.K) h).mono ?_⟩
  rintro xs H1 ⟨ω1, st1, vs, e1, wd1, r1, h1⟩
  exact fun y dx ny ndy hne => make_step wd1 r1 h1 y dx ny ndy hne
theorem me_make0 {X : Cx} {W : WX} {x : Str} {C k n : Nat} {ps : List Str} {ev : List PV → Store → Res PV} {p pos : Pos} (hm : HasI X.prog X.w X.K X.mg X.base x C ps k ev) (hr : Room (k + 1) X.A) (hn : ps.length = n := by rfl) (hg : Gl X x := by rfl)
    (hdb : (x == ("__debug__" : Str)) = false := by decide) :
    ME X W (.Call (.Name x p) [] [] pos) (eMake C n ev aNil) := by
  subst hn
  obtain ⟨f, fd, F, hM, hb, hg2⟩ := hm.ex
  refine peI (pe_make0 hM F hr hg hg2 hb .nil pass0 hdb) ?_
  rintro σ H Q ⟨ω, st, env, wd, re, h⟩
  exact fun y dx ny ndy hne => make_step wd .nil h y dx ny ndy hne
/-! ### while -/
def sWhileL (c : TM) (b : SM) : Nat → SM
  | 0 => fun _ _ => .stuck
  | m + 1 => fun env st => sOf (c env st) env fun t st1 => if t = true then match b env st1 with
      | .nx e s => sWhileL c b m e s
      | .ct e s => sWhileL c b m e s
      | .bk e s => .nx e s
      | .rt v s => .rt v s
      | .err e n fs s => .err e n fs s
      | .stuck => .stuck
    else .nx env st1
theorem ms_while {X : Cx} {W : WX} {c : Expr} {body : List Stmt} {fc : TM} {fb : SM} {pos : Pos} (n : Nat) (hp : PassesOwn (model X.prog X.w) X.A X.env X.xe) (hc : MT X W c fc) (hb : MB X W body fb) : MS X W (.While c body [] pos) (sWhileL fc fb n) := by
  refine psI (ps_while hp hc hb) ?_
  rintro D σ H h
  refine ⟨fun m σ H => tS X W (sWhileL fc fb m) D σ H, ⟨n, h⟩, ?_⟩
  rintro m σ H ⟨ω, st, env, wd, re, h⟩
  cases m with
  | zero => exact False.elim h
  | succ m =>
    refine ⟨ω, st, env, wd, re, (h.bind (Rel := RQ) re).mono ?_⟩
    rintro y H1 ⟨ω1, st1, t, e1, wd1, r1, h1⟩
    have r1 : t = y := r1
    subst r1
    have re1 := re.mono e1.le
    cases t with
    | false =>
      rw [if_neg (by simp)]
      rw [if_neg (by simp)] at h1
      exact h1.nx_here wd1 re1
    | true =>
      rw [if_pos rfl]
      rw [if_pos rfl] at h1
      refine ⟨fun σ' H' => tS X W (sWhileL fc fb m) D σ' H', fun σ' H' q => ⟨m, Nat.lt_succ_self m, q⟩, ω1, st1, env, wd1, re1, ?_⟩
      cases r : fb env st1 with
      | nx e s =>
        rw [r] at h1
        exact fun ω' H' σ' x w re' => ⟨ω', s, e, w, re', h1.shift x⟩
      | ct e s =>
        rw [r] at h1
        exact fun ω' H' σ' x w re' => ⟨ω', s, e, w, re', h1.shift x⟩
      | bk e s => rw [r] at h1; exact h1
      | rt v s => rw [r] at h1; exact h1
      | err e n fs s => rw [r] at h1; exact h1
      | stuck => rw [r] at h1; exact h1
end PL
/-! PL, part zt: dict(zip(s, t)) of two tuples, at the library's level. -/
namespace PLZ
open PySem
open PySem.Sem (wp)
section
variable {prog : Program} {w : World} {A : Around} {E : Value → Shared → Prop} {s : Shared}
variable {g J O P a1 a2 t1 t2 : Addr} {f : Bool} {oP : Obj} {n1 n2 : Nat} {us vs : Array Value}
theorem next_held {u v : Value} {Q : Value → Shared → Prop} (D : ZipApart g J O a1 a2 t1 t2) (hg : IsZipHeld s.heap g J O P f) (hP : s.heap.get? P = some oP) (hJ : IsPair s.heap J (.ref a1) (.ref a2))
    (e1 : s.heap.IsTupleIter a1 t1 n1) (e2 : s.heap.IsTupleIter a2 t2 n2) (m1 : s.heap.IsTuple t1 us) (m2 : s.heap.IsTuple t2 vs) (hu : us[n1]? = some u) (hv : vs[n2]? = some v)
    (q : ∀ h', IsZipHeld h' g J O P true → h'.IsTupleIter a1 t1 (n1 + 1) → h'.IsTupleIter a2 t2 (n2 + 1) → IsPair h' s.heap.objs.size u v →
      (∀ c o, c ≠ g → c ≠ a1 → c ≠ a2 → s.heap.get? c = some o → h'.get? c = some o) → Q (.ref s.heap.objs.size) { s with heap := h' }) :
    wpAny (model prog w) A (Builtin.«zip.__next__» ⟨[.ref g], []⟩) (fun r s2 => ∃ y, r = .done (.ret y) ∧ Q y s2) E s := by
  show wpAny _ _ (field (.ref g) 2 >>= _) _ _ _
  refine wpAny_bind (wpAny_field hg rfl (x := .bool false) rfl ?_)
  show wpAny _ _ (field (.ref g) 3 >>= _) _ _ _
  refine wpAny_bind (wpAny_field hg rfl (x := .ref J) rfl ?_)
  refine wpAny_bind (wpAny_seqItems hJ rfl ?_)
  show wpAny _ _ (Builtin.SmallTypes.ownedTupleIsFree (.ref g) >>= _) _ _ _
  refine wpAny_bind (wpAny_tupleHeld_zip hg hP fun k1 hg1 c1 => ?_)
  simp only [Bool.false_eq_true, if_false]
  refine wpAny_bind ?_
  rw [← Array.forIn_toList]
  simp only [List.forIn_cons, List.forIn_nil]
  refine wpAny_bind (wpAny_bind (wpAny_holding ?_))
  show wpAny _ _ (Builtin.SmallTypes.nextOf (.ref a1) >>= _) _ _ _
  refine wpAny_bind (RZ.nextOf_tuple_item (s := { s with heap := k1 }) (e1.extBut c1.extBut D.i1z) (m1.extBut c1.extBut D.l1z) hu fun k2 e1' c2 => wpAny_pure (wpAny_pure ?_))
  refine wpAny_bind (wpAny_bind (wpAny_holding ?_))
  show wpAny _ _ (Builtin.SmallTypes.nextOf (.ref a2) >>= _) _ _ _
  refine wpAny_bind (RZ.nextOf_tuple_item (s := { s with heap := k2 }) ((e2.extBut c1.extBut D.i2z).extBut c2.extBut D.i12.symm) ((m2.extBut c1.extBut D.l2z).extBut c2.extBut D.l2i1) hv fun k3 e2' c3 => wpAny_pure ?_)
  refine wpAny_pure (wpAny_pure ?_)
  show wpAny _ _ (newTuple [u, v] >>= _) _ _ _
  refine wpAny_bind (wpAny_newTuple ?_)
  have sz : k3.objs.size = s.heap.objs.size := by rw [c3.1, c2.1, c1.1]
  have hg3 : IsZipHeld k3 g J O P true := c3.extBut _ _ D.i2z.symm (c2.extBut _ _ D.i1z.symm hg1)
  have e1'' : k3.IsTupleIter a1 t1 (n1 + 1) := e1'.extBut c3.extBut D.i12
  refine wpAny_pure ⟨_, rfl, ?_⟩
  show Q (.ref k3.objs.size) _
  have hp : IsPair (k3.push { cls := .type "tuple", data := .seq #[u, v] }) k3.objs.size u v := Heap.get?_push_size _ rfl
  rw [sz] at hp ⊢
  refine q _ (Heap.get?_push_of_some _ hg3) (e1''.at fun o e => Heap.get?_push_of_some _ e) (e2'.at fun o e => Heap.get?_push_of_some _ e) hp fun c o d1 d2 d3 e => ?_
  exact Heap.get?_push_of_some _ (c3.extBut _ _ d3 (c2.extBut _ _ d2 (c1.extBut _ _ d1 e)))
theorem end_held {Q : Fin → Shared → Prop} (hh : A.handled = none) (D : ZipApart g J O a1 a2 t1 t2) (hg : IsZipHeld s.heap g J O P f) (hP : s.heap.get? P = some oP) (hJ : IsPair s.heap J (.ref a1) (.ref a2))
    (e1 : s.heap.IsTupleIter a1 t1 n1) (e2 : s.heap.IsTupleIter a2 t2 n2) (m1 : s.heap.IsTuple t1 us) (m2 : s.heap.IsTuple t2 vs) (he : us[n1]? = none ∨ vs[n2]? = none)
    (q : ∀ h' x, (∀ c o, c ≠ g → c ≠ a1 → c ≠ a2 → s.heap.get? c = some o → h'.get? c = some o) → (∃ o, h'.get? x = some o ∧ o.cls = .type "StopIteration") → E (.ref x) { s with heap := h' }) :
    wpAny (model prog w) A (Builtin.«zip.__next__» ⟨[.ref g], []⟩) Q E s := by
  show wpAny _ _ (field (.ref g) 2 >>= _) _ _ _
  refine wpAny_bind (wpAny_field hg rfl (x := .bool false) rfl ?_)
  show wpAny _ _ (field (.ref g) 3 >>= _) _ _ _
  refine wpAny_bind (wpAny_field hg rfl (x := .ref J) rfl ?_)
  refine wpAny_bind (wpAny_seqItems hJ rfl ?_)
  show wpAny _ _ (Builtin.SmallTypes.ownedTupleIsFree (.ref g) >>= _) _ _ _
  refine wpAny_bind (wpAny_tupleHeld_zip hg hP fun k1 hg1 c1 => ?_)
  simp only [Bool.false_eq_true, if_false]
  refine wpAny_bind ?_
  rw [← Array.forIn_toList]
  simp only [List.forIn_cons, List.forIn_nil]
  refine wpAny_bind (wpAny_bind (wpAny_holding ?_))
  show wpAny _ _ (Builtin.SmallTypes.nextOf (.ref a1) >>= _) _ _ _
  cases hu : us[n1]? with
  | none =>
    exact wpAny_bind (RZ.nextOf_tuple_end (s := { s with heap := k1 }) hh (e1.extBut c1.extBut D.i1z) (m1.extBut c1.extBut D.l1z) hu fun k2 x c2 hx => q k2 x (fun c o d1 d2 _ e => c2 _ _ d2 (c1.extBut _ _ d1 e)) hx)
  | some u =>
    have hv : vs[n2]? = none := by rcases he with h | h; rw [hu] at h; cases h; exact h
    refine wpAny_bind (RZ.nextOf_tuple_item (s := { s with heap := k1 }) (e1.extBut c1.extBut D.i1z) (m1.extBut c1.extBut D.l1z) hu fun k2 e1' c2 => wpAny_pure (wpAny_pure ?_))
    refine wpAny_bind (wpAny_bind (wpAny_holding ?_))
    show wpAny _ _ (Builtin.SmallTypes.nextOf (.ref a2) >>= _) _ _ _
    exact wpAny_bind (RZ.nextOf_tuple_end (s := { s with heap := k2 }) hh ((e2.extBut c1.extBut D.i2z).extBut c2.extBut D.i12.symm) ((m2.extBut c1.extBut D.l2z).extBut c2.extBut D.l2i1) hv fun k3 x c3 hx =>
      q k3 x (fun c o d1 d2 d3 e => c3 _ _ d3 (c2.extBut _ _ d2 (c1.extBut _ _ d1 e))) hx)
theorem pyNext_held {u v : Value} {Q : Option Value → Shared → Prop} (D : ZipApart g J O a1 a2 t1 t2) (hg : IsZipHeld s.heap g J O P f) (hP : s.heap.get? P = some oP) (hJ : IsPair s.heap J (.ref a1) (.ref a2))
    (e1 : s.heap.IsTupleIter a1 t1 n1) (e2 : s.heap.IsTupleIter a2 t2 n2) (m1 : s.heap.IsTuple t1 us) (m2 : s.heap.IsTuple t2 vs) (hu : us[n1]? = some u) (hv : vs[n2]? = some v)
    (q : ∀ h', IsZipHeld h' g J O P true → h'.IsTupleIter a1 t1 (n1 + 1) → h'.IsTupleIter a2 t2 (n2 + 1) → IsPair h' s.heap.objs.size u v →
      (∀ c o, c ≠ g → c ≠ a1 → c ≠ a2 → s.heap.get? c = some o → h'.get? c = some o) → Q (some (.ref s.heap.objs.size)) { s with heap := h' }) :
    wpAny (model prog w) A (pyNext (.ref g)) Q E s := by
  have ty : s.TypeIs (.ref g) "zip" := ⟨_, hg, rfl⟩
  unfold pyNext
  exact wpAny_bind (wpAny_attempt (wpAny_callSpecial?_slot (name := Str.ofString "__next__") ty F.slot_zip_next (wpAny_call_entry F.slot_zip_next ty F.entry_zip_next
    (next_held D hg hP hJ e1 e2 m1 m2 hu hv fun h' b1 b2 b3 b4 b5 => wpAny_pure (q h' b1 b2 b3 b4 b5)) (F.args_zip_next_1 _))))
theorem pyNext_held_end {Q : Option Value → Shared → Prop} (hh : A.handled = none) (D : ZipApart g J O a1 a2 t1 t2) (hg : IsZipHeld s.heap g J O P f) (hP : s.heap.get? P = some oP) (hJ : IsPair s.heap J (.ref a1) (.ref a2))
    (e1 : s.heap.IsTupleIter a1 t1 n1) (e2 : s.heap.IsTupleIter a2 t2 n2) (m1 : s.heap.IsTuple t1 us) (m2 : s.heap.IsTuple t2 vs) (he : us[n1]? = none ∨ vs[n2]? = none)
    (q : ∀ h', (∀ c o, c ≠ g → c ≠ a1 → c ≠ a2 → s.heap.get? c = some o → h'.get? c = some o) → Q none { s with heap := h' }) : wpAny (model prog w) A (pyNext (.ref g)) Q E s := by
  have ty : s.TypeIs (.ref g) "zip" := ⟨_, hg, rfl⟩
  unfold pyNext
  refine wpAny_bind (wpAny_attempt (wpAny_callSpecial?_slot (name := Str.ofString "__next__") ty F.slot_zip_next (wpAny_call_entry F.slot_zip_next ty F.entry_zip_next
    (end_held hh D hg hP hJ e1 e2 m1 m2 he fun h' x hk hx => ?_) (F.args_zip_next_1 _))))
  obtain ⟨o, ho, hc⟩ := hx
  exact wpAny_bind (wpAny_isInstance (T := "StopIteration") (b := true) ⟨o, ho, hc⟩ isSubtype_stop (wpAny_pure (q _ hk)))
end
section
variable {prog : Program} {w : World}
/-- zip(s, t) of two tuples, as what dict() takes -/
theorem argZip (g J O a1 a2 t1 t2 : Addr) (D : ZipApart g J O a1 a2 t1 t2) (us vs : Array Value) :
    PairArg prog w "zip" g [g, J, O, a1, a2, t1, t2] [g, O, a1, a2] (min us.size vs.size) (fun i k v => us[i]? = some k ∧ vs[i]? = some v)
      (fun h => IsZip h g J O .none ∧ IsPair h J (.ref a1) (.ref a2) ∧ (∃ a b, IsPair h O a b) ∧ h.IsTupleIter a1 t1 0 ∧ h.IsTupleIter a2 t2 0 ∧ h.IsTuple t1 us ∧ h.IsTuple t2 vs) where
  type := fun s ok => ⟨_, ok.1, rfl⟩
  notDict := by decide
  keep := fun h h' ⟨hg, hJ, ⟨a, b, hO⟩, e1, e2, m1, m2⟩ hk => ⟨hk _ _ hg, hk _ _ hJ, ⟨a, b, hk _ _ hO⟩, e1.at fun o e => hk _ o e, e2.at fun o e => hk _ o e, m1.at fun o e => hk _ o e, m2.at fun o e => hk _ o e⟩
  there := fun h ⟨hg, hJ, ⟨a, c, hO⟩, ⟨o1, e1, _⟩, ⟨o2, e2, _⟩, ⟨o3, m1, _⟩, ⟨o4, m2, _⟩⟩ b hb => by
    simp only [List.mem_cons, List.not_mem_nil, or_false] at hb
    rcases hb with z | z | z | z | z | z | z <;> rw [z]
    · exact ⟨_, hg⟩
    · exact ⟨_, hJ⟩
    · exact ⟨_, hO⟩
    · exact ⟨_, e1⟩
    · exact ⟨_, e2⟩
    · exact ⟨_, m1⟩
    · exact ⟨_, m2⟩
  sub := fun b hb => by
    simp only [List.mem_cons, List.not_mem_nil, or_false] at hb ⊢
    rcases hb with z | z | z | z <;> simp [z]
  noKeys := fun A s Q E hA ok h => getAttrOr_miss_zip ok.1 rfl rfl rfl zip_no_keys (by decide +kernel) hA h
  iter := fun A s d Q E hA ok hd hdf h => by
    obtain ⟨hg, hJ, ⟨a, b, hO⟩, e1, e2, m1, m2⟩ := ok
    simp only [List.mem_cons, List.not_mem_nil, or_false, not_or] at hdf
    obtain ⟨dg, dJ, dO, d1, d2, dt1, dt2⟩ := hdf
    refine wpAny_pyIter_zip hg (h g [g, O, a1, a2] (fun i h => IsPair h J (.ref a1) (.ref a2) ∧ h.IsTupleIter a1 t1 i ∧ h.IsTupleIter a2 t2 i ∧ h.IsTuple t1 us ∧ h.IsTuple t2 vs ∧
      ((IsZip h g J O .none ∧ ∃ a b, IsPair h O a b) ∨ ∃ P f oP, IsZipHeld h g J O P f ∧ h.get? P = some oP ∧ P ≠ g ∧ P ≠ a1 ∧ P ≠ a2 ∧ P ≠ d)) s.heap s.toks ?_ ⟨hJ, e1, e2, m1, m2, .inl ⟨hg, a, b, hO⟩⟩ (fun _ _ e => e) fun b hb => .inl hb)
    have four : ∀ {c : Addr}, c ∉ [g, O, a1, a2] → c ≠ g ∧ c ≠ O ∧ c ≠ a1 ∧ c ≠ a2 := fun {c} hc => by
      simpa [not_or] using hc
    refine { off := fun hm => ?_, frame := fun i h1 h2 st hk => ?_, item := fun i s1 Q1 E1 hi st hds hQ => ?_, done := fun s1 Q1 E1 st hQ => ?_ }
    · simp only [List.mem_cons, List.not_mem_nil, or_false] at hm
      rcases hm with e | e | e | e
      · exact dg e
      · exact dO e
      · exact d1 e
      · exact d2 e
    · obtain ⟨hJ, e1, e2, m1, m2, hg⟩ := st
      refine ⟨hk _ _ (Ne.symm dJ) hJ, e1.at fun o e => hk _ o (Ne.symm d1) e, e2.at fun o e => hk _ o (Ne.symm d2) e, m1.at fun o e => hk _ o (Ne.symm dt1) e, m2.at fun o e => hk _ o (Ne.symm dt2) e, ?_⟩
      rcases hg with ⟨hg, a, b, hO⟩ | ⟨P, f, oP, hg, hP, r⟩
      · exact .inl ⟨hk _ _ (Ne.symm dg) hg, a, b, hk _ _ (Ne.symm dO) hO⟩
      · exact .inr ⟨P, f, oP, hk _ _ (Ne.symm dg) hg, hk _ _ r.2.2.2 hP, r⟩
    · obtain ⟨hJ, e1, e2, m1, m2, hg⟩ := st
      have i1 : i < us.size := Nat.lt_of_lt_of_le hi (Nat.min_le_left ..)
      have i2 : i < vs.size := Nat.lt_of_lt_of_le hi (Nat.min_le_right ..)
      have eu := Array.getElem?_eq_getElem i1
      have ev := Array.getElem?_eq_getElem i2
      have off : ∀ {c o}, s1.heap.get? c = some o → s1.heap.objs.size ≠ c := fun e => Nat.ne_of_gt (Heap.lt_size e)
      have f1 : s1.heap.objs.size ≠ a1 := let ⟨_, e, _⟩ := e1; off e
      have f2 : s1.heap.objs.size ≠ a2 := let ⟨_, e, _⟩ := e2; off e
      rcases hg with ⟨hg, a, b, hO⟩ | ⟨P, f, oP, hg, hP, r1, r2, r3, r4⟩
      · refine RZ.pyNext_zipT_item D hg hJ hO e1 e2 m1 m2 eu ev fun h' b1 b2 b3 b4 b5 b6 hk => ?_
        refine hQ s1.heap.objs.size _ _ h' s1.toks ⟨eu, ev⟩ (.inl ⟨_, b5, rfl, _, rfl⟩) ⟨hk _ _ D.TIz D.TITO D.TIi1 D.TIi2 hJ, b3, b4, m1.at fun o e => hk _ o D.l1z D.l1TO D.l1i1 D.l1i2 e, m2.at fun o e => hk _ o D.l2z D.l2TO D.l2i1 D.l2i2 e,
          .inr ⟨s1.heap.objs.size, false, _, b1, b5, off hg, f1, f2, Nat.ne_of_gt hds⟩⟩ fun c o hc e => ?_
        obtain ⟨c1, c2, c3, c4⟩ := four hc
        exact hk c o c1 c2 c3 c4 e
      · refine pyNext_held D hg hP hJ e1 e2 m1 m2 eu ev fun h' b1 b3 b4 b5 hk => ?_
        refine hQ s1.heap.objs.size _ _ h' s1.toks ⟨eu, ev⟩ (.inl ⟨_, b5, rfl, _, rfl⟩) ⟨hk _ _ D.TIz D.TIi1 D.TIi2 hJ, b3, b4, m1.at fun o e => hk _ o D.l1z D.l1i1 D.l1i2 e, m2.at fun o e => hk _ o D.l2z D.l2i1 D.l2i2 e,
          .inr ⟨P, true, oP, b1, hk _ _ r1 r2 r3 hP, r1, r2, r3, r4⟩⟩ fun c o hc e => ?_
        obtain ⟨c1, c2, c3, c4⟩ := four hc
        exact hk c o c1 c3 c4 e
    · obtain ⟨hJ, e1, e2, m1, m2, hg⟩ := st
      have he : us[min us.size vs.size]? = none ∨ vs[min us.size vs.size]? = none := by
        rcases Nat.le_total us.size vs.size with h | h
        · exact .inl (Array.getElem?_eq_none (by omega))
        · exact .inr (Array.getElem?_eq_none (by omega))
      rcases hg with ⟨hg, a, b, hO⟩ | ⟨P, f, oP, hg, hP, r1, r2, r3, r4⟩
      · refine RZ.pyNext_zipT_end hA D hg hJ hO e1 e2 m1 m2 he fun h' hk => hQ h' s1.toks fun c o hc e => ?_
        obtain ⟨c1, c2, c3, c4⟩ := four hc
        exact hk c o c1 c2 c3 c4 e
      · refine pyNext_held_end hA D hg hP hJ e1 e2 m1 m2 he fun h' hk => hQ h' s1.toks fun c o hc e => ?_
        obtain ⟨c1, c2, c3, c4⟩ := four hc
        exact hk c o c1 c3 c4 e
end
end PLZ
/-! PL, part oc: zip, dict(zip()), more of lists. -/
namespace PL
open PySem PySem.Spec PyProof.Rows L2
/-! ### a walk over zip(s, t) -/
def zips (xs ys : List PV) : List PV := (xs.zip ys).map fun p => .tup [p.1, p.2]
theorem zips_get {xs ys : List PV} {i : Nat} {v w : PV} (h : xs[i]? = some v) (h' : ys[i]? = some w) : (zips xs ys)[i]? = some (.tup [v, w]) := by
  unfold zips
  have : (xs.zip ys)[i]? = some (v, w) := List.getElem?_zip_eq_some.mpr ⟨h, h'⟩
  rw [List.getElem?_map, this]
  rfl
theorem zips_len {xs ys : List PV} : (zips xs ys).length = min xs.length ys.length := by simp [zips]
section
variable {K : PySem.W.Frag} {ω : Wo}
theorem zip_yield {st : Store} {H : Hp} {ω1 : Wo} {T : Addr} {x y : V} {v w : PV} (wd : Wd K ω1 st H) (n : H T = none) (r : Rep K ω1 v x) (r' : Rep K ω1 w y) :
    ∃ ω2 u, Ext ω1 H ω2 (upd H T (.tup [x, y])) ∧ Wd K ω2 st (upd H T (.tup [x, y])) ∧ (some (.tup [v, w]) : Option PV) = some u ∧ Rep K ω2 u (.ref T) := by
  obtain ⟨a, e⟩ := wd.fz n (.tup [x, y])
  exact ⟨_, _, e, a, rfl, .tup upd_same (.cons (r.mono e.le) (.cons (r'.mono e.le) .nil))⟩
theorem itr_zipT {a b : Addr} {xs ys : List PV} {ws us : List V} (e : ω.F a = some (.tup ws)) (r : Reps K ω xs ws) (e' : ω.F b = some (.tup us)) (r' : Reps K ω ys us) : ItR0 K ω (zips xs ys) (RZ.ItzT K a b) where
  goes := fun i H hi s => by
    rw [zips_len] at hi
    have h1 : i < ws.length := by rw [← r.length]; omega
    have h2 : i < us.length := by rw [← r'.length]; omega
    exact ⟨ws, us, ws[i], us[i], .of (s _ _ e), .of (s _ _ e'), by simp [h1], by simp [h2]⟩
  stops := fun H s => ⟨ws, us, .of (s _ _ e), .of (s _ _ e'), by rw [zips_len, r.length, r'.length]; omega⟩
  yields := fun i ω1 st H x H' hi le wd y => by
    obtain ⟨T, z, u, e1, hT, e2, y1, y2⟩ := y
    subst e1
    subst e2
    obtain ⟨v, hv, rv⟩ := r.get' (y1 ws (.of (wd.sub _ _ (le.fz _ _ e))))
    obtain ⟨w, hw, rw'⟩ := r'.get' (y2 us (.of (wd.sub _ _ (le.fz _ _ e'))))
    rw [zips_get hv hw]
    exact zip_yield wd hT (rv.mono le) (rw'.mono le)
theorem itr_zipL {a b : Addr} {xs ys : List PV} {ws us : List V} (e : SqL K ω.F a ws) (r : Reps K ω xs ws) (e' : SqL K ω.F b us) (r' : Reps K ω ys us) : ItR0 K ω (zips xs ys) (Itz K a b) where
  goes := fun i H hi s => by
    rw [zips_len] at hi
    have h1 : i < ws.length := by rw [← r.length]; omega
    have h2 : i < us.length := by rw [← r'.length]; omega
    exact ⟨ws, us, ws[i], us[i], s.seq e, s.seq e', by simp [h1], by simp [h2]⟩
  stops := fun H s => ⟨ws, us, s.seq e, s.seq e', by rw [zips_len, r.length, r'.length]; omega⟩
  yields := fun i ω1 st H x H' hi le wd y => by
    obtain ⟨T, z, u, e1, hT, e2, y1, y2⟩ := y
    subst e1
    subst e2
    obtain ⟨v, hv, rv⟩ := r.get' (y1 ws (wd.sub.seq (le.fz.seq e)))
    obtain ⟨w, hw, rw'⟩ := r'.get' (y2 us (wd.sub.seq (le.fz.seq e')))
    rw [zips_get hv hw]
    exact zip_yield wd hT (rv.mono le) (rw'.mono le)
end
def pZip (vs : List PV) (st : Store) : Res Itms := match vs with
  | [.tup xs, .tup ys] => .ok ⟨zips xs ys, none⟩ st
  | [.lst xs, .lst ys] => .ok ⟨zips xs ys, none⟩ st
  | _ => .stuck
def iZip (f g : EM) : IM := fun env st => (aCons f (aCons g aNil) env st).bind pZip
theorem mi_zip {X : Cx} {W : WX} {a b : Expr} {f1 f2 : EM} {elts : List Expr} {kk : Nat} {p pos tpos : Pos} (hg : Gl X "zip") (hm : X.mg "zip" = none) (ha : ME X W a f1) (hb : ME X W b f2)
    (hs : starEach [a, b] X.env = (false, eval a X.env) :: starEach [b] X.env := by rfl) (hs2 : starEach [b] X.env = (false, eval b X.env) :: starEach [] X.env := by rfl) (hpl : (backTo pos (starEach [b] X.env)).any (·.1) = false := by rfl) :
    MI X W (.Tuple elts kk tpos) (.Call (.Name "zip" p) [a, b] [] pos) (iZip f1 f2) := by
  refine piI (RZ.pi_zipA hg hm (ma_cons ha (ma_cons hb ma_nil hs2) hs) hs hpl) ?_
  rintro σ H R ⟨ω, st, env, wd, re, h⟩
  refine ⟨ω, st, env, wd, re, (After.bind (Rel := RL X.K) h).mono ?_⟩
  rintro x H1 ⟨ω1, st1, vs, e1, wd1, r1, h1⟩
  unfold pZip at h1
  split at h1
  · cases r1 with
    | cons ra t =>
      cases t with
      | cons rb t =>
        cases t
        cases ra with
        | tup ea rs =>
          cases rb with
          | tup eb rs' => exact ⟨_, _, _, _, rfl, .inr ⟨.of (wd1.sub _ _ ea), .of (wd1.sub _ _ eb), h1.ok_here wd1 (.of0 (itr_zipT ea rs eb rs'))⟩⟩
  · cases r1 with
    | cons ra t =>
      cases t with
      | cons rb t =>
        cases t
        cases ra with
        | lst ea rs =>
          cases rb with
          | lst eb rs' => exact ⟨_, _, _, _, rfl, .inl ⟨.of (wd1.sub _ _ ea), .of (wd1.sub _ _ eb), h1.ok_here wd1 (.of0 (itr_zipL (.of ea) rs (.of eb) rs'))⟩⟩
  · exact False.elim h1
/-! ### dict(zip(s, t)) -/
def tDictZip (K : PySem.W.Frag) (ta : TA) : TE := fun σ H Q => ta σ H fun vs H1 => ∃ (a b : Addr) (ks : List Key) (xs : List V), vs = [.ref a, .ref b] ∧ SqT K H1 a (ks.map kV) ∧ SqT K H1 b xs ∧
  ∀ p, H1 p = none → Q (.ref p) (upd H1 p (.dK (mergeK [] (ks.zip xs))))
theorem zip_kv {P : Program} {w : World} : ∀ {ks : List Key} {xs : List V} {ts us : List Value}, Vals (ks.map kV) ts → Vals xs us →
    KV (ks.zip xs) (ks.zip us) ∧ (ks.zip us).length = min ts.length us.length ∧ ∀ (i : Nat) (k v : Value), ts[i]? = some k → us[i]? = some v → ∃ q, (ks.zip us)[i]? = some (q, v) ∧ (mixKind P w).is q k = true
  | [], xs, ts, us, r, r' => by
    cases r
    exact ⟨.nil, by simp, fun i k v e => by simp at e⟩
  | k :: ks, [], ts, us, r, r' => by
    cases r'
    exact ⟨.nil, by simp, fun i k v _ e => by simp at e⟩
  | k :: ks, x :: xs, ts, us, r, r' => by
    rw [List.map_cons] at r
    cases r with
    | cons a t =>
      cases r' with
      | cons a' t' =>
        obtain ⟨h1, h2, h3⟩ := zip_kv (P := P) (w := w) t t'
        refine ⟨.cons ⟨rfl, a'⟩ h1, by simp only [List.zip_cons_cons, List.length_cons, h2]; omega, fun i q v e e' => ?_⟩
        cases i with
        | zero =>
          simp only [List.getElem?_cons_zero, Option.some.injEq] at e e'
          subst e
          subst e'
          exact ⟨k, rfl, kV_is a⟩
        | succ i => exact h3 i q v (by simpa using e) (by simpa using e')
theorem boot_dict' : bootBuiltins "dict" = some (.type "dict") := by decide +kernel
theorem pe_dictZip {X : Cx} {a b : Expr} {ta : TA} {p p2 q pos : Pos} (hc : X.calm = true) (hg : Gl X "dict") (hm : X.mg "dict" = none) (hg2 : Gl X "zip") (hm2 : X.mg "zip" = none) (ha : PA X [a, b] ta)
    (hs : starEach [a, b] X.env = (false, eval a X.env) :: starEach [b] X.env := by rfl) (hpl : (backTo q (starEach [b] X.env)).any (·.1) = false := by rfl)
    (na : starEach [.Call (.Name "zip" p2) [a, b] [] q] X.env = (false, eval (.Call (.Name "zip" p2) [a, b] [] q) X.env) :: starEach [] X.env := by rfl) :
    PE X (.Call (.Name "dict" p) [.Call (.Name "zip" p2) [a, b] [] q] [] pos) (tDictZip X.K ta) := by
  refine ⟨fun pins s σ H Q I h => ?_⟩
  refine Call_ (ld_blt I hg hm boot_dict' ?_)
  refine PyProof.Rows.callWith_type1 (PyProof.Rows.args_cons ?_ na) na rfl
  refine Call_ (ld_blt I hg2 hm2 PyProof.Rows.boot_zip (PyProof.Rows.callWith_type1 (thn (ha.run q pins s σ H _ I h) fun us s1 ⟨vs, H1, I1, r1, q1⟩ => ?_) hs hpl))
  obtain ⟨x, y, ks, xs, ex, hx, hy, q1⟩ := q1
  subst ex
  cases r1 with
  | cons r rr =>
    cases rr with
    | cons r' rr =>
      cases rr
      cases r
      cases r'
      obtain ⟨its, rv, p1, l1⟩ := I1.tuple hx
      obtain ⟨its2, rv2, p2, l2⟩ := I1.tuple hy
      obtain ⟨o1, ho1, _⟩ := id p1
      obtain ⟨o2, ho2, _⟩ := id p2
      refine RZ.call_zipT (show s1.heap.IsTuple x its.toArray from p1) (show s1.heap.IsTuple y its2.toArray from p2) fun h' hz hTI hTO h1 h2 hsz hk => ?_
      refine PyProof.Rows.args_nil ?_
      have I2 : Inv X pins σ H1 { s1 with heap := h' } := I1.kept (t' := s1.toks) hk
      obtain ⟨kv, hl, hrel⟩ := zip_kv (P := X.prog) (w := X.w) rv rv2
      have D := PySem.W.ktu_apart s1.heap.objs.size x y (Heap.lt_size ho1) (Heap.lt_size ho2)
      have fr : ∀ c, c ∈ [s1.heap.objs.size + 4, s1.heap.objs.size + 3, s1.heap.objs.size, s1.heap.objs.size + 1] → s1.heap.objs.size ≤ c := fun c m => by
        simp only [List.mem_cons, List.not_mem_nil, or_false] at m
        omega
      refine PySem.call_dict_pairs (knd := mixKind X.prog X.w) (kvs := ks.zip its2) (s := { s1 with heap := h' }) (PLZ.argZip _ _ _ _ _ _ _ D its.toArray its2.toArray) (I2.ok.hd hc)
        ⟨hz, hTI, ⟨_, _, hTO⟩, h1, h2, (show s1.heap.IsTuple x its.toArray from p1).at fun o e => hk _ o e, (show s1.heap.IsTuple y its2.toArray from p2).at fun o e => hk _ o e⟩ ⟨by rw [hl]; simp, fun i k v ⟨e1, e2⟩ => hrel i k v (by simpa using e1) (by simpa using e2)⟩
        (by rw [List.size_toArray, List.size_toArray, ← rv.length]; exact Nat.le_trans (Nat.min_le_left ..) l1) fun h'' tk hd' kk => ?_
      have k2 : ∀ b o, s1.heap.get? b = some o → h''.get? b = some o := fun b o e => kk b o (fun m => absurd (Heap.lt_size e) (Nat.not_lt.mpr (fr b m))) (hk b o e)
      have hle : s1.heap.objs.size ≤ h'.objs.size := by rw [hsz]; exact Nat.le_add_right _ _
      have hlen : (mergeK [] (ks.zip xs)).length ≤ sizeLine := by
        refine Nat.le_trans (length_mergeK _ []) ?_
        rw [List.length_nil, Nat.zero_add, kv.length, hl, ← rv.length]
        exact Nat.le_trans (Nat.min_le_left ..) l1
      have hm' : (h'.objs.size == sysModules) = false := beq_eq_false_iff_ne.mpr (Nat.ne_of_gt (Nat.lt_of_lt_of_le I1.big hle))
      exact ⟨.ref h'.objs.size, upd H1 h'.objs.size (.dK (mergeK [] (ks.zip xs))), I1.laid (t' := tk) k2 hle (show ObjOk X.prog X.w _ _ _ (.dK (mergeK [] (ks.zip xs))) from ⟨hlen, hm', merged [] (ks.zip its2), KV.merge kv .nil, hd'⟩), rfl, q1 _ (I1.hok.fresh hle)⟩
def keysOf : List PV → Option (List Key)
  | [] => some []
  | v :: r => match keyOf v, keysOf r with
    | some k, some ks => some (k :: ks)
    | _, _ => none
def dmerge (kvs : List (Key × PV)) (more : List (Key × PV)) : List (Key × PV) := more.foldl (fun acc p => dput acc p.1 p.2) kvs
def pDictZip (vs : List PV) (st : Store) : Res PV := match vs with
  | [.tup xs, .tup ys] => match keysOf xs with
    | some ks => .ok (.loc st.length) (st ++ [.dic (dmerge [] (ks.zip ys))])
    | none => .stuck
  | _ => .stuck
section
variable {K : PySem.W.Frag} {ω : Wo}
theorem keysOf_rep : ∀ {xs : List PV} {ks : List Key} {ws : List V}, keysOf xs = some ks → Reps K ω xs ws → ws = ks.map kV
  | [], ks, ws, h, r => by cases h; cases r; rfl
  | x :: xs, ks, ws, h, r => by
    unfold keysOf at h
    split at h
    · rename_i k ks' h1 h2
      cases h
      cases r with
      | cons r0 t => rw [key_rep h1 r0, keysOf_rep h2 t]; rfl
    · cases h
theorem RepD.merge {more : List (Key × PV)} {mv : List (Key × V)} (r : RepD K ω more mv) : ∀ {kvs : List (Key × PV)} {vs : List (Key × V)}, RepD K ω kvs vs → RepD K ω (dmerge kvs more) (mergeK vs mv) := by
  induction r with
  | nil => exact fun h => h
  | @cons k x v xs vs r0 _ ih =>
    intro kvs ws h
    exact ih (h.put r0)
theorem RepD.zip : ∀ {ks : List Key} {ys : List PV} {us : List V}, Reps K ω ys us → RepD K ω (ks.zip ys) (ks.zip us)
  | [], _, _, _ => .nil
  | _ :: _, [], _, r => by cases r; exact .nil
  | k :: ks, y :: ys, _, .cons r t => .cons r (RepD.zip t)
end
theorem me_dictZip {X : Cx} {W : WX} {a b : Expr} {f1 f2 : EM} {p p2 q pos : Pos} (hc : X.calm = true) (hg : Gl X "dict") (hm : X.mg "dict" = none) (hg2 : Gl X "zip") (hm2 : X.mg "zip" = none) (ha : ME X W a f1) (hb : ME X W b f2)
    (hs : starEach [a, b] X.env = (false, eval a X.env) :: starEach [b] X.env := by rfl) (hs2 : starEach [b] X.env = (false, eval b X.env) :: starEach [] X.env := by rfl) (hpl : (backTo q (starEach [b] X.env)).any (·.1) = false := by rfl)
    (na : starEach [.Call (.Name "zip" p2) [a, b] [] q] X.env = (false, eval (.Call (.Name "zip" p2) [a, b] [] q) X.env) :: starEach [] X.env := by rfl) :
    ME X W (.Call (.Name "dict" p) [.Call (.Name "zip" p2) [a, b] [] q] [] pos) (eArgs pDictZip (aCons f1 (aCons f2 aNil))) := by
  refine peI (pe_dictZip hc hg hm hg2 hm2 (ma_cons ha (ma_cons hb ma_nil hs2) hs) hs hpl na) ?_
  rintro σ H Q ⟨ω, st, env, wd, re, h⟩
  refine ⟨ω, st, env, wd, re, (After.bind (Rel := RL X.K) h).mono ?_⟩
  rintro x H1 ⟨ω1, st1, vs, e1, wd1, r1, h1⟩
  unfold pDictZip at h1
  split at h1
  · split at h1
    · rename_i ks hk
      cases r1 with
      | cons ra t =>
        cases t with
        | cons rb t =>
          cases t
          cases ra with
          | tup ea rs =>
            cases rb with
            | tup eb rs' =>
              have := keysOf_rep hk rs
              subst this
              refine ⟨_, _, ks, _, rfl, .of (wd1.sub _ _ ea), .of (wd1.sub _ _ eb), fun p hp => ?_⟩
              obtain ⟨w, x⟩ := wd1.nwO hp (.dic (dmerge [] (ks.zip _))) (.dK (mergeK [] (ks.zip _))) fun ω' le => ⟨_, upd_same, ((RepD.zip rs').merge (.nil (K := X.K) (ω := ω1))).mono le⟩
              refine h1 _ _ _ x w (.loc ?_)
              show (ω1.ρ ++ [p])[st1.length]? = some p
              rw [← wd1.len]
              simp
    · exact False.elim h1
  · exact False.elim h1
/-! ### x == y of lists that stand in the store -/
def resv (st : Store) : PV → PV
  | .loc l => match st[l]? with
    | some (.lst xs) => .lst xs
    | _ => .loc l
  | v => v
theorem resv_loc (st : Store) (l : Nat) : (∃ xs, st[l]? = some (.lst xs) ∧ resv st (.loc l) = .lst xs) ∨ resv st (.loc l) = .loc l := by
  unfold resv
  simp only
  cases q : st[l]? with
  | none => exact .inr rfl
  | some o => cases o with
    | lst xs => exact .inl ⟨xs, rfl, rfl⟩
    | _ => exact .inr rfl
theorem resv_lst {st : Store} {v : PV} {xs : List PV} (h : resv st v = .lst xs) : v = .lst xs ∨ ∃ l, v = .loc l ∧ st[l]? = some (.lst xs) := by
  cases v with
  | loc l =>
    rcases resv_loc st l with ⟨ys, q, e1⟩ | e1
    · rw [e1] at h
      cases h
      exact .inr ⟨l, rfl, q⟩
    · rw [e1] at h; cases h
  | lst ys => cases h; exact .inl rfl
  | _ => cases h
theorem resv_reads {X : Cx} {pins : List (Addr × Obj)} {s : Shared} {σ : L2.St} {H : Hp} {ω : Wo} {st : Store} {v : PV} {x : V} {u : Value} (I : Inv X pins σ H s) (wd : Wd X.K ω st H) (r : Rep X.K ω v x) (d : isD (resv st v) = true) (rx : RelV x u) : ∃ as, Reads s.heap u (toD (resv st v)) as := by
  cases v with
  | loc l =>
    rcases resv_loc st l with ⟨xs, q, e1⟩ | e1
    · rw [e1] at d ⊢
      cases r with
      | loc ea =>
        obtain ⟨vs, e, rs⟩ := wd.obj _ _ _ ea q
        exact Dp.reads I _ _ _ (.lst (.of e) (rs.dp wd.sub (by simpa only [isD] using d))) rx
    · rw [e1] at d
      simp only [isD] at d
      cases d
  | _ => exact r.reads I wd d rx
def pEqR (v w : PV) (st : Store) : Res PV := pEq (resv st v) (resv st w) st
def pNeR (v w : PV) (st : Store) : Res PV := pNe (resv st v) (resv st w) st
theorem os_eqR {X : Cx} (hu : X.A.units + 64 < cLine) : OpS X (compareOp .Eq) pEqR := .mk' fun pins s σ H x y v u Q E ω st a b I rx ry wd ra rb h => by
  unfold pEqR pEq at h
  split at h
  · rename_i hz
    obtain ⟨da, db, hd⟩ := hz
    obtain ⟨as, r1⟩ := resv_reads I wd ra da rx
    obtain ⟨bs, r2⟩ := resv_reads I wd rb db ry
    exact PySem.SeqAt.eq_plain r1 r2 (plain_toD _) (plain_toD _) (by omega) ⟨.bl _, H, I, rfl, h.ok_here wd (.bl _)⟩
  · exact False.elim h
theorem os_neR {X : Cx} (hu : X.A.units + 64 < cLine) : OpS X (compareOp .NotEq) pNeR := .mk' fun pins s σ H x y v u Q E ω st a b I rx ry wd ra rb h => by
  unfold pNeR pNe at h
  split at h
  · rename_i hz
    obtain ⟨da, db, hd⟩ := hz
    obtain ⟨as, r1⟩ := resv_reads I wd ra da rx
    obtain ⟨bs, r2⟩ := resv_reads I wd rb db ry
    exact PySem.SeqAt.ne_plain r1 r2 (plain_toD _) (plain_toD _) (by omega) ⟨.bl _, H, I, rfl, h.ok_here wd (.bl _)⟩
  · exact False.elim h
/-! ### methods of lists -/
def pPopAt (v : PV) (vs : List PV) (st : Store) : Res PV := match v, vs with
  | .loc l, [.int i] => match st[l]? with
    | some (.lst xs) => if -(2 ^ 63) ≤ i ∧ i < 2 ^ 63 then match seqIndex? i xs.length with
      | some k => match xs[k]? with
        | some y => .ok y (st.set l (.lst (xs.eraseIdx k)))
        | none => .stuck
      | none => .stuck
      else .stuck
    | _ => .stuck
  | _, _ => .stuck
def pExtend (v : PV) (vs : List PV) (st : Store) : Res PV := match v, vs with
  | .loc l, [w] => match st[l]?, resv st w with
    | some (.lst xs), .lst ys => if xs.length + ys.length ≤ sizeLine then .ok .non (st.set l (.lst (xs ++ ys))) else .stuck
    | _, _ => .stuck
  | _, _ => .stuck
theorem Reps.eraseIdx {K : PySem.W.Frag} {ω : Wo} : ∀ {xs : List PV} {vs : List V} (k : Nat), Reps K ω xs vs → Reps K ω (xs.eraseIdx k) (vs.eraseIdx k)
  | _, _, _, .nil => .nil
  | _, _, 0, .cons _ t => t
  | _, _, k + 1, .cons r t => .cons r (Reps.eraseIdx k t)
theorem ty_list {X : Cx} {ω : Wo} {st : Store} {H : Hp} {v : PV} {x : V} (wd : Wd X.K ω st H) (r : Rep X.K ω v x) (h : isListP v st = true) : tyV X.K "list" x H := by
  unfold isListP at h
  split at h
  · split at h
    · rename_i q
      cases r with
      | loc ea =>
        obtain ⟨ws, e, _⟩ := wd.obj _ _ _ ea q
        exact .inl ⟨rfl, _, .of e⟩
    · cases h
  · cases h
section
variable {X : Cx}
theorem mts_popAt : MtS X "list" "list.pop" isListP pPopAt := by
  refine ⟨rPopAt, mt_popAt, fun ω st H v x wd r h => ty_list wd r h, fun E ω st H v x vs xs Q wd rv rs h => ?_⟩
  unfold pPopAt at h
  split at h
  · split at h
    · rename_i q
      split at h
      · rename_i hb
        split at h
        · rename_i k hk
          split at h
          · rename_i y hy
            cases rv with
            | loc ea =>
              cases rs with
              | cons ri t =>
                cases t
                cases ri
                obtain ⟨ws, e, rw'⟩ := wd.obj _ _ _ ea q
                obtain ⟨u, hu, ru⟩ := rw'.get hy
                obtain ⟨w, x⟩ := wd.wr ea e (rw'.eraseIdx k)
                exact ⟨_, ws, _, k, u, rfl, rfl, e, hb.1, hb.2, by rw [← rw'.length]; exact hk, hu, h _ _ _ x w ru⟩
          · exact False.elim h
        · exact False.elim h
      · exact False.elim h
    · exact False.elim h
  · exact False.elim h
theorem mts_extend : MtS X "list" "list.extend" isListP pExtend := by
  refine ⟨rExtend, mt_extend, fun ω st H v x wd r h => ty_list wd r h, fun E ω st H v x vs xs Q wd rv rs h => ?_⟩
  unfold pExtend at h
  split at h
  · rename_i l wv
    split at h
    · rename_i as bs q q2
      split at h
      · rename_i hz
        cases rv with
        | loc ea =>
          cases rs with
          | cons rb t =>
            cases t
            obtain ⟨ws, e, rw'⟩ := wd.obj _ _ _ ea q
            rename_i v0
            obtain ⟨b, us, rfl, eb, rb'⟩ : ∃ b us, v0 = V.ref b ∧ H b = some (.lst us) ∧ Reps X.K ω bs us := by
              rcases resv_lst q2 with rfl | ⟨l', rfl, q3⟩
              · cases rb with
                | lst eb r2 => exact ⟨_, _, rfl, wd.sub _ _ eb, r2⟩
              · cases rb with
                | loc eb =>
                  obtain ⟨us, e2, r2⟩ := wd.obj _ _ _ eb q3
                  exact ⟨_, us, rfl, e2, r2⟩
            obtain ⟨w, x⟩ := wd.wr ea e (rw'.append rb')
            exact ⟨_, b, ws, us, rfl, rfl, e, eb, by rw [← rw'.length, ← rb'.length]; exact hz, h _ _ _ x w .non⟩
      · exact False.elim h
    · exact False.elim h
  · exact False.elim h
end
/-! ### list * int -/
theorem op_repL {X : Cx} : OpR X (binaryOp .Mult) (fun x y H Q => ∃ (l : Addr) (k : Int) (xs : List V), x = .ref l ∧ y = .int k ∧ SqL X.K H l xs ∧ 0 ≤ k ∧ k ≤ 1000 ∧ xs.length ≤ 1000 ∧ ∀ p, H p = none → Q (.ref p) (upd H p (.lst (List.replicate k.toNat xs).flatten))) := by
  intro pins s σ H x y v u Q I rx ry h
  obtain ⟨l, k, xs, rfl, rfl, hL, h1, h2, hz, q⟩ := h
  cases rx
  obtain ⟨t, rfl⟩ := ry
  obtain ⟨its, r, ⟨o, n, ho, hc, hdn, hd⟩, hs⟩ := I.list hL
  have hle : its.length = xs.length := r.length.symm
  have hem : (List.replicate (if its.toArray.isEmpty = true then 0 else k.toNat) its).flatten = (List.replicate k.toNat its).flatten := by
    cases its with
    | nil => simp
    | cons a b => rfl
  have hsz : its.toArray.size * k.toNat ≤ 1000000 := by
    rw [List.size_toArray, hle]
    have a1 : xs.length * k.toNat ≤ 1000 * 1000 := Nat.mul_le_mul hz (by omega)
    omega
  have hsz2 : its.length * k.toNat ≤ 1000000 := by simpa using hsz
  obtain ⟨cls, dct, dat, sl⟩ := o
  simp only at hc hdn hd
  subst hc hdn hd
  have slN : sl = #[] ∨ True := .inr trivial
  refine wpAny_binaryOp_repeat_ref (T := "list") (U := "int") (by decide) ⟨_, ho, rfl⟩ (fun s' => typeIs_int s' k t) noFill_list_mul PySem.F.fills_int_mul PySem.F.slot_int_rmul repeat_list PySem.F.slot_int_index.lookup
    (call_meets PySem.F.slot_int_rmul (typeIs_int s k t) PySem.F.entry_int_rmul (PySem.F.args_int_rmul_2 _ _) (lm_int_rmul_list_any k t l its.toArray n none sl)
      ⟨ho, rfl, ⟨_, ho, rfl⟩, call_meets PySem.F.slot_list_mul ⟨_, ho, rfl⟩ PySem.F.entry_list_mul (PySem.F.args_list_mul_2 _ _)
        (lm_list_mul_any l its.toArray n none sl k t (by simp [Builtin.List.listFitsIndex]; omega) (by omega) (by simp [Builtin.List.listTooLong, sizeLine_eq]; omega))
        ⟨ho, ?_⟩⟩)
  rw [size_rep, hem]
  have flen : (List.replicate k.toNat its).flatten.length ≤ sizeLine := by
    rw [PyProof.Rows.lm_len_rep_flat, hle, sizeLine_eq]
    have a1 : k.toNat * xs.length ≤ 1000 * 1000 := Nat.mul_le_mul (by omega) hz
    omega
  refine ⟨.ref s.heap.objs.size, _, I.laid (t' := s.toks) (o := .lst (List.replicate k.toNat xs).flatten) (fun b ob q => Heap.get?_push_of_some _ q) (Nat.le_refl _) ?_, rfl, q _ (I.hok.fresh (Nat.le_refl _))⟩
  have r2 := r.rep k.toNat
  exact ⟨by rw [r2.length]; exact flen, _, _, r2, Heap.get?_push_size _ rfl⟩
def pMulL (v w : PV) (st : Store) : Res PV := match v, w with
  | .lst xs, .int k => if 0 ≤ k ∧ k ≤ 1000 ∧ xs.length ≤ 1000 then .ok (.lst (List.replicate k.toNat xs).flatten) st else .stuck
  | v, w => pMul v w st
theorem os_mulL {X : Cx} : OpS X (binaryOp .Mult) pMulL := by
  obtain ⟨r, hr, hi⟩ := os_mul (X := X)
  refine ⟨fun x y H Q => (∃ (l : Addr) (k : Int) (xs : List V), x = .ref l ∧ y = .int k ∧ SqL X.K H l xs ∧ 0 ≤ k ∧ k ≤ 1000 ∧ xs.length ≤ 1000 ∧ ∀ p, H p = none → Q (.ref p) (upd H p (.lst (List.replicate k.toNat xs).flatten))) ∨ r x y H Q, fun pins s σ H x y v u Q I rx ry h => ?_, fun E ω st H v w x y Q wd rv rw' h => ?_⟩
  · rcases h with h | h
    · exact op_repL pins s σ H x y v u Q I rx ry h
    · exact hr pins s σ H x y v u Q I rx ry h
  · unfold pMulL at h
    split at h
    · split at h
      · rename_i hz
        cases rv with
        | lst ea rs =>
          cases rw'
          exact .inl ⟨_, _, _, rfl, rfl, .of (wd.sub _ _ ea), hz.1, hz.2.1, by rw [← rs.length]; exact hz.2.2, new_lst wd (rs.replicate _) h⟩
      · exact False.elim h
    · exact .inr (hi E ω st H _ _ x y Q wd rv rw' h)
/-! ### a, b, c = x, y, z -/
def sPar3 (i j l : Nat) (fs : AM) : SM := fun env st => sOf (fs env st) env fun vs st1 => match vs with
  | [u, v, w] => .nx (((env.set i (some u)).set j (some v)).set l (some w)) st1
  | _ => .stuck
theorem ms_par3 {X : Cx} {W : WX} {i j l : Nat} {x y z : Str} {a b c : Expr} {fs : AM} {px py pz pt pos : Pos} {kt k2 pt2} (hc : X.calm = true) (hN : X.N.Nodup) (hij : i ≠ j) (hil : i ≠ l) (hjl : j ≠ l) (ha : MA X W [a, b, c] fs)
    (hi : X.N[i]? = some x := by rfl) (hj : X.N[j]? = some y := by rfl) (hl : X.N[l]? = some z := by rfl)
    (hx : X.env.scope.names.lookup x = some .local := by rfl) (hy : X.env.scope.names.lookup y = some .local := by rfl) (hz : X.env.scope.names.lookup z = some .local := by rfl)
    (hw : swappedStores [.Tuple [.Name x px, .Name y py, .Name z pz] kt pt] (.Tuple [a, b, c] k2 pt2) X.env = pure (some [x, y, z]) := by rfl)
    (hs : swapsWithSole [.Tuple [.Name x px, .Name y py, .Name z pz] kt pt] (.Tuple [a, b, c] k2 pt2) pos.line X.env = pure false := by rfl) :
    MS X W (.Assign [.Tuple [.Name x px, .Name y py, .Name z pz] kt pt] (.Tuple [a, b, c] k2 pt2) pos) (sPar3 i j l fs) := by
  refine psI (ps_par3 hc hN hi hj hl hij hil hjl hx hy hz ha hw hs) ?_
  rintro D σ H ⟨ω, st, env, wd, re, h⟩
  refine ⟨ω, st, env, wd, re, (h.bind (Rel := RL X.K) re).mono ?_⟩
  rintro ys H1 ⟨ω1, st1, vs, e1, wd1, r1, h1⟩
  split at h1
  · cases r1 with
    | cons ru r =>
      cases r with
      | cons rv r =>
        cases r with
        | cons rw' r =>
          cases r
          exact ⟨_, _, _, rfl, h1.nx_here wd1 ((((re.mono e1.le).set ru i).set rv j).set rw' l)⟩
  · exact False.elim h1
end PL
/-! PL, part od: the methods of the text. -/
namespace PL
open PySem PySem.Spec PyProof.Rows L2
structure MethOf (K : PySem.W.Frag) (C : Nat) (m qual : Str) (st : Stmt) (ps : List Str) : Prop where
  ex : ∃ f fd, Fun K m qual st f fd ∧ Meth K C m f ∧ Binds K fd ps []
structure InitOf (K : PySem.W.Frag) (mg : Str → Option Value) (x : Str) (C : Nat) (qual : Str) (st : Stmt) (ps : List Str) : Prop where
  ex : ∃ f fd, Fun K "__init__" qual st f fd ∧ Mk K C f ∧ Binds K fd ps [] ∧ mg x = some (.ref C)
structure CallOf (K : PySem.W.Frag) (C : Nat) (qual : Str) (st : Stmt) (ps : List Str) : Prop where
  ex : ∃ f fd, Fun K "__call__" qual st f fd ∧ StX.CallO K C f ∧ Binds K fd ps []
structure PropOfC (K : PySem.W.Frag) (C : Nat) (m qual : Str) (st : Stmt) (ps : List Str) : Prop where
  ex : ∃ p f fd, Fun K m qual st f fd ∧ PropOf K C m p f ∧ Binds K fd ps [] ∧ ps.length = 1
section
variable {P : Program} {w : World} {K : PySem.W.Frag} {mg : Str → Option Value} {base : Heap} {C : Nat} {m qual x : Str} {st : Stmt} {N ps : List Str} {k : Nat} {fm : SM}
theorem has_ofM (d : MethOf K C m qual st ps) (S : FnScope N ps (defScope st))
    (hbody : ∀ {f : Addr} (cdv : Value) (A : Around) (outer : List Env) (s : Shared) (H : Hp) (E : XK), Room k (A.deeper (envOfC qual (defScope st) s.heap.objs.size f cdv)) →
      MB (cxOf CX0 P w K mg base N qual (defScope st) f cdv A outer s H E).nox W0 (defBody st) fm) : HasM P w K mg base C m ps (k + 1) (runBody N.length fm) := by
  obtain ⟨f, fd, F, hM, hb⟩ := d.ex
  exact ⟨f, fd, okP F S fun cdv A outer s H E hr => hbody cdv A outer s H E hr, hM, hb⟩
theorem has_ofI (d : InitOf K mg x C qual st ps) (S : FnScope N ps (defScope st))
    (hbody : ∀ {f : Addr} (cdv : Value) (A : Around) (outer : List Env) (s : Shared) (H : Hp) (E : XK), Room k (A.deeper (envOfC qual (defScope st) s.heap.objs.size f cdv)) →
      MB (cxOf CX0 P w K mg base N qual (defScope st) f cdv A outer s H E).nox W0 (defBody st) fm) : HasI P w K mg base x C ps (k + 1) (runBody N.length fm) := by
  obtain ⟨f, fd, F, hM, hb, hg⟩ := d.ex
  exact ⟨f, fd, okP F S fun cdv A outer s H E hr => hbody cdv A outer s H E hr, hM, hb, hg⟩
theorem has_ofC (d : CallOf K C qual st ps) (S : FnScope N ps (defScope st))
    (hbody : ∀ {f : Addr} (cdv : Value) (A : Around) (outer : List Env) (s : Shared) (H : Hp) (E : XK), Room k (A.deeper (envOfC qual (defScope st) s.heap.objs.size f cdv)) →
      MB (cxOf CX0 P w K mg base N qual (defScope st) f cdv A outer s H E).nox W0 (defBody st) fm) : HasC P w K mg base C ps (k + 1) (runBody N.length fm) := by
  obtain ⟨f, fd, F, hM, hb⟩ := d.ex
  exact ⟨f, fd, okP F S fun cdv A outer s H E hr => hbody cdv A outer s H E hr, hM, hb⟩
theorem has_ofP (d : PropOfC K C m qual st ps) (S : FnScope N ps (defScope st))
    (hbody : ∀ {f : Addr} (cdv : Value) (A : Around) (outer : List Env) (s : Shared) (H : Hp) (E : XK), Room k (A.deeper (envOfC qual (defScope st) s.heap.objs.size f cdv)) →
      MB (cxOf CX0 P w K mg base N qual (defScope st) f cdv A outer s H E).nox W0 (defBody st) fm) : HasP P w K mg base C m ps (k + 1) (runBody N.length fm) := by
  obtain ⟨p, f, fd, F, hM, hb, h1⟩ := d.ex
  exact ⟨p, f, fd, okP F S fun cdv A outer s H E hr => hbody cdv A outer s H E hr, hM, hb, h1⟩
end
/-! ### k in d -/
theorem RepD.some? {K : PySem.W.Frag} {ω : Wo} {xs : List (Key × PV)} {vs : List (Key × V)} (r : RepD K ω xs vs) (k : Key) : (valV vs k).isSome = (dget xs k).isSome := by
  induction r with
  | nil => rfl
  | @cons j y v xs vs r0 _ ih =>
    unfold dget
    by_cases e : j = k
    · rw [if_pos e, valV_pos (p := (j, v)) e]; rfl
    · rw [if_neg e, valV_neg (p := (j, v)) e]; exact ih
def pInK (v w : PV) (st : Store) : Res PV := match dicOf st w with
  | some kvs => match keyOf v with
    | some k => .ok (.bl (dget kvs k).isSome) st
    | none => .stuck
  | none => pIn v w st
def pNotInK (v w : PV) (st : Store) : Res PV := match dicOf st w with
  | some kvs => match keyOf v with
    | some k => .ok (.bl (!(dget kvs k).isSome)) st
    | none => .stuck
  | none => pNotIn v w st
section
variable {X : Cx}
theorem os_inK (hu : X.A.units + 64 < cLine) : OpS X (compareOp .In) pInK := by
  obtain ⟨r, hr, hi⟩ := os_in (X := X) hu
  refine ⟨fun x y H Q => (∃ a ov, y = .ref a ∧ DGet H a x ov ∧ Q (.bl ov.isSome) H) ∨ r x y H Q, fun pins s σ H x y v u Q I rx ry h => ?_, fun E ω st H v w x y Q wd rv rw' h => ?_⟩
  · rcases h with ⟨a, ov, rfl, g, q⟩ | h
    · cases ry
      exact d_in (by omega) I g rx fun s3 I3 => ⟨.bl ov.isSome, H, I3, rfl, q⟩
    · exact hr pins s σ H x y v u Q I rx ry h
  · unfold pInK at h
    split at h
    · rename_i kvs hd
      split at h
      · rename_i k hk
        obtain ⟨a, vs, rfl, rd, rp⟩ := dicOf_rep wd rw' hd
        exact .inl ⟨a, valV vs k, rfl, .inl ⟨vs, k, rd, key_rep hk rv, rfl⟩, by rw [rp.some? k]; exact h.ok_here wd (.bl _)⟩
      · exact False.elim h
    · exact .inr (hi E ω st H v w x y Q wd rv rw' h)
theorem os_notInK (hu : X.A.units + 64 < cLine) : OpS X (compareOp .NotIn) pNotInK := by
  obtain ⟨r, hr, hi⟩ := os_notIn (X := X) hu
  refine ⟨fun x y H Q => (∃ a ov, y = .ref a ∧ DGet H a x ov ∧ Q (.bl (!ov.isSome)) H) ∨ r x y H Q, fun pins s σ H x y v u Q I rx ry h => ?_, fun E ω st H v w x y Q wd rv rw' h => ?_⟩
  · rcases h with ⟨a, ov, rfl, g, q⟩ | h
    · cases ry
      exact d_notIn (by omega) I g rx fun s3 I3 => ⟨.bl (!ov.isSome), H, I3, rfl, q⟩
    · exact hr pins s σ H x y v u Q I rx ry h
  · unfold pNotInK at h
    split at h
    · rename_i kvs hd
      split at h
      · rename_i k hk
        obtain ⟨a, vs, rfl, rd, rp⟩ := dicOf_rep wd rw' hd
        exact .inl ⟨a, valV vs k, rfl, .inl ⟨vs, k, rd, key_rep hk rv, rfl⟩, by rw [rp.some? k]; exact h.ok_here wd (.bl _)⟩
      · exact False.elim h
    · exact .inr (hi E ω st H v w x y Q wd rv rw' h)
end
end PL
/-! printed by gen.py: the plain evaluators -/
namespace PL
open PySem PySem.Spec PyProof.Rows L2
noncomputable section
/-- the defs that are given as arguments: a table, and where they stand; own classes -/
structure Fv where
  c_Agent : Nat
  c_Referee : Nat
  c_Run : Nat
abbrev N_row_of : List Str := ["game", "name", "row"]
def f_row_of : SM :=
  (sSeq (sFor (iVal (eBin pIx (eVar 0) (eC (.int 0)))) (.one 2)
    (sIf (eTest (eBin pEq (eBin pIx (eVar 2) (eC (.int 0))) (eVar 1))) (sRet (eVar 2)) sNil))
    (sRet (eC .non)))
def m_row_of : List PV → Store → Res PV := runBody 3 f_row_of
abbrev N_sets_of : List Str := ["game", "owner", "row"]
def f_sets_of : SM :=
  (sRet (eArgs (one pTuple) (aCons (eComp [2] (iVal (eBin pIx (eVar 0) (eC (.int 0)))) (.one 2) (eTest (eBin pEq (eBin pIx (eVar 2) (eC (.int 1))) (eVar 1))) (eBin pIx (eVar 2) (eC (.int 0)))) aNil)))
def m_sets_of : List PV → Store → Res PV := runBody 3 f_sets_of
abbrev N_choice_of : List Str := ["game", "owner", "strategy"]
def f_choice_of : SM :=
  (sRet (eArgs pDictZip (aCons (eCall 2 m_sets_of (aCons (eVar 0) (aCons (eVar 1) aNil))) (aCons (eVar 2) aNil))))
def m_choice_of : List PV → Store → Res PV := runBody 3 f_choice_of
abbrev N_node_at : List Str := ["tree", "path", "node", "move"]
def f_node_at : SM :=
  (sSeq (sSet 2 (eVar 0))
    (sSeq (sFor (iVal (eVar 1)) (.one 3)
    (sSeq (sIf (tOrM (eTest (eArgs (pIsi) (aCons (eVar 2) (aCons (eC (.con (.ty "str"))) aNil)))) (tNotM (eTest (eChain pLe pLt (eC (.int 0)) (eVar 3) (eArgs (one pLen) (aCons (eBin pIx (eVar 2) (eC (.int 1))) aNil)))))) sStuckM sNil)
    (sSet 2 (eBin pIx (eBin pIx (eVar 2) (eC (.int 1))) (eVar 3)))))
    (sRet (eVar 2))))
def m_node_at : List PV → Store → Res PV := runBody 4 f_node_at
abbrev N_Agent_init : List Str := ["self", "game", "owner", "strategy"]
def f_Agent_init (V : Fv) : SM :=
  (sSeq (sFldM V.c_Agent "_owner" (eVar 0) (eVar 2))
    (sSeq (sFldM V.c_Agent "_moves" (eVar 0) (eCall 3 m_choice_of (aCons (eVar 1) (aCons (eVar 2) (aCons (eVar 3) aNil)))))
    (sFldM V.c_Agent "journal" (eVar 0) (eArgs mkTup aNil))))
def m_Agent_init (V : Fv) : List PV → Store → Res PV := runBody 4 (f_Agent_init V)
abbrev N_Agent_call : List Str := ["self", "letter", "name", "move", "pair"]
def f_Agent_call (V : Fv) : SM :=
  (sSeq (sIf (tOrM (eTest (eBin pNe (eBin pIxD (eVar 1) (eC (.int 0))) (eC (.str "ask")))) (tOrM (eTest (eBin pNe (eBin pIxD (eVar 1) (eC (.int 1))) (eFld V.c_Agent "_owner" (eVar 0)))) (eTest (eBin pNotInK (eBin pIxD (eVar 1) (eC (.int 2))) (eFld V.c_Agent "_moves" (eVar 0)))))) (sRet (eC .non)) sNil)
    (sSeq (sSet 2 (eBin pIxD (eVar 1) (eC (.int 2))))
    (sSeq (sSet 3 (eBin pIxD (eFld V.c_Agent "_moves" (eVar 0)) (eVar 2)))
    (sSeq (sIf (eTest (eBin pNotInK (eVar 2) (eComp [4] (iVal (eFld V.c_Agent "journal" (eVar 0))) (.one 4) tYesM (eBin pIxD (eVar 4) (eC (.int 0)))))) (sFldM V.c_Agent "journal" (eVar 0) (eBin pAdd (eFld V.c_Agent "journal" (eVar 0)) (eArgs mkTup (aCons (eArgs mkTup (aCons (eVar 2) (aCons (eVar 3) aNil))) aNil)))) sNil)
    (sRet (eArgs mkTup (aCons (eC (.str "answer")) (aCons (eFld V.c_Agent "_owner" (eVar 0)) (aCons (eVar 2) (aCons (eVar 3) aNil))))))))))
def m_Agent_call (V : Fv) : List PV → Store → Res PV := runBody 5 (f_Agent_call V)
abbrev N_Referee_init : List Str := ["self", "game"]
def f_Referee_init (V : Fv) : SM :=
  (sSeq (sFldM V.c_Referee "_game" (eVar 0) (eVar 1))
    (sFldM V.c_Referee "journal" (eVar 0) (eArgs mkTup aNil)))
def m_Referee_init (V : Fv) : List PV → Store → Res PV := runBody 2 (f_Referee_init V)
abbrev N_Referee_place : List Str := ["self", "pair"]
def f_Referee_place (V : Fv) : SM :=
  (sRet (eArgs (one pTuple) (aCons (eComp [1] (iVal (eFld V.c_Referee "journal" (eVar 0))) (.one 1) tYesM (eBin pIx (eVar 1) (eC (.int 1)))) aNil)))
def m_Referee_place (V : Fv) : List PV → Store → Res PV := runBody 2 (f_Referee_place V)
abbrev N_Referee_ending : List Str := ["self", "node"]
def f_Referee_ending (V : Fv) : SM :=
  (sSeq (sSet 1 (eCall 2 m_node_at (aCons (eBin pIx (eFld V.c_Referee "_game" (eVar 0)) (eC (.int 1))) (aCons (ePropO V.c_Referee (m_Referee_place V) (eVar 0)) aNil))))
    (sSeq (sIf (eTest (eArgs (pIsi) (aCons (eVar 1) (aCons (eC (.con (.ty "str"))) aNil)))) (sRet (eVar 1)) sNil)
    (sRet (eC .non))))
def m_Referee_ending (V : Fv) : List PV → Store → Res PV := runBody 2 (f_Referee_ending V)
abbrev N_Referee_ask : List Str := ["self", "node"]
def f_Referee_ask (V : Fv) : SM :=
  (sSeq (sSet 1 (eCall 2 m_node_at (aCons (eBin pIx (eFld V.c_Referee "_game" (eVar 0)) (eC (.int 1))) (aCons (ePropO V.c_Referee (m_Referee_place V) (eVar 0)) aNil))))
    (sSeq (sIf (eTest (eArgs (pIsi) (aCons (eVar 1) (aCons (eC (.con (.ty "str"))) aNil)))) (sRet (eC .non)) sNil)
    (sRet (eArgs mkTup (aCons (eC (.str "ask")) (aCons (eBin pIx (eCall 2 m_row_of (aCons (eFld V.c_Referee "_game" (eVar 0)) (aCons (eBin pIx (eVar 1) (eC (.int 0))) aNil))) (eC (.int 1))) (aCons (eBin pIx (eVar 1) (eC (.int 0))) aNil)))))))
def m_Referee_ask (V : Fv) : List PV → Store → Res PV := runBody 2 (f_Referee_ask V)
abbrev N_Referee_hear : List Str := ["self", "letter", "node", "name", "owner", "weights"]
def f_Referee_hear (V : Fv) : SM :=
  (sSeq (sSet 2 (eCall 2 m_node_at (aCons (eBin pIx (eFld V.c_Referee "_game" (eVar 0)) (eC (.int 1))) (aCons (ePropO V.c_Referee (m_Referee_place V) (eVar 0)) aNil))))
    (sSeq (sIf (tOrM (eTest (eArgs (pIsi) (aCons (eVar 2) (aCons (eC (.con (.ty "str"))) aNil)))) (tOrM (eTest (eBin pNe (eBin pIx (eVar 1) (eC (.int 0))) (eC (.str "answer")))) (eTest (eBin pNe (eBin pIx (eVar 1) (eC (.int 2))) (eBin pIx (eVar 2) (eC (.int 0))))))) (sRet (eC (.bl false))) sNil)
    (sSeq (sTg (.tup [3, 4, 5]) (eCall 2 m_row_of (aCons (eFld V.c_Referee "_game" (eVar 0)) (aCons (eBin pIx (eVar 2) (eC (.int 0))) aNil))))
    (sSeq (sIf (tOrM (eTest (eBin pNe (eBin pIx (eVar 1) (eC (.int 1))) (eVar 4))) (tNotM (eTest (eChain pLe pLt (eC (.int 0)) (eBin pIx (eVar 1) (eC (.int 3))) (eArgs (one pLen) (aCons (eVar 5) aNil)))))) (sRet (eC (.bl false))) sNil)
    (sSeq (sFldM V.c_Referee "journal" (eVar 0) (eBin pAdd (eFld V.c_Referee "journal" (eVar 0)) (eArgs mkTup (aCons (eArgs mkTup (aCons (eVar 3) (aCons (eBin pIx (eVar 1) (eC (.int 3))) aNil))) aNil))))
    (sRet (eC (.bl true))))))))
def m_Referee_hear (V : Fv) : List PV → Store → Res PV := runBody 6 (f_Referee_hear V)
abbrev N_Run_send : List Str := ["self", "letter"]
def f_Run_send (V : Fv) : SM :=
  (sIf (eTest (eBin pIsNot (eVar 1) (eC .non))) (sFldM V.c_Run "bag" (eVar 0) (eBin pAdd (eFld V.c_Run "bag" (eVar 0)) (eArgs mkTup (aCons (eVar 1) aNil)))) sNil)
def m_Run_send (V : Fv) : List PV → Store → Res PV := runBody 2 (f_Run_send V)
abbrev N_Run_init : List Str := ["self", "game", "profile", "owner"]
def f_Run_init (V : Fv) : SM :=
  (sSeq (sFldM V.c_Run "_referee" (eVar 0) (eMake V.c_Referee 2 (m_Referee_init V) (aCons (eVar 1) aNil)))
    (sSeq (sFldM V.c_Run "_agents" (eVar 0) (eArgs (one pTuple) (aCons (eComp [3] (iRange1 (eC (.int 3))) (.one 3) tYesM (eMake V.c_Agent 4 (m_Agent_init V) (aCons (eVar 1) (aCons (eVar 3) (aCons (eBin pIx (eVar 2) (eVar 3)) aNil))))) aNil)))
    (sSeq (sFldM V.c_Run "bag" (eVar 0) (eArgs mkTup aNil))
    (sExpr (eMethO V.c_Run "_send" 2 (m_Run_send V) (eVar 0) (aCons (eMethO V.c_Referee "ask" 1 (m_Referee_ask V) (eFld V.c_Run "_referee" (eVar 0)) aNil) aNil))))))
def m_Run_init (V : Fv) : List PV → Store → Res PV := runBody 4 (f_Run_init V)
abbrev N_Run_record : List Str := ["self"]
def f_Run_record (V : Fv) : SM :=
  (sRet (eFld V.c_Referee "journal" (eFld V.c_Run "_referee" (eVar 0))))
def m_Run_record (V : Fv) : List PV → Store → Res PV := runBody 1 (f_Run_record V)
abbrev N_Run_ending : List Str := ["self"]
def f_Run_ending (V : Fv) : SM :=
  (sRet (ePropO V.c_Referee (m_Referee_ending V) (eFld V.c_Run "_referee" (eVar 0))))
def m_Run_ending (V : Fv) : List PV → Store → Res PV := runBody 1 (f_Run_ending V)
abbrev N_Run_view : List Str := ["self", "owner", "agent", "pair"]
def f_Run_view (V : Fv) : SM :=
  (sSeq (sSet 2 (eBin pIx (eFld V.c_Run "_agents" (eVar 0)) (eVar 1)))
    (sRet (eArgs (one pTuple) (aCons (eComp [3] (iVal (eFld V.c_Agent "journal" (eVar 2))) (.one 3) tYesM (eBin pIx (eVar 3) (eC (.int 0)))) aNil))))
def m_Run_view (V : Fv) : List PV → Store → Res PV := runBody 4 (f_Run_view V)
abbrev N_Run_deliver : List Str := ["self", "letter", "agent"]
def f_Run_deliver (V : Fv) : SM :=
  (sIf (eTest (eBin pEq (eBin pIx (eVar 1) (eC (.int 0))) (eC (.str "ask")))) (sSeq (sSet 2 (eBin pIx (eFld V.c_Run "_agents" (eVar 0)) (eBin pIx (eVar 1) (eC (.int 1)))))
    (sExpr (eMethO V.c_Run "_send" 2 (m_Run_send V) (eVar 0) (aCons (eCallO V.c_Agent 2 (m_Agent_call V) (eVar 2) (aCons (eVar 1) aNil)) aNil)))) (sIf (eTest (eMethO V.c_Referee "hear" 2 (m_Referee_hear V) (eFld V.c_Run "_referee" (eVar 0)) (aCons (eVar 1) aNil))) (sExpr (eMethO V.c_Run "_send" 2 (m_Run_send V) (eVar 0) (aCons (eMethO V.c_Referee "ask" 1 (m_Referee_ask V) (eFld V.c_Run "_referee" (eVar 0)) aNil) aNil))) sNil))
def m_Run_deliver (V : Fv) : List PV → Store → Res PV := runBody 3 (f_Run_deliver V)
abbrev N_Run_happen : List Str := ["self", "event", "letter", "kind", "index"]
def f_Run_happen (V : Fv) : SM :=
  (sSeq (sIf (eTest (eBin pEq (eBin pIx (eVar 1) (eC (.int 0))) (eC (.str "restart")))) (sSeq (sExpr (eMethO V.c_Run "_send" 2 (m_Run_send V) (eVar 0) (aCons (eMethO V.c_Referee "ask" 1 (m_Referee_ask V) (eFld V.c_Run "_referee" (eVar 0)) aNil) aNil)))
    (sRet (eC (.bl true)))) sNil)
    (sSeq (sTg (.tup [3, 4]) (eVar 1))
    (sSeq (sIf (tNotM (eTest (eChain pLe pLt (eC (.int 0)) (eVar 4) (eArgs (one pLen) (aCons (eFld V.c_Run "bag" (eVar 0)) aNil))))) (sRet (eC (.bl false))) sNil)
    (sSeq (sSet 2 (eBin pIx (eFld V.c_Run "bag" (eVar 0)) (eVar 4)))
    (sSeq (sIf (eTest (eBin pNe (eVar 3) (eC (.str "copy")))) (sFldM V.c_Run "bag" (eVar 0) (eBin pAdd (eSl pSl (eFld V.c_Run "bag" (eVar 0)) oNone (oSome (eVar 4))) (eSl pSl (eFld V.c_Run "bag" (eVar 0)) (oSome (eBin pAdd (eVar 4) (eC (.int 1)))) oNone))) sNil)
    (sSeq (sIf (eTest (eBin pNe (eVar 3) (eC (.str "lose")))) (sExpr (eMethO V.c_Run "_deliver" 2 (m_Run_deliver V) (eVar 0) (aCons (eVar 2) aNil))) sNil)
    (sRet (eC (.bl true)))))))))
def m_Run_happen (V : Fv) : List PV → Store → Res PV := runBody 5 (f_Run_happen V)
abbrev N_Run_finish : List Str := ["self", "letter", "agent"]
def f_Run_finish (V : Fv) : SM :=
  (sSeq (sWhileL (eTest (eBin pIs (ePropO V.c_Run (m_Run_ending V) (eVar 0)) (eC .non)))
    (sSeq (sSet 1 (eMethO V.c_Referee "ask" 1 (m_Referee_ask V) (eFld V.c_Run "_referee" (eVar 0)) aNil))
    (sSeq (sSet 2 (eBin pIx (eFld V.c_Run "_agents" (eVar 0)) (eBin pIx (eVar 1) (eC (.int 1)))))
    (sExpr (eMethO V.c_Referee "hear" 2 (m_Referee_hear V) (eFld V.c_Run "_referee" (eVar 0)) (aCons (eCallO V.c_Agent 2 (m_Agent_call V) (eVar 2) (aCons (eVar 1) aNil)) aNil))))) 1000)
    (sRet (ePropO V.c_Run (m_Run_ending V) (eVar 0))))
def m_Run_finish (V : Fv) : List PV → Store → Res PV := runBody 3 (f_Run_finish V)
abbrev N_Run_saved : List Str := ["self", "agent"]
def f_Run_saved (V : Fv) : SM :=
  (sRet (eArgs mkTup (aCons (eFld V.c_Referee "journal" (eFld V.c_Run "_referee" (eVar 0))) (aCons (eArgs (one pTuple) (aCons (eComp [1] (iVal (eFld V.c_Run "_agents" (eVar 0))) (.one 1) tYesM (eFld V.c_Agent "journal" (eVar 1))) aNil)) aNil))))
def m_Run_saved (V : Fv) : List PV → Store → Res PV := runBody 2 (f_Run_saved V)
abbrev N_Run_restore : List Str := ["self", "journals", "referee", "agent", "journal"]
def f_Run_restore (V : Fv) : SM :=
  (sSeq (sSet 2 (eFld V.c_Run "_referee" (eVar 0)))
    (sSeq (sFldM V.c_Referee "journal" (eVar 2) (eBin pIx (eVar 1) (eC (.int 0))))
    (sSeq (sFor (iZip (eFld V.c_Run "_agents" (eVar 0)) (eBin pIx (eVar 1) (eC (.int 1)))) (.tup [3, 4])
    (sFldM V.c_Agent "journal" (eVar 3) (eVar 4)))
    (sSeq (sFldM V.c_Run "bag" (eVar 0) (eArgs mkTup aNil))
    (sExpr (eMethO V.c_Run "_send" 2 (m_Run_send V) (eVar 0) (aCons (eMethO V.c_Referee "ask" 1 (m_Referee_ask V) (eVar 2) aNil) aNil)))))))
def m_Run_restore (V : Fv) : List PV → Store → Res PV := runBody 5 (f_Run_restore V)
abbrev N_resumed : List Str := ["game", "profile", "saved", "run"]
def f_resumed (V : Fv) : SM :=
  (sSeq (sSet 3 (eMake V.c_Run 3 (m_Run_init V) (aCons (eVar 0) (aCons (eVar 1) aNil))))
    (sSeq (sExpr (eMethO V.c_Run "_restore" 2 (m_Run_restore V) (eVar 3) (aCons (eVar 2) aNil)))
    (sRet (eVar 3))))
def m_resumed (V : Fv) : List PV → Store → Res PV := runBody 4 (f_resumed V)
abbrev N_play : List Str := ["game", "profile", "events", "run", "event"]
def f_play (V : Fv) : SM :=
  (sSeq (sSet 3 (eMake V.c_Run 3 (m_Run_init V) (aCons (eVar 0) (aCons (eVar 1) aNil))))
    (sSeq (sFor (iVal (eVar 2)) (.one 4)
    (sExpr (eMethO V.c_Run "happen" 2 (m_Run_happen V) (eVar 3) (aCons (eVar 4) aNil))))
    (sRet (eMethO V.c_Run "finish" 1 (m_Run_finish V) (eVar 3) aNil))))
def m_play (V : Fv) : List PV → Store → Res PV := runBody 5 (f_play V)
abbrev N_law_source : List Str := ["script", "mixed", "cell"]
def f_law_source : SM :=
  (sSeq (sSet 1 (eC (.int 20011)))
    (sSeq (sFor (iVal (eVar 0)) (.one 2)
    (sSet 1 (eBin pMod (eArgs (one pInt) (aCons (eBin pAdd (eBin pAdd (eBin pMul (eVar 1) (eC (.int 48271))) (eBin pMul (eVar 2) (eC (.int 7919)))) (eC (.int 12345))) aNil)) (eC (.int 2147483647)))))
    (sRet (eArgs mkLoc (aCons (eC (.int 0)) (aCons (eC (.int 0)) (aCons (eVar 1) aNil)))))))
def m_law_source : List PV → Store → Res PV := runBody 3 f_law_source
abbrev N_law_draw : List Str := ["script", "source", "limit", "cell", "found"]
def f_law_draw : SM :=
  (sSeq (sIf (tAndM (eTest (eBin pEq (eBin pIx (eVar 1) (eC (.int 1))) (eC (.int 0)))) (eTest (eBin pLt (eBin pIx (eVar 1) (eC (.int 0))) (eArgs (one pLen) (aCons (eVar 0) aNil))))) (sSeq (sSet 3 (eArgs (one pAbs) (aCons (eBin pIx (eVar 0) (eBin pIx (eVar 1) (eC (.int 0)))) aNil)))
    (sSeq (sSub pSet (eVar 1) (eC (.int 0)) (eBin pAdd (eBin pIx (eVar 1) (eC (.int 0))) (eC (.int 1))))
    (sSeq (sIf (eTest (eBin pLt (eVar 3) (eBin pPow (eC (.int 10)) (eC (.int 18))))) (sSeq (sSet 3 (eBin pMod (eArgs (one pInt) (aCons (eBin pAdd (eBin pAdd (eBin pMul (eVar 3) (eC (.int 48271))) (eBin pMul (eBin pIx (eVar 1) (eC (.int 0))) (eC (.int 69621)))) (eBin pIx (eVar 1) (eC (.int 2)))) aNil)) (eC (.int 2147483647))))
    (sSet 3 (eBin pMod (eArgs (one pInt) (aCons (eBin pAdd (eBin pAdd (eBin pMul (eVar 3) (eVar 3)) (eBin pMul (eVar 3) (eC (.int 30011)))) (eBin pIx (eVar 1) (eC (.int 0)))) aNil)) (eC (.int 1000000007))))) sNil)
    (sSub pSet (eVar 1) (eC (.int 1)) (eVar 3))))) sNil)
    (sSeq (sIf (eTest (eBin pGt (eBin pIx (eVar 1) (eC (.int 1))) (eC (.int 0)))) (sSeq (sSet 4 (eBin pMod (eArgs (one pInt) (aCons (eBin pIx (eVar 1) (eC (.int 1))) aNil)) (eVar 2)))
    (sSeq (sSub pSet (eVar 1) (eC (.int 1)) (eBin pFdiv (eBin pIx (eVar 1) (eC (.int 1))) (eVar 2)))
    (sRet (eVar 4)))) sNil)
    (sSeq (sSub pSet (eVar 1) (eC (.int 2)) (eBin pMod (eArgs (one pInt) (aCons (eBin pAdd (eBin pMul (eBin pIx (eVar 1) (eC (.int 2))) (eC (.int 69621))) (eC (.int 4321))) aNil)) (eC (.int 2147483647))))
    (sRet (eBin pMod (eArgs (one pInt) (aCons (eBin pFdiv (eBin pIx (eVar 1) (eC (.int 2))) (eC (.int 97))) aNil)) (eVar 2))))))
def m_law_draw : List PV → Store → Res PV := runBody 5 f_law_draw
abbrev N_law_name : List Str := ["script", "source", "used", "letters", "signs", "name", "k", "base"]
def f_law_name : SM :=
  (sSeq (sSet 3 (eC (.str "abcdefghijklmnopqrstuvwxyz")))
    (sSeq (sSet 4 (eBin pAdd (eVar 3) (eC (.str "0123456789"))))
    (sSeq (sSet 5 (eBin pIx (eVar 3) (eCall 3 m_law_draw (aCons (eVar 0) (aCons (eVar 1) (aCons (eC (.int 26)) aNil))))))
    (sSeq (sFor (iRange1 (eCall 3 m_law_draw (aCons (eVar 0) (aCons (eVar 1) (aCons (eC (.int 3)) aNil))))) (.one 6)
    (sSet 5 (eBin pAdd (eVar 5) (eBin pIx (eVar 4) (eCall 3 m_law_draw (aCons (eVar 0) (aCons (eVar 1) (aCons (eC (.int 36)) aNil))))))))
    (sSeq (sIf (eTest (eBin pEq (eCall 3 m_law_draw (aCons (eVar 0) (aCons (eVar 1) (aCons (eC (.int 6)) aNil)))) (eC (.int 1)))) (sSet 5 (eBin pIx (eArgs mkLst (aCons (eC (.str "p0")) (aCons (eC (.str "p1")) (aCons (eC (.str "p2")) (aCons (eC (.str "m0")) (aCons (eC (.str "m1")) (aCons (eC (.str "m2")) aNil))))))) (eCall 3 m_law_draw (aCons (eVar 0) (aCons (eVar 1) (aCons (eC (.int 6)) aNil)))))) sNil)
    (sSeq (sSet 7 (eVar 5))
    (sSeq (sFor (iRange1 (eBin pAdd (eArgs (one pLen) (aCons (eVar 2) aNil)) (eC (.int 1)))) (.one 6)
    (sIf (eTest (eBin pIn (eVar 5) (eVar 2))) (sSet 5 (eBin pAdd (eVar 7) (eArgs (one pStr) (aCons (eVar 6) aNil)))) sNil))
    (sRet (eVar 5)))))))))
def m_law_name : List PV → Store → Res PV := runBody 8 f_law_name
abbrev N_law_gcd : List Str := ["a", "b", "k"]
def f_law_gcd : SM :=
  (sSeq (sFor (iRange1 (eBin pAdd (eBin pMul (eC (.int 2)) (eUn pBits (eArgs (one pInt) (aCons (eVar 1) aNil)))) (eC (.int 2)))) (.one 2)
    (sSeq (sIf (eTest (eBin pEq (eVar 1) (eC (.int 0)))) (sRet (eVar 0)) sNil)
    (sPar 0 1 (aCons (eVar 1) (aCons (eBin pMod (eArgs (one pInt) (aCons (eVar 0) aNil)) (eVar 1)) aNil)))))
    (sRet (eVar 0)))
def m_law_gcd : List PV → Store → Res PV := runBody 3 f_law_gcd
abbrev N_law_reduced : List Str := ["weights", "common", "weight"]
def f_law_reduced : SM :=
  (sSeq (sSet 1 (eC (.int 0)))
    (sSeq (sFor (iVal (eVar 0)) (.one 2)
    (sSet 1 (eCall 2 m_law_gcd (aCons (eVar 2) (aCons (eVar 1) aNil)))))
    (sSeq (sIf (eTest (eBin pEq (eVar 1) (eC (.int 0)))) (sRet (eArgs (one pTuple) (aCons (eVar 0) aNil))) sNil)
    (sRet (eArgs (one pTuple) (aCons (eComp [2] (iVal (eVar 0)) (.one 2) tYesM (eBin pFdiv (eVar 2) (eVar 1))) aNil))))))
def m_law_reduced : List PV → Store → Res PV := runBody 3 f_law_reduced
abbrev N_law_sets : List Str := ["script", "source", "many", "most", "rows", "used", "turn", "k", "count", "owner", "weights", "name", "j"]
def f_law_sets : SM :=
  (sSeq (sSet 4 (eArgs mkLoc aNil))
    (sSeq (sSet 5 (eArgs mkLoc aNil))
    (sSeq (sSet 6 (eCall 3 m_law_draw (aCons (eVar 0) (aCons (eVar 1) (aCons (eC (.int 3)) aNil)))))
    (sSeq (sFor (iRange1 (eBin pSub (eVar 2) (eBin pMul (eBin pIx (eArgs mkLst (aCons (eC (.int 0)) (aCons (eC (.int 0)) (aCons (eC (.int 0)) (aCons (eC (.int 1)) aNil))))) (eCall 3 m_law_draw (aCons (eVar 0) (aCons (eVar 1) (aCons (eC (.int 4)) aNil))))) (eCall 3 m_law_draw (aCons (eVar 0) (aCons (eVar 1) (aCons (eBin pAdd (eVar 2) (eC (.int 1))) aNil))))))) (.one 7)
    (sSeq (sSet 8 (eBin pIx (eArgs mkLst (aCons (eC (.int 2)) (aCons (eC (.int 2)) (aCons (eC (.int 3)) (aCons (eC (.int 2)) (aCons (eC (.int 2)) (aCons (eC (.int 4)) (aCons (eC (.int 3)) (aCons (eC (.int 1)) aNil))))))))) (eCall 3 m_law_draw (aCons (eVar 0) (aCons (eVar 1) (aCons (eC (.int 8)) aNil))))))
    (sSeq (sIf (eTest (eBin pGt (eVar 8) (eVar 3))) (sSet 8 (eC (.int 1))) sNil)
    (sSeq (sSet 3 (eBin pFdiv (eVar 3) (eVar 8)))
    (sSeq (sSet 9 (eBin pIx (eArgs mkLst (aCons (eBin pMod (eArgs (one pInt) (aCons (eBin pAdd (eVar 6) (eVar 7)) aNil)) (eC (.int 3))) (aCons (eBin pMod (eArgs (one pInt) (aCons (eBin pAdd (eVar 6) (eVar 7)) aNil)) (eC (.int 3))) (aCons (eC (.int 1)) (aCons (eC (.int 2)) aNil))))) (eCall 3 m_law_draw (aCons (eVar 0) (aCons (eVar 1) (aCons (eC (.int 4)) aNil))))))
    (sSeq (sSet 10 (eComp [12] (iRange1 (eVar 8)) (.one 12) tYesM (eC (.int 1))))
    (sSeq (sIf (eTest (eBin pEq (eVar 9) (eC (.int 0)))) (sSet 10 (eComp [12] (iRange1 (eVar 8)) (.one 12) tYesM (eBin pAdd (eC (.int 1)) (eCall 3 m_law_draw (aCons (eVar 0) (aCons (eVar 1) (aCons (eC (.int 5)) aNil))))))) sNil)
    (sSeq (sSet 11 (eCall 3 m_law_name (aCons (eVar 0) (aCons (eVar 1) (aCons (eVar 5) aNil)))))
    (sSeq (sExpr (eMeth isListP pAppend (eVar 5) (aCons (eVar 11) aNil)))
    (sExpr (eMeth isListP pAppend (eVar 4) (aCons (eArgs mkTup (aCons (eVar 11) (aCons (eVar 9) (aCons (eCall 1 m_law_reduced (aCons (eVar 10) aNil)) aNil)))) aNil))))))))))))
    (sRet (eArgs (one pTuple) (aCons (eArgs (one pSortedA) (aCons (eVar 4) aNil)) aNil)))))))
def m_law_sets : List PV → Store → Res PV := runBody 13 f_law_sets
abbrev N_law_tree : List Str := ["script", "source", "free", "outcomes", "room", "wish", "stop", "row", "rest", "style", "shared", "children", "move", "other"]
def f_law_tree (self : List PV → Store → Res PV) : SM :=
  (sSeq (sSub pSet (eVar 4) (eC (.int 0)) (eBin pSub (eBin pIx (eVar 4) (eC (.int 0))) (eC (.int 1))))
    (sSeq (sSet 6 (eAndV (eBin pEq (eCall 3 m_law_draw (aCons (eVar 0) (aCons (eVar 1) (aCons (eC (.int 9)) aNil)))) (eC (.int 0))) (eBin pIs (eVar 5) (eC .non))))
    (sSeq (sIf (tOrM (eTest (eBin pEq (eArgs (one pLen) (aCons (eVar 2) aNil)) (eC (.int 0)))) (tOrM (eTest (eBin pLt (eBin pIx (eVar 4) (eC (.int 0))) (eC (.int 0)))) (eTest (eVar 6)))) (sRet (eBin pIx (eVar 3) (eCall 3 m_law_draw (aCons (eVar 0) (aCons (eVar 1) (aCons (eArgs (one pLen) (aCons (eVar 3) aNil)) aNil)))))) sNil)
    (sSeq (sSet 7 (eBin pIx (eVar 2) (eCall 3 m_law_draw (aCons (eVar 0) (aCons (eVar 1) (aCons (eArgs (one pLen) (aCons (eVar 2) aNil)) aNil))))))
    (sSeq (sIf (eTest (eBin pIsNot (eVar 5) (eC .non))) (sSet 7 (eVar 5)) sNil)
    (sSeq (sSet 8 (eComp [13] (iVal (eVar 2)) (.one 13) (eTest (eBin pNe (eBin pIx (eVar 13) (eC (.int 0))) (eBin pIx (eVar 7) (eC (.int 0))))) (eVar 13)))
    (sSeq (sSet 9 (eCall 3 m_law_draw (aCons (eVar 0) (aCons (eVar 1) (aCons (eC (.int 9)) aNil)))))
    (sSeq (sSet 10 (eC .non))
    (sSeq (sIf (tAndM (eTest (eBin pGt (eVar 9) (eC (.int 4)))) (eTest (eBin pGt (eArgs (one pLen) (aCons (eVar 8) aNil)) (eC (.int 0))))) (sSet 10 (eBin pIx (eVar 8) (eCall 3 m_law_draw (aCons (eVar 0) (aCons (eVar 1) (aCons (eArgs (one pLen) (aCons (eVar 8) aNil)) aNil)))))) sNil)
    (sSeq (sSet 11 (eArgs mkLoc aNil))
    (sSeq (sFor (iRange1 (eArgs (one pLen) (aCons (eBin pIx (eVar 7) (eC (.int 2))) aNil))) (.one 12)
    (sIf (tAndM (eTest (eBin pGt (eVar 12) (eC (.int 0)))) (tAndM (eTest (eBin pIs (eVar 5) (eC .non))) (tOrM (eTest (eBin pEq (eVar 9) (eC (.int 4)))) (tAndM (eTest (eBin pEq (eVar 9) (eC (.int 3)))) (eTest (eBin pEq (eCall 3 m_law_draw (aCons (eVar 0) (aCons (eVar 1) (aCons (eC (.int 2)) aNil)))) (eC (.int 0)))))))) (sExpr (eMeth isListP pAppend (eVar 11) (aCons (eBin pIx (eVar 11) (eBin pSub (eVar 12) (eC (.int 1)))) aNil))) (sExpr (eMeth isListP pAppend (eVar 11) (aCons (eCall 6 self (aCons (eVar 0) (aCons (eVar 1) (aCons (eVar 8) (aCons (eVar 3) (aCons (eVar 4) (aCons (eVar 10) aNil))))))) aNil)))))
    (sRet (eArgs mkTup (aCons (eBin pIx (eVar 7) (eC (.int 0))) (aCons (eArgs (one pTuple) (aCons (eVar 11) aNil)) aNil)))))))))))))))
def m_law_tree : List PV → Store → Res PV := fuelF 14 f_law_tree 60
abbrev N_law_game : List Str := ["script", "source", "many", "most", "nodes", "rows", "outcomes", "k", "top", "row"]
def f_law_game : SM :=
  (sSeq (sSet 5 (eCall 4 m_law_sets (aCons (eVar 0) (aCons (eVar 1) (aCons (eVar 2) (aCons (eVar 3) aNil))))))
    (sSeq (sSet 6 (eArgs mkLoc aNil))
    (sSeq (sFor (iRange1 (eBin pIx (eArgs mkLst (aCons (eC (.int 2)) (aCons (eC (.int 3)) (aCons (eC (.int 4)) (aCons (eC (.int 5)) (aCons (eC (.int 2)) (aCons (eC (.int 3)) (aCons (eC (.int 4)) (aCons (eC (.int 5)) (aCons (eC (.int 6)) (aCons (eC (.int 1)) aNil))))))))))) (eCall 3 m_law_draw (aCons (eVar 0) (aCons (eVar 1) (aCons (eC (.int 10)) aNil)))))) (.one 7)
    (sExpr (eMeth isListP pAppend (eVar 6) (aCons (eCall 3 m_law_name (aCons (eVar 0) (aCons (eVar 1) (aCons (eVar 6) aNil)))) aNil))))
    (sSeq (sSet 8 (eC .non))
    (sSeq (sFor (iVal (eVar 5)) (.one 9)
    (sIf (tOrM (eTest (eBin pIs (eVar 8) (eC .non))) (tOrM (eTest (eBin pEq (eArgs (one pLen) (aCons (eBin pIx (eVar 8) (eC (.int 2))) aNil)) (eC (.int 1)))) (eTest (eBin pEq (eCall 3 m_law_draw (aCons (eVar 0) (aCons (eVar 1) (aCons (eC (.int 2)) aNil)))) (eC (.int 0)))))) (sSet 8 (eVar 9)) sNil))
    (sRet (eArgs mkTup (aCons (eVar 5) (aCons (eCall 6 m_law_tree (aCons (eVar 0) (aCons (eVar 1) (aCons (eArgs (one pList) (aCons (eVar 5) aNil)) (aCons (eVar 6) (aCons (eArgs mkLoc (aCons (eVar 4) aNil)) (aCons (eVar 8) aNil))))))) aNil)))))))))
def m_law_game : List PV → Store → Res PV := runBody 10 f_law_game
abbrev N_law_plain : List Str := ["answer", "item"]
def f_law_plain (self : List PV → Store → Res PV) : SM :=
  (sSeq (sIf (eTest (eArgs (pIsi) (aCons (eVar 0) (aCons (eC (.con (.ty "tuple"))) aNil)))) (sRet (eBin pEq (eArgs (one pLen) (aCons (eComp [1] (iVal (eVar 0)) (.one 1) (tNotM (eTest (eCall 1 self (aCons (eVar 1) aNil)))) (eVar 1)) aNil)) (eC (.int 0)))) sNil)
    (sRet (eAndV (eNotV (eArgs (pIsi) (aCons (eVar 0) (aCons (eC (.con (.ty "bool"))) aNil)))) (eArgs (pIsi) (aCons (eVar 0) (aCons (eArgs mkTup (aCons (eC (.con (.ty "str"))) (aCons (eC (.con (.ty "int"))) aNil))) aNil))))))
def m_law_plain : List PV → Store → Res PV := fuelF 2 f_law_plain 60
abbrev N_law_plan : List Str := ["script", "source", "rows", "owner", "row"]
def f_law_plan : SM :=
  (sRet (eArgs (one pTuple) (aCons (eComp [4] (iVal (eVar 2)) (.one 4) (eTest (eBin pEq (eBin pIx (eVar 4) (eC (.int 1))) (eVar 3))) (eCall 3 m_law_draw (aCons (eVar 0) (aCons (eVar 1) (aCons (eArgs (one pLen) (aCons (eBin pIx (eVar 4) (eC (.int 2))) aNil)) aNil))))) aNil)))
def m_law_plan : List PV → Store → Res PV := runBody 5 f_law_plan
abbrev N_law_choice : List Str := ["rows", "profile", "choice", "places", "row"]
def f_law_choice : SM :=
  (sSeq (sSet 2 eDict0)
    (sSeq (sSet 3 (eArgs mkLoc (aCons (eC (.int 0)) (aCons (eC (.int 0)) (aCons (eC (.int 0)) aNil)))))
    (sSeq (sFor (iVal (eVar 0)) (.one 4)
    (sSeq (sSub pSetD (eVar 2) (eBin pIxD (eVar 4) (eC (.int 0))) (eBin pIxD (eBin pIxD (eVar 1) (eBin pIxD (eVar 4) (eC (.int 1)))) (eBin pIxD (eVar 3) (eBin pIxD (eVar 4) (eC (.int 1))))))
    (sSub pSetD (eVar 3) (eBin pIxD (eVar 4) (eC (.int 1))) (eBin pAdd (eBin pIxD (eVar 3) (eBin pIxD (eVar 4) (eC (.int 1)))) (eC (.int 1))))))
    (sRet (eVar 2)))))
def m_law_choice : List PV → Store → Res PV := runBody 5 f_law_choice
abbrev N_law_owner : List Str := ["rows", "name", "row"]
def f_law_owner : SM :=
  (sRet (eBin pIx (eComp [2] (iVal (eVar 0)) (.one 2) (eTest (eBin pEq (eBin pIx (eVar 2) (eC (.int 0))) (eVar 1))) (eBin pIx (eVar 2) (eC (.int 1)))) (eC (.int 0))))
def m_law_owner : List PV → Store → Res PV := runBody 3 f_law_owner
abbrev N_law_way : List Str := ["tree", "choice", "pairs", "k"]
def f_law_way : SM :=
  (sSeq (sSet 2 (eArgs mkTup aNil))
    (sSeq (sFor (iRange1 (eC (.int 60))) (.one 3)
    (sSeq (sIf (eTest (eArgs (pIsi) (aCons (eVar 0) (aCons (eC (.con (.ty "str"))) aNil)))) (sRet (eArgs mkTup (aCons (eVar 2) (aCons (eVar 0) aNil)))) sNil)
    (sSeq (sSet 2 (eBin pAdd (eVar 2) (eArgs mkTup (aCons (eArgs mkTup (aCons (eBin pIxD (eVar 0) (eC (.int 0))) (aCons (eBin pIxD (eVar 1) (eBin pIxD (eVar 0) (eC (.int 0)))) aNil))) aNil))))
    (sSet 0 (eBin pIxD (eBin pIxD (eVar 0) (eC (.int 1))) (eBin pIxD (eVar 1) (eBin pIxD (eVar 0) (eC (.int 0)))))))))
    (sRet (eArgs mkTup (aCons (eVar 2) (aCons (eVar 0) aNil))))))
def m_law_way : List PV → Store → Res PV := runBody 4 f_law_way
abbrev N_law_ask : List Str := ["game", "journal", "node", "name", "move"]
def f_law_ask : SM :=
  (sSeq (sSet 2 (eBin pIx (eVar 0) (eC (.int 1))))
    (sSeq (sFor (iVal (eVar 1)) (.tup [3, 4])
    (sSet 2 (eBin pIx (eBin pIx (eVar 2) (eC (.int 1))) (eVar 4))))
    (sSeq (sIf (eTest (eArgs (pIsi) (aCons (eVar 2) (aCons (eC (.con (.ty "str"))) aNil)))) (sRet (eArgs mkLoc aNil)) sNil)
    (sRet (eArgs mkLoc (aCons (eArgs mkTup (aCons (eC (.str "ask")) (aCons (eCall 2 m_law_owner (aCons (eBin pIx (eVar 0) (eC (.int 0))) (aCons (eBin pIx (eVar 2) (eC (.int 0))) aNil))) (aCons (eBin pIx (eVar 2) (eC (.int 0))) aNil)))) aNil))))))
def m_law_ask : List PV → Store → Res PV := runBody 5 f_law_ask
abbrev N_law_deliver : List Str := ["game", "choice", "journal", "answers", "bag", "letter", "asked", "pair", "own"]
def f_law_deliver : SM :=
  (sSeq (sSet 6 (eCall 2 m_law_ask (aCons (eVar 0) (aCons (eVar 2) aNil))))
    (sSeq (sSet 7 (eArgs mkTup (aCons (eBin pIxD (eVar 5) (eC (.int 2))) (aCons (eBin pIxD (eVar 1) (eBin pIxD (eVar 5) (eC (.int 2)))) aNil))))
    (sIf (eTest (eBin pEqR (eBin pIxD (eVar 5) (eC (.int 0))) (eC (.str "ask")))) (sSeq (sSet 8 (eBin pIxD (eVar 3) (eBin pIxD (eVar 5) (eC (.int 1)))))
    (sSeq (sIf (eTest (eBin pNotInK (eVar 7) (eVar 8))) (sExpr (eMeth isListP pAppend (eVar 8) (aCons (eVar 7) aNil))) sNil)
    (sExpr (eMeth isListP pAppend (eVar 4) (aCons (eArgs mkTup (aCons (eC (.str "answer")) (aCons (eBin pIxD (eVar 5) (eC (.int 1))) (aCons (eBin pIxD (eVar 5) (eC (.int 2))) (aCons (eBin pIxD (eVar 7) (eC (.int 1))) aNil))))) aNil))))) (sIf (eTest (eBin pEqR (eVar 6) (eArgs mkLst (aCons (eArgs mkTup (aCons (eC (.str "ask")) (aCons (eBin pIxD (eVar 5) (eC (.int 1))) (aCons (eBin pIxD (eVar 5) (eC (.int 2))) aNil)))) aNil)))) (sSeq (sExpr (eMeth isListP pAppend (eVar 2) (aCons (eVar 7) aNil)))
    (sExpr (eMeth isListP pExtend (eVar 4) (aCons (eCall 2 m_law_ask (aCons (eVar 0) (aCons (eVar 2) aNil))) aNil)))) sNil))))
def m_law_deliver : List PV → Store → Res PV := runBody 9 f_law_deliver
abbrev N_law_event : List Str := ["game", "choice", "journal", "answers", "bag", "event", "letter"]
def f_law_event : SM :=
  (sSeq (sIf (eTest (eBin pEq (eBin pIx (eVar 5) (eC (.int 0))) (eC (.str "restart")))) (sSeq (sExpr (eMeth isListP pExtend (eVar 4) (aCons (eCall 2 m_law_ask (aCons (eVar 0) (aCons (eVar 2) aNil))) aNil)))
    (sRet (eC (.bl true)))) sNil)
    (sSeq (sIf (tOrM (eTest (eBin pLt (eBin pIx (eVar 5) (eC (.int 1))) (eC (.int 0)))) (eTest (eBin pGe (eBin pIx (eVar 5) (eC (.int 1))) (eArgs (one pLen) (aCons (eVar 4) aNil))))) (sRet (eC (.bl false))) sNil)
    (sSeq (sSet 6 (eBin pIx (eVar 4) (eBin pIx (eVar 5) (eC (.int 1)))))
    (sSeq (sIf (eTest (eBin pNe (eBin pIx (eVar 5) (eC (.int 0))) (eC (.str "copy")))) (sExpr (eMeth isListP pPopAt (eVar 4) (aCons (eBin pIx (eVar 5) (eC (.int 1))) aNil))) sNil)
    (sSeq (sIf (eTest (eBin pNe (eBin pIx (eVar 5) (eC (.int 0))) (eC (.str "lose")))) (sExpr (eCall 6 m_law_deliver (aCons (eVar 0) (aCons (eVar 1) (aCons (eVar 2) (aCons (eVar 3) (aCons (eVar 4) (aCons (eVar 6) aNil)))))))) sNil)
    (sRet (eC (.bl true))))))))
def m_law_event : List PV → Store → Res PV := runBody 7 f_law_event
abbrev N_law_drawn_event : List Str := ["script", "source", "kind", "at"]
def f_law_drawn_event : SM :=
  (sSeq (sSet 2 (eBin pIx (eArgs mkLst (aCons (eC (.str "deliver")) (aCons (eC (.str "deliver")) (aCons (eC (.str "deliver")) (aCons (eC (.str "copy")) (aCons (eC (.str "copy")) (aCons (eC (.str "lose")) (aCons (eC (.str "restart")) aNil)))))))) (eCall 3 m_law_draw (aCons (eVar 0) (aCons (eVar 1) (aCons (eC (.int 7)) aNil))))))
    (sSeq (sIf (eTest (eBin pEq (eVar 2) (eC (.str "restart")))) (sRet (eArgs mkTup (aCons (eC (.str "restart")) aNil))) sNil)
    (sSeq (sSet 3 (eBin pIx (eArgs mkLst (aCons (eC (.int 0)) (aCons (eC (.int 0)) (aCons (eC (.int 0)) (aCons (eC (.int 1)) (aCons (eC (.int 1)) (aCons (eC (.int 2)) (aCons (eC (.int 3)) (aCons (eC (.int 5)) aNil))))))))) (eCall 3 m_law_draw (aCons (eVar 0) (aCons (eVar 1) (aCons (eC (.int 8)) aNil))))))
    (sSeq (sIf (eTest (eBin pEq (eCall 3 m_law_draw (aCons (eVar 0) (aCons (eVar 1) (aCons (eC (.int 8)) aNil)))) (eC (.int 0)))) (sSet 3 (eBin pIx (eArgs mkLst (aCons (eUn pNeg (eC (.int 1))) (aCons (eUn pNeg (eC (.int 2))) (aCons (eC (.int 6)) (aCons (eC (.int 17)) (aCons (eBin pPow (eC (.int 10)) (eC (.int 20))) aNil)))))) (eCall 3 m_law_draw (aCons (eVar 0) (aCons (eVar 1) (aCons (eC (.int 5)) aNil)))))) sNil)
    (sRet (eArgs mkTup (aCons (eVar 2) (aCons (eVar 3) aNil))))))))
def m_law_drawn_event : List PV → Store → Res PV := runBody 4 f_law_drawn_event
abbrev N_law_is : List Str := ["game", "run", "way", "end", "journal", "answers", "bag", "owner", "view", "passed", "name", "move"]
def f_law_is (V : Fv) : SM :=
  (sSeq (sIf (tOrM (tNotM (eTest (eCall 1 m_law_plain (aCons (eFld V.c_Run "bag" (eVar 1)) aNil)))) (eTest (eBin pNe (eFld V.c_Run "bag" (eVar 1)) (eArgs (one pTuple) (aCons (eVar 6) aNil))))) (sRet (eC (.bl false))) sNil)
    (sSeq (sIf (tOrM (tNotM (eTest (eCall 1 m_law_plain (aCons (ePropO V.c_Run (m_Run_record V) (eVar 1)) aNil)))) (tOrM (eTest (eBin pNe (ePropO V.c_Run (m_Run_record V) (eVar 1)) (eArgs (one pTuple) (aCons (eVar 4) aNil)))) (eTest (eBin pNe (ePropO V.c_Run (m_Run_record V) (eVar 1)) (eSl pSl (eVar 2) oNone (oSome (eArgs (one pLen) (aCons (eVar 4) aNil)))))))) (sRet (eC (.bl false))) sNil)
    (sSeq (sFor (iRange1 (eC (.int 3))) (.one 7)
    (sSeq (sSet 8 (eMethO V.c_Run "view" 2 (m_Run_view V) (eVar 1) (aCons (eVar 7) aNil)))
    (sSeq (sSet 9 (eArgs (one pTuple) (aCons (eComp [10, 11] (iVal (eVar 2)) (.tup [10, 11]) (eTest (eBin pEq (eCall 2 m_law_owner (aCons (eBin pIx (eVar 0) (eC (.int 0))) (aCons (eVar 10) aNil))) (eVar 7))) (eVar 10)) aNil)))
    (sSeq (sIf (tOrM (tNotM (eTest (eCall 1 m_law_plain (aCons (eVar 8) aNil)))) (eTest (eBin pNe (eVar 8) (eArgs (one pTuple) (aCons (eComp [10, 11] (iVal (eBin pIx (eVar 5) (eVar 7))) (.tup [10, 11]) tYesM (eVar 10)) aNil))))) (sRet (eC (.bl false))) sNil)
    (sIf (eTest (eBin pNe (eVar 8) (eSl pSl (eVar 9) oNone (oSome (eArgs (one pLen) (aCons (eVar 8) aNil)))))) (sRet (eC (.bl false))) sNil)))))
    (sSeq (sIf (eTest (eBin pLt (eArgs (one pLen) (aCons (eVar 4) aNil)) (eArgs (one pLen) (aCons (eVar 2) aNil)))) (sRet (eBin pIs (ePropO V.c_Run (m_Run_ending V) (eVar 1)) (eC .non))) sNil)
    (sRet (eAndV (eArgs (pIsi) (aCons (ePropO V.c_Run (m_Run_ending V) (eVar 1)) (aCons (eC (.con (.ty "str"))) aNil))) (eBin pEq (ePropO V.c_Run (m_Run_ending V) (eVar 1)) (eVar 3))))))))
def m_law_is (V : Fv) : List PV → Store → Res PV := runBody 12 (f_law_is V)
abbrev N_law_saved : List Str := ["game", "profile", "run", "way", "end", "journal", "answers", "bag", "kept", "due", "other", "own"]
def f_law_saved (V : Fv) : SM :=
  (sSeq (sSet 8 (eMethO V.c_Run "saved" 1 (m_Run_saved V) (eVar 2) aNil))
    (sSeq (sSet 9 (eArgs mkTup (aCons (eArgs (one pTuple) (aCons (eVar 5) aNil)) (aCons (eArgs (one pTuple) (aCons (eComp [11] (iVal (eVar 6)) (.one 11) tYesM (eArgs (one pTuple) (aCons (eVar 11) aNil))) aNil)) aNil))))
    (sSeq (sIf (tOrM (tNotM (eTest (eCall 1 m_law_plain (aCons (eVar 8) aNil)))) (eTest (eBin pNe (eVar 8) (eVar 9)))) (sRet (eC .non)) sNil)
    (sSeq (sSet 10 (eCall 3 (m_resumed V) (aCons (eVar 0) (aCons (eVar 1) (aCons (eVar 8) aNil)))))
    (sSeq (sIf (tNotM (eTest (eCall 7 (m_law_is V) (aCons (eVar 0) (aCons (eVar 10) (aCons (eVar 3) (aCons (eVar 4) (aCons (eVar 5) (aCons (eVar 6) (aCons (eCall 2 m_law_ask (aCons (eVar 0) (aCons (eVar 5) aNil))) aNil)))))))))) (sRet (eC .non)) sNil)
    (sSeq (sIf (tNotM (eTest (eCall 7 (m_law_is V) (aCons (eVar 0) (aCons (eVar 2) (aCons (eVar 3) (aCons (eVar 4) (aCons (eVar 5) (aCons (eVar 6) (aCons (eVar 7) aNil)))))))))) (sRet (eC .non)) sNil)
    (sRet (eVar 10))))))))
def m_law_saved (V : Fv) : List PV → Store → Res PV := runBody 12 (f_law_saved V)
abbrev N_law_finished : List Str := ["game", "run", "way", "end", "bag", "told", "whole", "owner", "kept", "pair", "own"]
def f_law_finished (V : Fv) : SM :=
  (sSeq (sSet 5 (eMethO V.c_Run "finish" 1 (m_Run_finish V) (eVar 1) aNil))
    (sSeq (sIf (tOrM (tNotM (eTest (eArgs (pIsi) (aCons (eVar 5) (aCons (eC (.con (.ty "str"))) aNil))))) (eTest (eBin pNe (eVar 5) (eVar 3)))) (sRet (eC (.bl false))) sNil)
    (sSeq (sSet 6 (eArgs mkLoc aNil))
    (sSeq (sFor (iRange1 (eC (.int 3))) (.one 7)
    (sExpr (eMeth isListP pAppend (eVar 6) (aCons (eComp [9] (iVal (eVar 2)) (.one 9) (eTest (eBin pEq (eCall 2 m_law_owner (aCons (eBin pIx (eVar 0) (eC (.int 0))) (aCons (eBin pIx (eVar 9) (eC (.int 0))) aNil))) (eVar 7))) (eVar 9)) aNil))))
    (sSeq (sSet 8 (eMethO V.c_Run "saved" 1 (m_Run_saved V) (eVar 1) aNil))
    (sSeq (sIf (tOrM (tNotM (eTest (eCall 1 m_law_plain (aCons (eVar 8) aNil)))) (eTest (eBin pNe (eVar 8) (eArgs mkTup (aCons (eArgs (one pTuple) (aCons (eVar 2) aNil)) (aCons (eArgs (one pTuple) (aCons (eComp [10] (iVal (eVar 6)) (.one 10) tYesM (eArgs (one pTuple) (aCons (eVar 10) aNil))) aNil)) aNil)))))) (sRet (eC (.bl false))) sNil)
    (sRet (eCall 7 (m_law_is V) (aCons (eVar 0) (aCons (eVar 1) (aCons (eVar 2) (aCons (eVar 3) (aCons (eArgs (one pList) (aCons (eVar 2) aNil)) (aCons (eVar 6) (aCons (eVar 4) aNil)))))))))))))))
def m_law_finished (V : Fv) : List PV → Store → Res PV := runBody 11 (f_law_finished V)
abbrev N_law_told : List Str := ["game", "choice", "run", "journal", "answers", "bag", "event", "told"]
def f_law_told (V : Fv) : SM :=
  (sSeq (sSet 7 (eMethO V.c_Run "happen" 2 (m_Run_happen V) (eVar 2) (aCons (eVar 6) aNil)))
    (sRet (eAndV (eArgs (pIsi) (aCons (eVar 7) (aCons (eC (.con (.ty "bool"))) aNil))) (eBin pEq (eVar 7) (eCall 6 m_law_event (aCons (eVar 0) (aCons (eVar 1) (aCons (eVar 3) (aCons (eVar 4) (aCons (eVar 5) (aCons (eVar 6) aNil)))))))))))
def m_law_told (V : Fv) : List PV → Store → Res PV := runBody 8 (f_law_told V)
abbrev N_law : List Str := ["script", "source", "game", "profile", "choice", "many", "events", "moment", "run", "elder", "k", "journal", "answers", "held", "told", "way", "end", "bag", "event", "before", "owner", "pair", "own"]
def f_law (V : Fv) : SM :=
  (sSeq (sSet 1 (eCall 1 m_law_source (aCons (eVar 0) aNil)))
    (sSeq (sSet 2 (eCall 5 m_law_game (aCons (eVar 0) (aCons (eVar 1) (aCons (eC (.int 5)) (aCons (eC (.int 32)) (aCons (eC (.int 40)) aNil)))))))
    (sSeq (sSet 3 (eArgs (one pTuple) (aCons (eComp [20] (iRange1 (eC (.int 3))) (.one 20) tYesM (eCall 4 m_law_plan (aCons (eVar 0) (aCons (eVar 1) (aCons (eBin pIx (eVar 2) (eC (.int 0))) (aCons (eVar 20) aNil)))))) aNil)))
    (sSeq (sSet 4 (eCall 2 m_law_choice (aCons (eBin pIx (eVar 2) (eC (.int 0))) (aCons (eVar 3) aNil))))
    (sSeq (sTg (.tup [15, 16]) (eCall 2 m_law_way (aCons (eBin pIx (eVar 2) (eC (.int 1))) (aCons (eVar 4) aNil))))
    (sSeq (sSet 5 (eCall 3 m_law_draw (aCons (eVar 0) (aCons (eVar 1) (aCons (eC (.int 25)) aNil)))))
    (sSeq (sIf (eTest (eBin pEq (eCall 3 m_law_draw (aCons (eVar 0) (aCons (eVar 1) (aCons (eC (.int 8)) aNil)))) (eC (.int 3)))) (sSet 5 (eBin pAdd (eC (.int 20)) (eCall 3 m_law_draw (aCons (eVar 0) (aCons (eVar 1) (aCons (eC (.int 41)) aNil)))))) sNil)
    (sSeq (sSet 6 (eComp [10] (iRange1 (eVar 5)) (.one 10) tYesM (eCall 2 m_law_drawn_event (aCons (eVar 0) (aCons (eVar 1) aNil)))))
    (sSeq (sSet 7 (eCall 3 m_law_draw (aCons (eVar 0) (aCons (eVar 1) (aCons (eBin pAdd (eBin pMulL (eC (.int 2)) (eVar 5)) (eC (.int 2))) aNil)))))
    (sSeq (sPar3 11 12 17 (aCons (eArgs mkLoc aNil) (aCons (eArgs mkLst (aCons (eArgs mkLoc aNil) (aCons (eArgs mkLoc aNil) (aCons (eArgs mkLoc aNil) aNil)))) (aCons (eArgs mkLoc aNil) aNil))))
    (sSeq (sExpr (eMeth isListP pExtend (eVar 17) (aCons (eCall 2 m_law_ask (aCons (eVar 2) (aCons (eVar 11) aNil))) aNil)))
    (sSeq (sSet 8 (eMake V.c_Run 3 (m_Run_init V) (aCons (eVar 2) (aCons (eVar 3) aNil))))
    (sSeq (sSet 9 (eC .non))
    (sSeq (sFor (iRange1 (eBin pAdd (eVar 5) (eC (.int 1)))) (.one 10)
    (sSeq (sIf (tNotM (eTest (eCall 7 (m_law_is V) (aCons (eVar 2) (aCons (eVar 8) (aCons (eVar 15) (aCons (eVar 16) (aCons (eVar 11) (aCons (eVar 12) (aCons (eVar 17) aNil)))))))))) (sRet (eC (.bl false))) sNil)
    (sSeq (sIf (eTest (eBin pEq (eVar 10) (eVar 7))) (sSeq (sSet 9 (eVar 8))
    (sSeq (sSet 8 (eCall 8 (m_law_saved V) (aCons (eVar 2) (aCons (eVar 3) (aCons (eVar 9) (aCons (eVar 15) (aCons (eVar 16) (aCons (eVar 11) (aCons (eVar 12) (aCons (eVar 17) aNil))))))))))
    (sSeq (sIf (eTest (eBin pIs (eVar 8) (eC .non))) (sRet (eC (.bl false))) sNil)
    (sSeq (sSet 19 (eArgs mkLst (aCons (eArgs (one pList) (aCons (eVar 11) aNil)) (aCons (eComp [22] (iVal (eVar 12)) (.one 22) tYesM (eArgs (one pList) (aCons (eVar 22) aNil))) (aCons (eArgs (one pList) (aCons (eVar 17) aNil)) aNil)))))
    (sSet 17 (eCall 2 m_law_ask (aCons (eVar 2) (aCons (eVar 11) aNil)))))))) sNil)
    (sIf (tAndM (eTest (eBin pLt (eVar 10) (eVar 5))) (tNotM (eTest (eCall 7 (m_law_told V) (aCons (eVar 2) (aCons (eVar 4) (aCons (eVar 8) (aCons (eVar 11) (aCons (eVar 12) (aCons (eVar 17) (aCons (eBin pIx (eVar 6) (eVar 10)) aNil))))))))))) (sRet (eC (.bl false))) sNil))))
    (sSeq (sIf (tNotM (eTest (eCall 5 (m_law_finished V) (aCons (eVar 2) (aCons (eVar 8) (aCons (eVar 15) (aCons (eVar 16) (aCons (eVar 17) aNil)))))))) (sRet (eC (.bl false))) sNil)
    (sSeq (sSet 11 (eArgs (one pListLoc) (aCons (eVar 15) aNil)))
    (sSeq (sSet 12 (eComp [20] (iRange1 (eC (.int 3))) (.one 20) tYesM (eCompLoc [21] (iVal (eVar 15)) (.one 21) (eTest (eBin pEq (eCall 2 m_law_owner (aCons (eBin pIx (eVar 2) (eC (.int 0))) (aCons (eBin pIx (eVar 21) (eC (.int 0))) aNil))) (eVar 20))) (eVar 21))))
    (sSeq (sFor (iRange1 (eCall 3 m_law_draw (aCons (eVar 0) (aCons (eVar 1) (aCons (eC (.int 4)) aNil))))) (.one 10)
    (sSeq (sSet 18 (eCall 2 m_law_drawn_event (aCons (eVar 0) (aCons (eVar 1) aNil))))
    (sSeq (sIf (tNotM (eTest (eCall 7 (m_law_told V) (aCons (eVar 2) (aCons (eVar 4) (aCons (eVar 8) (aCons (eVar 11) (aCons (eVar 12) (aCons (eVar 17) (aCons (eVar 18) aNil)))))))))) (sRet (eC (.bl false))) sNil)
    (sIf (tNotM (eTest (eCall 7 (m_law_is V) (aCons (eVar 2) (aCons (eVar 8) (aCons (eVar 15) (aCons (eVar 16) (aCons (eVar 11) (aCons (eVar 12) (aCons (eVar 17) aNil)))))))))) (sRet (eC (.bl false))) sNil))))
    (sSeq (sIf (eTest (eBin pIsNot (eVar 9) (eC .non))) (sSeq (sIf (tNotM (eTest (eCall 7 (m_law_is V) (aCons (eVar 2) (aCons (eVar 9) (aCons (eVar 15) (aCons (eVar 16) (aCons (eBin pIx (eVar 19) (eC (.int 0))) (aCons (eBin pIx (eVar 19) (eC (.int 1))) (aCons (eBin pIx (eVar 19) (eC (.int 2))) aNil)))))))))) (sRet (eC (.bl false))) sNil)
    (sIf (tNotM (eTest (eCall 5 (m_law_finished V) (aCons (eVar 2) (aCons (eVar 9) (aCons (eVar 15) (aCons (eVar 16) (aCons (eBin pIx (eVar 19) (eC (.int 2))) aNil)))))))) (sRet (eC (.bl false))) sNil)) sNil)
    (sSeq (sSet 13 (eArgs (one pList) (aCons (eVar 6) aNil)))
    (sSeq (sSet 14 (eCall 3 (m_play V) (aCons (eVar 2) (aCons (eVar 3) (aCons (eVar 6) aNil)))))
    (sSeq (sIf (tOrM (tNotM (eTest (eArgs (pIsi) (aCons (eVar 14) (aCons (eC (.con (.ty "str"))) aNil))))) (tOrM (eTest (eBin pNe (eVar 14) (eVar 16))) (tOrM (eTest (eBin pNe (eVar 6) (eVar 13))) (eTest (eBin pNe (eCall 3 (m_play V) (aCons (eVar 2) (aCons (eVar 3) (aCons (eArgs (one pTuple) (aCons (eSl pSl (eVar 6) (oSome (eC (.int 1))) oNone) aNil)) aNil)))) (eVar 16)))))) (sRet (eC (.bl false))) sNil)
    (sRet (eBin pEq (eCall 3 (m_play V) (aCons (eVar 2) (aCons (eVar 3) (aCons (eSl pSl (eBin pMulL (eVar 6) (eC (.int 25))) oNone (oSome (eC (.int 1000)))) aNil)))) (eVar 16)))))))))))))))))))))))))
def m_law (V : Fv) : List PV → Store → Res PV := runBody 23 (f_law V)
end
end PL
/-! PL, part n: the drawing of scripts. -/
namespace PL
open PySem PySem.Spec PyProof.Rows L2
abbrev scr (ns : List Int) : PV := .frz (ns.map .int)
/-- the source's place -/
def SrcAt (st : Store) (l : Nat) : Prop := ∃ a b c : Int, st[l]? = some (.lst [.int a, .int b, .int c]) ∧ 0 ≤ a
theorem ixN3_0 : ixN 3 0 = some 0 := rfl
theorem ixN3_1 : ixN 3 1 = some 1 := rfl
theorem ixN3_2 : ixN 3 2 = some 2 := rfl
theorem log97 : (Nat.log2 97 < 9000) = True := eq_true (by decide)
theorem draw_ok {ns : List Int} {l : Nat} {lim : Int} {st : Store} (hs : SrcAt st l) (hl : 0 < lim) (hl2 : lim.natAbs.log2 < 9000) :
    Sat (m_law_draw [scr ns, .loc l, .int lim] st) fun v s => ∃ r o, v = .int r ∧ 0 ≤ r ∧ r < lim ∧ s = st.set l o ∧ SrcAt s l := by
  obtain ⟨a, b, c, hs, ha⟩ := hs
  refine sat_body ?_
  unfold f_law_draw
  have hlt : l < st.length := (List.getElem?_eq_some_iff.mp hs).1
  have g : ∀ o, (st.set l o)[l]? = some o := fun o => List.getElem?_set_self hlt
  have ss : ∀ o o', (st.set l o).set l o' = st.set l o' := fun o o' => List.set_set ..
  have fin1 : ∀ a b c : Int, 0 ≤ a → 0 < b → ∃ r o, PV.int (b % lim) = .int r ∧ 0 ≤ r ∧ r < lim ∧ st.set l (.lst [.int a, .int (b / lim), .int c]) = st.set l o ∧ SrcAt (st.set l (.lst [.int a, .int (b / lim), .int c])) l :=
    fun a b c h0 h1 => ⟨_, _, rfl, Int.emod_nonneg _ (by omega), Int.emod_lt_of_pos _ hl, rfl, a, _, c, g _, h0⟩
  have fin2 : ∀ a b c : Int, 0 ≤ a → ∃ r o, PV.int (c % 2147483647 / 97 % lim) = .int r ∧ 0 ≤ r ∧ r < lim ∧ st.set l (.lst [.int a, .int b, .int (c % 2147483647)]) = st.set l o ∧ SrcAt (st.set l (.lst [.int a, .int b, .int (c % 2147483647)])) l :=
    fun a b c h0 => ⟨_, _, rfl, Int.emod_nonneg _ (by omega), Int.emod_lt_of_pos _ hl, rfl, a, b, _, g _, h0⟩
  have p64 : ∀ n : Nat, n < 18446744073709551616 → n < 2 ^ 64 := fun n h => by simpa using h
  have m64 : ∀ x : Int, ((x % 2147483647).natAbs < 18446744073709551616) = True := fun x => eq_true (by
    have := Int.emod_nonneg x (show (2147483647 : Int) ≠ 0 by decide)
    have := Int.emod_lt_of_pos x (show (0 : Int) < 2147483647 by decide)
    omega)
  by_cases hb : b = 0
  · by_cases ha2 : a < (ns.length : Int)
    · obtain ⟨k, rfl⟩ := Int.eq_ofNat_of_zero_le ha
      have hk : k < ns.length := by omega
      have e : (ns.map PV.int)[k]? = some (.int ns[k]) := by rw [List.getElem?_map, List.getElem?_eq_getElem hk]; rfl
      simp only [sat_ok, sat_bind, sat_v, sat_c, sat_bin, sat_un, sat_test, sat_truth, sat_and, sat_or, sat_not, sat_yes, sat_andv, sat_notv, sat_chain, sat_nil, sat_cons, sat_args, sat_call, sat_callX, sat_meth, sat_one, sat_oNone, sat_oSome, sat_sl, sat_tup, sat_lst, sat_loc, ss_nil, ss_seq, ss_set, ss_expr, ss_ret, ss_retN, ss_if, ss_tg, ss_par, ss_sub, ss_for, sat_comp, setTg, setTgs, wipeP, sizeLine_eq, List.map_cons, List.map_nil, List.length_cons, List.length_nil, List.cons_append, List.nil_append, List.set_cons_zero, List.set_cons_succ, List.getElem?_cons_zero, List.getElem?_cons_succ, Nat.reduceAdd, Nat.reduceSub, Nat.reduceLeDiff, List.reduceReplicate, Option.some.injEq, exists_eq_left', true_and, and_true, Nat.zero_add, o_addI, o_addS, o_addT, o_addL, o_subI, o_mulI, o_fdivI, o_modI, o_powI, o_negI, o_eqI, o_neI, o_eqS, o_neS, o_ltI, o_gtI, o_leI, o_geI, o_ltS, o_geS, o_inS, o_notInS, o_isN, o_isNotN, o_isT, o_isNotT, o_isS, o_isNotS, o_int, o_intB, o_abs, o_str, o_lenT, o_lenL, o_lenF, o_lenS, o_ixT, o_ixL, o_ixF, ixW_0, ixW_1, ixW_2, o_isStr, o_tupL, o_tupT, o_listT, o_listL, o_listLocT, o_gcd, o_bits, o_finF, o_finT, sat_iVal, sat_iEnum, sat_iRange1, sat_iRange2, o_itT, o_itL, o_itF, o_itS, o_enT, o_rng, o_ixP hs, o_set hs, hb, decide_true, if_true, List.length_map, decide_eq_true ha2]
      refine ixW_of e ?_
      simp only [sat_ok, sat_bind, sat_v, sat_c, sat_bin, sat_un, sat_test, sat_truth, sat_and, sat_or, sat_not, sat_yes, sat_andv, sat_notv, sat_chain, sat_nil, sat_cons, sat_args, sat_call, sat_callX, sat_meth, sat_one, sat_oNone, sat_oSome, sat_sl, sat_tup, sat_lst, sat_loc, ss_nil, ss_seq, ss_set, ss_expr, ss_ret, ss_retN, ss_if, ss_tg, ss_par, ss_sub, ss_for, sat_comp, setTg, setTgs, wipeP, sizeLine_eq, List.map_cons, List.map_nil, List.length_cons, List.length_nil, List.cons_append, List.nil_append, List.set_cons_zero, List.set_cons_succ, List.getElem?_cons_zero, List.getElem?_cons_succ, Nat.reduceAdd, Nat.reduceSub, Nat.reduceLeDiff, List.reduceReplicate, Option.some.injEq, exists_eq_left', true_and, and_true, Nat.zero_add, o_addI, o_addS, o_addT, o_addL, o_subI, o_mulI, o_fdivI, o_modI, o_powI, o_negI, o_eqI, o_neI, o_eqS, o_neS, o_ltI, o_gtI, o_leI, o_geI, o_ltS, o_geS, o_inS, o_notInS, o_isN, o_isNotN, o_isT, o_isNotT, o_isS, o_isNotS, o_int, o_intB, o_abs, o_str, o_lenT, o_lenL, o_lenF, o_lenS, o_ixT, o_ixL, o_ixF, ixW_0, ixW_1, ixW_2, o_isStr, o_tupL, o_tupT, o_listT, o_listL, o_listLocT, o_gcd, o_bits, o_finF, o_finT, sat_iVal, sat_iEnum, sat_iRange1, sat_iRange2, o_itT, o_itL, o_itF, o_itS, o_enT, o_rng, Int.reduceLE, Int.reduceLT, nabs, Nat.reducePow, Nat.reduceLT, Int.reduceToNat, Int.reducePow, true_and, and_true, or_true, true_or, and_self, if_true, if_false, Bool.false_eq_true, decide_true, decide_false, not_false_eq_true, List.length_map, o_ixP hs, o_set hs, ixN3_0, ixN3_1, ixN3_2, o_ixP (g _), o_set (g _), ss, m64, hl, hl2, log97]
      generalize (if ns[k] < 0 then -ns[k] else ns[k]) = cell
      split
      · split
        · rename_i h
          refine fin1 _ _ _ ?_ (by simpa using h)
          omega
        · refine fin2 _ _ _ ?_
          omega
      · split
        · rename_i h
          refine fin1 _ _ _ ?_ (by simpa using h)
          omega
        · refine fin2 _ _ _ ?_
          omega
    · simp only [sat_ok, sat_bind, sat_v, sat_c, sat_bin, sat_un, sat_test, sat_truth, sat_and, sat_or, sat_not, sat_yes, sat_andv, sat_notv, sat_chain, sat_nil, sat_cons, sat_args, sat_call, sat_callX, sat_meth, sat_one, sat_oNone, sat_oSome, sat_sl, sat_tup, sat_lst, sat_loc, ss_nil, ss_seq, ss_set, ss_expr, ss_ret, ss_retN, ss_if, ss_tg, ss_par, ss_sub, ss_for, sat_comp, setTg, setTgs, wipeP, sizeLine_eq, List.map_cons, List.map_nil, List.length_cons, List.length_nil, List.cons_append, List.nil_append, List.set_cons_zero, List.set_cons_succ, List.getElem?_cons_zero, List.getElem?_cons_succ, Nat.reduceAdd, Nat.reduceSub, Nat.reduceLeDiff, List.reduceReplicate, Option.some.injEq, exists_eq_left', true_and, and_true, Nat.zero_add, o_addI, o_addS, o_addT, o_addL, o_subI, o_mulI, o_fdivI, o_modI, o_powI, o_negI, o_eqI, o_neI, o_eqS, o_neS, o_ltI, o_gtI, o_leI, o_geI, o_ltS, o_geS, o_inS, o_notInS, o_isN, o_isNotN, o_isT, o_isNotT, o_isS, o_isNotS, o_int, o_intB, o_abs, o_str, o_lenT, o_lenL, o_lenF, o_lenS, o_ixT, o_ixL, o_ixF, ixW_0, ixW_1, ixW_2, o_isStr, o_tupL, o_tupT, o_listT, o_listL, o_listLocT, o_gcd, o_bits, o_finF, o_finT, sat_iVal, sat_iEnum, sat_iRange1, sat_iRange2, o_itT, o_itL, o_itF, o_itS, o_enT, o_rng, Int.reduceLE, Int.reduceLT, nabs, Nat.reducePow, Nat.reduceLT, Int.reduceToNat, Int.reducePow, true_and, and_true, or_true, true_or, and_self, if_true, if_false, Bool.false_eq_true, decide_true, decide_false, not_false_eq_true, List.length_map, o_ixP hs, o_set hs, hb, decide_eq_false ha2, ixN3_0, ixN3_1, ixN3_2, o_ixP (g _), o_set (g _), ss, m64, hl, hl2, log97]
      exact fin2 _ _ _ ha
  · simp only [sat_ok, sat_bind, sat_v, sat_c, sat_bin, sat_un, sat_test, sat_truth, sat_and, sat_or, sat_not, sat_yes, sat_andv, sat_notv, sat_chain, sat_nil, sat_cons, sat_args, sat_call, sat_callX, sat_meth, sat_one, sat_oNone, sat_oSome, sat_sl, sat_tup, sat_lst, sat_loc, ss_nil, ss_seq, ss_set, ss_expr, ss_ret, ss_retN, ss_if, ss_tg, ss_par, ss_sub, ss_for, sat_comp, setTg, setTgs, wipeP, sizeLine_eq, List.map_cons, List.map_nil, List.length_cons, List.length_nil, List.cons_append, List.nil_append, List.set_cons_zero, List.set_cons_succ, List.getElem?_cons_zero, List.getElem?_cons_succ, Nat.reduceAdd, Nat.reduceSub, Nat.reduceLeDiff, List.reduceReplicate, Option.some.injEq, exists_eq_left', true_and, and_true, Nat.zero_add, o_addI, o_addS, o_addT, o_addL, o_subI, o_mulI, o_fdivI, o_modI, o_powI, o_negI, o_eqI, o_neI, o_eqS, o_neS, o_ltI, o_gtI, o_leI, o_geI, o_ltS, o_geS, o_inS, o_notInS, o_isN, o_isNotN, o_isT, o_isNotT, o_isS, o_isNotS, o_int, o_intB, o_abs, o_str, o_lenT, o_lenL, o_lenF, o_lenS, o_ixT, o_ixL, o_ixF, ixW_0, ixW_1, ixW_2, o_isStr, o_tupL, o_tupT, o_listT, o_listL, o_listLocT, o_gcd, o_bits, o_finF, o_finT, sat_iVal, sat_iEnum, sat_iRange1, sat_iRange2, o_itT, o_itL, o_itF, o_itS, o_enT, o_rng, Int.reduceLE, Int.reduceLT, nabs, Nat.reducePow, Nat.reduceLT, Int.reduceToNat, Int.reducePow, true_and, and_true, or_true, true_or, and_self, if_true, if_false, Bool.false_eq_true, decide_true, decide_false, not_false_eq_true, List.length_map, o_ixP hs, o_set hs, decide_eq_false hb, ixN3_0, ixN3_1, ixN3_2, o_ixP (g _), o_set (g _), ss, m64, hl, hl2, log97]
    split
    · rename_i h
      exact fin1 _ _ _ ha (by simpa using h)
    · exact fin2 _ _ _ ha
theorem source_ok {ns : List Int} {st : Store} : Sat (m_law_source [scr ns] st) fun v s => v = .loc st.length ∧ ∃ o, s = st ++ [o] ∧ SrcAt s st.length := by
  refine sat_body ?_
  unfold f_law_source
  simp only [sat_ok, sat_bind, sat_v, sat_c, sat_bin, sat_un, sat_test, sat_truth, sat_and, sat_or, sat_not, sat_yes, sat_andv, sat_notv, sat_chain, sat_nil, sat_cons, sat_args, sat_call, sat_callX, sat_meth, sat_one, sat_oNone, sat_oSome, sat_sl, sat_tup, sat_lst, sat_loc, ss_nil, ss_seq, ss_set, ss_expr, ss_ret, ss_retN, ss_if, ss_tg, ss_par, ss_sub, ss_for, sat_comp, setTg, setTgs, wipeP, sizeLine_eq, List.map_cons, List.map_nil, List.length_cons, List.length_nil, List.cons_append, List.nil_append, List.set_cons_zero, List.set_cons_succ, List.getElem?_cons_zero, List.getElem?_cons_succ, Nat.reduceAdd, Nat.reduceSub, Nat.reduceLeDiff, List.reduceReplicate, Option.some.injEq, exists_eq_left', true_and, and_true, Nat.zero_add, o_addI, o_addS, o_addT, o_addL, o_subI, o_mulI, o_fdivI, o_modI, o_powI, o_negI, o_eqI, o_neI, o_eqS, o_neS, o_ltI, o_gtI, o_leI, o_geI, o_ltS, o_geS, o_inS, o_notInS, o_isN, o_isNotN, o_isT, o_isNotT, o_isS, o_isNotS, o_int, o_intB, o_abs, o_str, o_lenT, o_lenL, o_lenF, o_lenS, o_ixT, o_ixL, o_ixF, ixW_0, ixW_1, ixW_2, o_isStr, o_tupL, o_tupT, o_listT, o_listL, o_listLocT, o_gcd, o_bits, o_finF, o_finT, sat_iVal, sat_iEnum, sat_iRange1, sat_iRange2, o_itT, o_itL, o_itF, o_itS, o_enT, o_rng]
  refine for_inv0 (fun e s => s = st ∧ ∃ (m : Int) (z : Option PV), e = [some (scr ns), some (.int m), z]) ⟨rfl, _, _, rfl⟩ ?_ ?_
  · rintro v e s hv ⟨rfl, m, z, rfl⟩
    obtain ⟨c, -, rfl⟩ := List.mem_map.mp hv
    simp only [sat_ok, sat_bind, sat_v, sat_c, sat_bin, sat_un, sat_test, sat_truth, sat_and, sat_or, sat_not, sat_yes, sat_andv, sat_notv, sat_chain, sat_nil, sat_cons, sat_args, sat_call, sat_callX, sat_meth, sat_one, sat_oNone, sat_oSome, sat_sl, sat_tup, sat_lst, sat_loc, ss_nil, ss_seq, ss_set, ss_expr, ss_ret, ss_retN, ss_if, ss_tg, ss_par, ss_sub, ss_for, sat_comp, setTg, setTgs, wipeP, sizeLine_eq, List.map_cons, List.map_nil, List.length_cons, List.length_nil, List.cons_append, List.nil_append, List.set_cons_zero, List.set_cons_succ, List.getElem?_cons_zero, List.getElem?_cons_succ, Nat.reduceAdd, Nat.reduceSub, Nat.reduceLeDiff, List.reduceReplicate, Option.some.injEq, exists_eq_left', true_and, and_true, Nat.zero_add, o_addI, o_addS, o_addT, o_addL, o_subI, o_mulI, o_fdivI, o_modI, o_powI, o_negI, o_eqI, o_neI, o_eqS, o_neS, o_ltI, o_gtI, o_leI, o_geI, o_ltS, o_geS, o_inS, o_notInS, o_isN, o_isNotN, o_isT, o_isNotT, o_isS, o_isNotS, o_int, o_intB, o_abs, o_str, o_lenT, o_lenL, o_lenF, o_lenS, o_ixT, o_ixL, o_ixF, ixW_0, ixW_1, ixW_2, o_isStr, o_tupL, o_tupT, o_listT, o_listL, o_listLocT, o_gcd, o_bits, o_finF, o_finT, sat_iVal, sat_iEnum, sat_iRange1, sat_iRange2, o_itT, o_itL, o_itF, o_itS, o_enT, o_rng, Int.reduceLE, Int.reduceLT, nabs, Nat.reducePow, Nat.reduceLT, Int.reduceToNat, Int.reducePow, true_and, and_true, or_true, true_or, and_self, if_true, if_false, Bool.false_eq_true, decide_true, decide_false, not_false_eq_true, List.length_map]
    exact ⟨_, _, rfl⟩
  · rintro e s ⟨rfl, m, z, rfl⟩
    simp only [sat_ok, sat_bind, sat_v, sat_c, sat_bin, sat_un, sat_test, sat_truth, sat_and, sat_or, sat_not, sat_yes, sat_andv, sat_notv, sat_chain, sat_nil, sat_cons, sat_args, sat_call, sat_callX, sat_meth, sat_one, sat_oNone, sat_oSome, sat_sl, sat_tup, sat_lst, sat_loc, ss_nil, ss_seq, ss_set, ss_expr, ss_ret, ss_retN, ss_if, ss_tg, ss_par, ss_sub, ss_for, sat_comp, setTg, setTgs, wipeP, sizeLine_eq, List.map_cons, List.map_nil, List.length_cons, List.length_nil, List.cons_append, List.nil_append, List.set_cons_zero, List.set_cons_succ, List.getElem?_cons_zero, List.getElem?_cons_succ, Nat.reduceAdd, Nat.reduceSub, Nat.reduceLeDiff, List.reduceReplicate, Option.some.injEq, exists_eq_left', true_and, and_true, Nat.zero_add, o_addI, o_addS, o_addT, o_addL, o_subI, o_mulI, o_fdivI, o_modI, o_powI, o_negI, o_eqI, o_neI, o_eqS, o_neS, o_ltI, o_gtI, o_leI, o_geI, o_ltS, o_geS, o_inS, o_notInS, o_isN, o_isNotN, o_isT, o_isNotT, o_isS, o_isNotS, o_int, o_intB, o_abs, o_str, o_lenT, o_lenL, o_lenF, o_lenS, o_ixT, o_ixL, o_ixF, ixW_0, ixW_1, ixW_2, o_isStr, o_tupL, o_tupT, o_listT, o_listL, o_listLocT, o_gcd, o_bits, o_finF, o_finT, sat_iVal, sat_iEnum, sat_iRange1, sat_iRange2, o_itT, o_itL, o_itF, o_itS, o_enT, o_rng, Int.reduceLE, Int.reduceLT, nabs, Nat.reducePow, Nat.reduceLT, Int.reduceToNat, Int.reducePow, true_and, and_true, or_true, true_or, and_self, if_true, if_false, Bool.false_eq_true, decide_true, decide_false, not_false_eq_true, List.length_map]
    exact ⟨_, rfl, 0, 0, m, by simp, by decide⟩
/-! ### names -/
theorem draw_len {P : PV → Prop} {xs : List PV} {r : Int} (h0 : 0 ≤ r) (h1 : r < xs.length) (p : ∀ y ∈ xs, P y) : ixW xs r P :=
  ixW_in h0 h1 fun y e => p y (List.mem_of_getElem? e)
theorem src_fr {st : Store} {l k : Nat} {o : PO} (h : k ≠ l) : (st.set l o)[k]? = st[k]? := List.getElem?_set_ne (Ne.symm h)
theorem set_self {st : Store} {l : Nat} {o : PO} (h : st[l]? = some o) : st.set l o = st := by
  obtain ⟨h1, h2⟩ := List.getElem?_eq_some_iff.mp h
  rw [← h2]
  exact List.set_getElem_self h1
theorem SrcAt.self {st : Store} {l : Nat} (h : SrcAt st l) : ∃ o, st = st.set l o := by
  obtain ⟨a, b, c, h, _⟩ := h
  exact ⟨_, (set_self h).symm⟩
/-- the texts in use, as a list that's read (of the store, or finished) -/
def Used (st : Store) (v : PV) (l : Nat) (n : Nat) : Prop := ∃ (us : List Str) (b : Bool), us.length ≤ n ∧ ∀ o, seqOf (st.set l o) v = some (b, us.map .str)
theorem Used.set {st : Store} {v : PV} {l n : Nat} {o : PO} (h : Used st v l n) : Used (st.set l o) v l n := by
  obtain ⟨us, b, h1, h2⟩ := h
  exact ⟨us, b, h1, fun o' => by rw [List.set_set]; exact h2 o'⟩
theorem isDs_str (us : List Str) : isDs (us.map .str) = true := by induction us <;> simp_all [isDs, isD]
theorem depth_str (us : List Str) : PyData.depthAll (toDs (us.map .str)) = 0 := by induction us <;> simp_all [toDs, toD, PyData.depthAll, PyData.depth]
theorem o_inUsed {x : Str} {st : Store} {v : PV} {b : Bool} {us : List Str} {Q : PV → Store → Prop} (h : seqOf st v = some (b, us.map .str)) : Sat (pIn (.str x) v st) Q = Q (.bl (decide (x ∈ us))) st := by
  have hv : ∀ z, v ≠ .str z := fun z e => by subst e; cases h
  have e : pIn (.str x) v st = match seqOf st v with
    | some (_, xs) => if isD (.str x) = true ∧ isDs xs = true ∧ min (PyData.depthAll (toDs xs)) (toD (.str x)).depth ≤ 60 then .ok (.bl (inD (.str x) xs)) st else .stuck
    | none => .stuck := by
    unfold pIn
    cases v with
    | str z => exact absurd rfl (hv z)
    | _ => rfl
  rw [e, h]
  show Sat (if _ then _ else _) Q = _
  rw [if_pos ⟨by simp [isD], isDs_str us, by simp [toD, PyData.depth]⟩]
  have : inD (.str x) (us.map .str) = decide (x ∈ us) := by
    unfold inD
    rw [List.any_map]
    rw [Bool.eq_iff_iff]
    simp only [List.any_eq_true, Function.comp, decide_eq_true_eq, toD, PyData.eqv, beq_iff_eq]
    constructor
    · rintro ⟨y, m, rfl⟩; exact m
    · exact fun m => ⟨x, m, rfl⟩
  rw [this, sat_ok]
theorem str_len (i : Int) (h : 0 ≤ i) (h2 : i < 1000) : (strInt i).length ≤ 3 := by
  obtain ⟨k, rfl⟩ := Int.eq_ofNat_of_zero_le h
  have hk : k < 1000 := by omega
  have : ∀ k : Fin 1000, (strInt (k.val : Int)).length ≤ 3 := by decide +kernel
  exact this ⟨k, hk⟩
theorem len_app (x y : Str) : (x ++ y).length = x.length + y.length := by
  show (Array.append _ _).size = _
  first | (simp; done) | (simp [Array.size_append]; rfl)
end PL
/-! PL, part p: drawn names. -/
namespace PL
open PySem PySem.Spec PyProof.Rows L2
theorem ixS_in {z : Str} {i : Int} {st : Store} {Q : PV → Store → Prop} (hz : z.length ≤ sizeLine) (h0 : 0 ≤ i) (h1 : i < z.length) (p : ∀ c, Q (.str ⟨#[c]⟩) st) : Sat (pIx (.str z) (.int i) st) Q := by
  obtain ⟨k, rfl⟩ := Int.eq_ofNat_of_zero_le h0
  have hk : k < z.cps.toList.length := by
    have : z.length = z.cps.size := rfl
    rw [Array.length_toList]; omega
  have e : atI z.cps.toList (k : Int) = some z.cps.toList[k] := by
    unfold atI ixN
    rw [if_pos (by omega), if_pos (by omega)]
    simp [List.getElem?_eq_getElem hk]
  show Sat (match (if z.length ≤ sizeLine then atI z.cps.toList (k : Int) else none) with | some c => .ok (.str ⟨#[c]⟩) st | none => .stuck) Q
  rw [if_pos hz, e]
  exact ⟨_, _, rfl, p _⟩
theorem len1 {c : Nat} : (⟨#[c]⟩ : Str).length = 1 := rfl
theorem lenLet : ("abcdefghijklmnopqrstuvwxyz" : Str).length = 26 := by decide +kernel
theorem lenDig : ("0123456789" : Str).length = 10 := by decide +kernel
theorem rngs_len {n : Nat} {lo : Int} : (rngs lo n).length = n := by simp [rngs]
theorem rngs_get {lo : Int} {n i : Nat} {v : PV} (h : (rngs lo n)[i]? = some v) : i < n ∧ v = .int (lo + i) := by
  unfold rngs at h
  rw [List.getElem?_map] at h
  by_cases hi : i < n
  · rw [List.getElem?_range hi] at h
    cases h
    exact ⟨hi, rfl⟩
  · rw [List.getElem?_eq_none (by simpa using hi)] at h
    cases h
theorem sl16 {n : Nat} (h : n ≤ 16777216) : n ≤ sizeLine := by rw [sizeLine_eq]; exact h
theorem log2_small {n : Nat} (h : n < 1024) : n.log2 < 1920 := by
  by_cases h0 : n = 0
  · rw [h0]; decide
  · exact Nat.lt_trans ((Nat.log2_lt h0).mpr (show n < 2 ^ 10 from h)) (by decide)
/-! the names that are tried -/
def unStr (z : Str) : Nat := z.cps.toList.foldl (fun a c => a * 10 + (c - 48)) 0
theorem unStr_ok : ∀ k : Fin 1000, unStr (strInt (k.val : Int)) = k.val ∧ 1 ≤ (strInt (k.val : Int)).length := by decide +kernel
theorem str_inj {i j : Nat} (hi : i < 1000) (hj : j < 1000) (h : strInt (i : Int) = strInt (j : Int)) : i = j := by
  have a := (unStr_ok ⟨i, hi⟩).1
  have b := (unStr_ok ⟨j, hj⟩).1
  simp only at a b
  rw [← a, ← b, h]
theorem app_list (x y : Str) : (x ++ y).cps.toList = x.cps.toList ++ y.cps.toList := by
  show (Array.append _ _).toList = _
  first | (simp; done) | exact Array.toList_append
theorem str_ext {x y : Str} (h : x.cps.toList = y.cps.toList) : x = y := by
  cases x with
  | mk a => cases y with
    | mk b =>
      have : a = b := Array.toList_inj.mp h
      rw [this]
theorem app_inj {x y z : Str} (h : x ++ y = x ++ z) : y = z := by
  refine str_ext ?_
  have := congrArg (fun s : Str => s.cps.toList) h
  simp only [app_list] at this
  exact List.append_cancel_left this
def cand (b : Str) : Nat → Str
  | 0 => b
  | k + 1 => b ++ strInt (k : Int)
theorem cand_inj {b : Str} {i j : Nat} (hi : i ≤ 1000) (hj : j ≤ 1000) (h : cand b i = cand b j) : i = j := by
  cases i with
  | zero =>
    cases j with
    | zero => rfl
    | succ j =>
      have h2 : b = b ++ strInt (j : Int) := h
      have := congrArg Str.length h2
      rw [len_app] at this
      have := (unStr_ok ⟨j, by omega⟩).2
      simp only at this
      omega
  | succ i =>
    cases j with
    | zero =>
      have h2 : b ++ strInt (i : Int) = b := h
      have := congrArg Str.length h2
      rw [len_app] at this
      have := (unStr_ok ⟨i, by omega⟩).2
      simp only at this
      omega
    | succ j =>
      have h2 : b ++ strInt (i : Int) = b ++ strInt (j : Int) := h
      rw [str_inj (by omega) (by omega) (app_inj h2)]
theorem sub_len {α : Type} [DecidableEq α] : ∀ {l m : List α}, l.Nodup → (∀ x ∈ l, x ∈ m) → l.length ≤ m.length
  | [], m, _, _ => Nat.zero_le _
  | x :: l, m, hn, hs => by
    rw [List.nodup_cons] at hn
    have hx := hs x List.mem_cons_self
    have := sub_len (l := l) (m := m.erase x) hn.2 fun y hy => (List.mem_erase_of_ne (fun e : y = x => hn.1 (by rw [← e]; exact hy))).mpr (hs y (List.mem_cons_of_mem _ hy))
    rw [List.length_erase_of_mem hx] at this
    have := List.length_pos_of_mem hx
    simp only [List.length_cons]
    omega
theorem cand_out {b : Str} {us : List Str} (hn : us.length ≤ 900) : ¬ ∀ j, j ≤ us.length → cand b j ∈ us := by
  intro h
  have nd : ((List.range (us.length + 1)).map (cand b)).Nodup := by
    rw [List.nodup_iff_pairwise_ne, List.pairwise_map]
    refine List.Pairwise.imp_of_mem ?_ (List.nodup_iff_pairwise_ne.mp (List.nodup_range (n := us.length + 1)))
    intro i j mi mj hij e
    have := List.mem_range.mp mi
    have := List.mem_range.mp mj
    exact hij (cand_inj (by omega) (by omega) e)
  have := sub_len nd fun x m => by
    obtain ⟨j, mj, rfl⟩ := List.mem_map.mp m
    exact h j (by have := List.mem_range.mp mj; omega)
  simp at this
  omega
theorem name_rest {ns : List Int} {l : Nat} {us : List Str} {used : PV} {st : Store} {w : Option PV} (hu : ∃ b, ∀ o, seqOf (st.set l o) used = some (b, us.map .str)) (hn : us.length ≤ 900) (z : Str) (o : PO) (a b : PV) (hz : z.length ≤ 3) (s5 : SrcAt (st.set l o) l) :
    Sat (pLen used (st.set l o)) fun v s => Sat (pAdd v (.int 1) s) fun v s => Sat (pRange1 [v] s) fun p s =>
        SatS (sForL (.one 6) (sIf (eTest (eBin pIn (eVar 5) (eVar 2))) (sSet 5 (eBin pAdd (eVar 7) (eArgs (one pStr) (aCons (eVar 6) aNil)))) sNil) p.ok p.xs
          [some (scr ns), some (.loc l), some used, some a, some b, some (.str z), w, some (.str z)] s)
          (fun e s => SatS (sRet (eVar 5) e s) (fun _ s => ∃ z o, PV.non = .str z ∧ z.length ≤ 6 ∧ z ∉ us ∧ s = st.set l o ∧ SrcAt s l) fun v s => ∃ z o, v = .str z ∧ z.length ≤ 6 ∧ z ∉ us ∧ s = st.set l o ∧ SrcAt s l)
          (fun v s => ∃ z o, v = .str z ∧ z.length ≤ 6 ∧ z ∉ us ∧ s = st.set l o ∧ SrcAt s l) := by
  obtain ⟨bb, hus⟩ := hu
  have e1 : pLen used (st.set l o) = .ok (.int us.length) (st.set l o) := by
    have q := hus o
    unfold pLen
    cases used with
    | str x => cases q
    | _ => simp only [q, List.length_map]
  rw [e1, sat_ok, o_addI, o_rng]
  refine ⟨by omega, ?_⟩
  refine for_invN (k := 0) (fun i e s => ∃ z' w, e = [some (scr ns), some (.loc l), some used, some a, some b, some (.str z'), w, some (.str z)] ∧ z'.length ≤ 6 ∧ s = st.set l o ∧ (z' ∉ us ∨ (z' = cand z i ∧ ∀ j, j < i → cand z j ∈ us)))
    ⟨_, _, rfl, by omega, rfl, .inr ⟨rfl, fun j hj => absurd hj (Nat.not_lt_zero _)⟩⟩ ?_ ?_
  · rintro i v e s hv ⟨z', w', rfl, hz', rfl, hc⟩
    obtain ⟨hi, rfl⟩ := rngs_get hv
    rw [Nat.zero_add] at hc ⊢
    refine ⟨_, rfl, ?_⟩
    rw [ss_if, sat_test, sat_bin, sat_var rfl, sat_var rfl, o_inUsed (hus o), sat_truth]
    by_cases hin : z' ∈ us
    · rw [decide_eq_true hin, if_pos rfl]
      have q := str_len (0 + (i : Int)) (by omega) (by omega)
      rw [ss_set, sat_bin, sat_var rfl, sat_args, sat_cons, sat_var rfl, sat_nil, sat_one, o_str, o_addS]
      refine ⟨log2_small (by omega), sl16 (by omega), _, _, rfl, by rw [len_app]; omega, rfl, .inr ⟨by rw [Int.zero_add]; rfl, fun j hj => ?_⟩⟩
      rcases hc with hc | ⟨hc1, hc2⟩
      · exact absurd hin hc
      · rcases Nat.lt_succ_iff_lt_or_eq.mp hj with z | z
        · exact hc2 j z
        · rw [z, ← hc1]; exact hin
    · rw [decide_eq_false hin, if_neg (by simp), ss_nil]
      exact ⟨_, _, rfl, hz', rfl, .inl hin⟩
  · rintro e s ⟨z', w', rfl, hz', rfl, hc⟩
    rw [ss_ret, sat_var rfl]
    refine ⟨_, _, rfl, hz', ?_, rfl, s5⟩
    rcases hc with hc | ⟨hc1, hc2⟩
    · exact hc
    · rw [rngs_len] at hc2
      exact absurd (fun j hj => hc2 j (by omega)) (cand_out (b := z) hn)
theorem name_ok {ns : List Int} {l : Nat} {us : List Str} {used : PV} {st : Store} (hs : SrcAt st l) (hu : ∃ b, ∀ o, seqOf (st.set l o) used = some (b, us.map .str)) (hn : us.length ≤ 900) :
    Sat (m_law_name [scr ns, .loc l, used] st) fun v s => ∃ z o, v = .str z ∧ z.length ≤ 6 ∧ z ∉ us ∧ s = st.set l o ∧ SrcAt s l := by
  refine sat_body ?_
  unfold f_law_name
  simp only [sat_ok, sat_bind, sat_v, sat_c, sat_bin, sat_un, sat_test, sat_truth, sat_and, sat_or, sat_not, sat_yes, sat_andv, sat_notv, sat_chain, sat_nil, sat_cons, sat_args, sat_call, sat_callX, sat_meth, sat_one, sat_oNone, sat_oSome, sat_sl, sat_tup, sat_lst, sat_loc, ss_nil, ss_seq, ss_set, ss_expr, ss_ret, ss_retN, ss_if, ss_tg, ss_par, ss_sub, ss_for, sat_comp, setTg, setTgs, wipeP, sizeLine_eq, List.map_cons, List.map_nil, List.length_cons, List.length_nil, List.cons_append, List.nil_append, List.set_cons_zero, List.set_cons_succ, List.getElem?_cons_zero, List.getElem?_cons_succ, Nat.reduceAdd, Nat.reduceSub, Nat.reduceLeDiff, List.reduceReplicate, Option.some.injEq, exists_eq_left', true_and, and_true, Nat.zero_add, o_addI, o_addS, o_addT, o_addL, o_subI, o_mulI, o_fdivI, o_modI, o_powI, o_negI, o_eqI, o_neI, o_eqS, o_neS, o_ltI, o_gtI, o_leI, o_geI, o_ltS, o_geS, o_inS, o_notInS, o_isN, o_isNotN, o_isT, o_isNotT, o_isS, o_isNotS, o_int, o_intB, o_abs, o_str, o_lenT, o_lenL, o_lenF, o_lenS, o_ixT, o_ixL, o_ixF, ixW_0, ixW_1, ixW_2, o_isStr, o_tupL, o_tupT, o_listT, o_listL, o_listLocT, o_gcd, o_bits, o_finF, o_finT, sat_iVal, sat_iEnum, sat_iRange1, sat_iRange2, o_itT, o_itL, o_itF, o_itS, o_enT, o_rng, lenLet, lenDig]
  refine (draw_ok hs (by decide) (by decide)).mono ?_
  rintro _ _ ⟨r, o1, rfl, h0, h1, rfl, s1⟩
  refine ixS_in (by rw [lenLet]; exact sl16 (by decide)) h0 (by rw [lenLet]; omega) fun c1 => ?_
  refine (draw_ok s1 (by decide) (by decide)).mono ?_
  rintro _ _ ⟨r2, o2, rfl, g0, g1, rfl, s2⟩
  simp only [sat_ok, sat_bind, sat_v, sat_c, sat_bin, sat_un, sat_test, sat_truth, sat_and, sat_or, sat_not, sat_yes, sat_andv, sat_notv, sat_chain, sat_nil, sat_cons, sat_args, sat_call, sat_callX, sat_meth, sat_one, sat_oNone, sat_oSome, sat_sl, sat_tup, sat_lst, sat_loc, ss_nil, ss_seq, ss_set, ss_expr, ss_ret, ss_retN, ss_if, ss_tg, ss_par, ss_sub, ss_for, sat_comp, setTg, setTgs, wipeP, sizeLine_eq, List.map_cons, List.map_nil, List.length_cons, List.length_nil, List.cons_append, List.nil_append, List.set_cons_zero, List.set_cons_succ, List.getElem?_cons_zero, List.getElem?_cons_succ, Nat.reduceAdd, Nat.reduceSub, Nat.reduceLeDiff, List.reduceReplicate, Option.some.injEq, exists_eq_left', true_and, and_true, Nat.zero_add, o_addI, o_addS, o_addT, o_addL, o_subI, o_mulI, o_fdivI, o_modI, o_powI, o_negI, o_eqI, o_neI, o_eqS, o_neS, o_ltI, o_gtI, o_leI, o_geI, o_ltS, o_geS, o_inS, o_notInS, o_isN, o_isNotN, o_isT, o_isNotT, o_isS, o_isNotS, o_int, o_intB, o_abs, o_str, o_lenT, o_lenL, o_lenF, o_lenS, o_ixT, o_ixL, o_ixF, ixW_0, ixW_1, ixW_2, o_isStr, o_tupL, o_tupT, o_listT, o_listL, o_listLocT, o_gcd, o_bits, o_finF, o_finT, sat_iVal, sat_iEnum, sat_iRange1, sat_iRange2, o_itT, o_itL, o_itF, o_itS, o_enT, o_rng]
  refine ⟨by omega, ?_⟩
  have lS : (("abcdefghijklmnopqrstuvwxyz" : Str) ++ ("0123456789" : Str)).length = 36 := by rw [len_app, lenLet, lenDig]
  refine for_invN (k := 0) (fun i e s => ∃ z o w, e = [some (scr ns), some (.loc l), some used, some (.str "abcdefghijklmnopqrstuvwxyz"), some (.str ("abcdefghijklmnopqrstuvwxyz" ++ "0123456789")), some (.str z), w, none] ∧ z.length ≤ 1 + i ∧ s = st.set l o ∧ SrcAt s l)
    ⟨_, o2, none, rfl, by rw [len1]; omega, by rw [List.set_set], s2⟩ ?_ ?_
  · rintro i v e s hv ⟨z, o, w, rfl, hz, rfl, s3⟩
    obtain ⟨hi, rfl⟩ := rngs_get hv
    simp only [sat_ok, sat_bind, sat_v, sat_c, sat_bin, sat_un, sat_test, sat_truth, sat_and, sat_or, sat_not, sat_yes, sat_andv, sat_notv, sat_chain, sat_nil, sat_cons, sat_args, sat_call, sat_callX, sat_meth, sat_one, sat_oNone, sat_oSome, sat_sl, sat_tup, sat_lst, sat_loc, ss_nil, ss_seq, ss_set, ss_expr, ss_ret, ss_retN, ss_if, ss_tg, ss_par, ss_sub, ss_for, sat_comp, setTg, setTgs, wipeP, sizeLine_eq, List.map_cons, List.map_nil, List.length_cons, List.length_nil, List.cons_append, List.nil_append, List.set_cons_zero, List.set_cons_succ, List.getElem?_cons_zero, List.getElem?_cons_succ, Nat.reduceAdd, Nat.reduceSub, Nat.reduceLeDiff, List.reduceReplicate, Option.some.injEq, exists_eq_left', true_and, and_true, Nat.zero_add, o_addI, o_addS, o_addT, o_addL, o_subI, o_mulI, o_fdivI, o_modI, o_powI, o_negI, o_eqI, o_neI, o_eqS, o_neS, o_ltI, o_gtI, o_leI, o_geI, o_ltS, o_geS, o_inS, o_notInS, o_isN, o_isNotN, o_isT, o_isNotT, o_isS, o_isNotS, o_int, o_intB, o_abs, o_str, o_lenT, o_lenL, o_lenF, o_lenS, o_ixT, o_ixL, o_ixF, ixW_0, ixW_1, ixW_2, o_isStr, o_tupL, o_tupT, o_listT, o_listL, o_listLocT, o_gcd, o_bits, o_finF, o_finT, sat_iVal, sat_iEnum, sat_iRange1, sat_iRange2, o_itT, o_itL, o_itF, o_itS, o_enT, o_rng]
    refine (draw_ok s3 (by decide) (by decide)).mono ?_
    rintro _ _ ⟨r3, o3, rfl, k0, k1, rfl, s4⟩
    refine ixS_in (by rw [lS]; exact sl16 (by decide)) k0 (by rw [lS]; omega) fun c => ?_
    simp only [o_addI, o_addS, o_addT, o_addL, o_subI, o_mulI, o_fdivI, o_modI, o_powI, o_negI, o_eqI, o_neI, o_eqS, o_neS, o_ltI, o_gtI, o_leI, o_geI, o_ltS, o_geS, o_inS, o_notInS, o_isN, o_isNotN, o_isT, o_isNotT, o_isS, o_isNotS, o_int, o_intB, o_abs, o_str, o_lenT, o_lenL, o_lenF, o_lenS, o_ixT, o_ixL, o_ixF, ixW_0, ixW_1, ixW_2, o_isStr, o_tupL, o_tupT, o_listT, o_listL, o_listLocT, o_gcd, o_bits, o_finF, o_finT, sat_iVal, sat_iEnum, sat_iRange1, sat_iRange2, o_itT, o_itL, o_itF, o_itS, o_enT, o_rng]
    refine ⟨by rw [len1]; exact sl16 (by omega), _, o3, _, rfl, by rw [len_app, len1]; omega, by rw [List.set_set], s4⟩
  · rintro e s ⟨z, o, w, rfl, hz, rfl, s3⟩
    rw [rngs_len] at hz
    have hz : z.length ≤ 3 := by omega
    simp only [sat_ok, sat_bind, sat_v, sat_c, sat_bin, sat_un, sat_test, sat_truth, sat_and, sat_or, sat_not, sat_yes, sat_andv, sat_notv, sat_chain, sat_nil, sat_cons, sat_args, sat_call, sat_callX, sat_meth, sat_one, sat_oNone, sat_oSome, sat_sl, sat_tup, sat_lst, sat_loc, ss_nil, ss_seq, ss_set, ss_expr, ss_ret, ss_retN, ss_if, ss_tg, ss_par, ss_sub, ss_for, sat_comp, setTg, setTgs, wipeP, sizeLine_eq, List.map_cons, List.map_nil, List.length_cons, List.length_nil, List.cons_append, List.nil_append, List.set_cons_zero, List.set_cons_succ, List.getElem?_cons_zero, List.getElem?_cons_succ, Nat.reduceAdd, Nat.reduceSub, Nat.reduceLeDiff, List.reduceReplicate, Option.some.injEq, exists_eq_left', true_and, and_true, Nat.zero_add, o_addI, o_addS, o_addT, o_addL, o_subI, o_mulI, o_fdivI, o_modI, o_powI, o_negI, o_eqI, o_neI, o_eqS, o_neS, o_ltI, o_gtI, o_leI, o_geI, o_ltS, o_geS, o_inS, o_notInS, o_isN, o_isNotN, o_isT, o_isNotT, o_isS, o_isNotS, o_int, o_intB, o_abs, o_str, o_lenT, o_lenL, o_lenF, o_lenS, o_ixT, o_ixL, o_ixF, ixW_0, ixW_1, ixW_2, o_isStr, o_tupL, o_tupT, o_listT, o_listL, o_listLocT, o_gcd, o_bits, o_finF, o_finT, sat_iVal, sat_iEnum, sat_iRange1, sat_iRange2, o_itT, o_itL, o_itF, o_itS, o_enT, o_rng]
    refine (draw_ok s3 (by decide) (by decide)).mono ?_
    rintro _ _ ⟨r3, o3, rfl, k0, k1, rfl, s4⟩
    simp only [sat_ok, sat_bind, sat_v, sat_c, sat_bin, sat_un, sat_test, sat_truth, sat_and, sat_or, sat_not, sat_yes, sat_andv, sat_notv, sat_chain, sat_nil, sat_cons, sat_args, sat_call, sat_callX, sat_meth, sat_one, sat_oNone, sat_oSome, sat_sl, sat_tup, sat_lst, sat_loc, ss_nil, ss_seq, ss_set, ss_expr, ss_ret, ss_retN, ss_if, ss_tg, ss_par, ss_sub, ss_for, sat_comp, setTg, setTgs, wipeP, sizeLine_eq, List.map_cons, List.map_nil, List.length_cons, List.length_nil, List.cons_append, List.nil_append, List.set_cons_zero, List.set_cons_succ, List.getElem?_cons_zero, List.getElem?_cons_succ, Nat.reduceAdd, Nat.reduceSub, Nat.reduceLeDiff, List.reduceReplicate, Option.some.injEq, exists_eq_left', true_and, and_true, Nat.zero_add, o_addI, o_addS, o_addT, o_addL, o_subI, o_mulI, o_fdivI, o_modI, o_powI, o_negI, o_eqI, o_neI, o_eqS, o_neS, o_ltI, o_gtI, o_leI, o_geI, o_ltS, o_geS, o_inS, o_notInS, o_isN, o_isNotN, o_isT, o_isNotT, o_isS, o_isNotS, o_int, o_intB, o_abs, o_str, o_lenT, o_lenL, o_lenF, o_lenS, o_ixT, o_ixL, o_ixF, ixW_0, ixW_1, ixW_2, o_isStr, o_tupL, o_tupT, o_listT, o_listL, o_listLocT, o_gcd, o_bits, o_finF, o_finT, sat_iVal, sat_iEnum, sat_iRange1, sat_iRange2, o_itT, o_itL, o_itF, o_itS, o_enT, o_rng]
    split
    · refine (draw_ok s4 (by decide) (by decide)).mono ?_
      rintro _ _ ⟨r4, o4, rfl, m0, m1, rfl, s5⟩
      simp only [sat_ok, sat_bind, sat_v, sat_c, sat_bin, sat_un, sat_test, sat_truth, sat_and, sat_or, sat_not, sat_yes, sat_andv, sat_notv, sat_chain, sat_nil, sat_cons, sat_args, sat_call, sat_callX, sat_meth, sat_one, sat_oNone, sat_oSome, sat_sl, sat_tup, sat_lst, sat_loc, ss_nil, ss_seq, ss_set, ss_expr, ss_ret, ss_retN, ss_if, ss_tg, ss_par, ss_sub, ss_for, sat_comp, setTg, setTgs, wipeP, sizeLine_eq, List.map_cons, List.map_nil, List.length_cons, List.length_nil, List.cons_append, List.nil_append, List.set_cons_zero, List.set_cons_succ, List.getElem?_cons_zero, List.getElem?_cons_succ, Nat.reduceAdd, Nat.reduceSub, Nat.reduceLeDiff, List.reduceReplicate, Option.some.injEq, exists_eq_left', true_and, and_true, Nat.zero_add, o_addI, o_addS, o_addT, o_addL, o_subI, o_mulI, o_fdivI, o_modI, o_powI, o_negI, o_eqI, o_neI, o_eqS, o_neS, o_ltI, o_gtI, o_leI, o_geI, o_ltS, o_geS, o_inS, o_notInS, o_isN, o_isNotN, o_isT, o_isNotT, o_isS, o_isNotS, o_int, o_intB, o_abs, o_str, o_lenT, o_lenL, o_lenF, o_lenS, o_ixT, o_ixL, o_ixF, ixW_0, ixW_1, ixW_2, o_isStr, o_tupL, o_tupT, o_listT, o_listL, o_listLocT, o_gcd, o_bits, o_finF, o_finT, sat_iVal, sat_iEnum, sat_iRange1, sat_iRange2, o_itT, o_itL, o_itF, o_itS, o_enT, o_rng]
      refine draw_len m0 (by simp only [List.length_cons, List.length_nil]; omega) fun y hy => ?_
      obtain ⟨z2, rfl, hz2⟩ : ∃ z2, y = .str z2 ∧ z2.length ≤ 3 := by
        simp only [List.mem_cons, List.not_mem_nil, or_false] at hy
        rcases hy with rfl | rfl | rfl | rfl | rfl | rfl <;> exact ⟨_, rfl, by decide +kernel⟩
      rw [List.set_set, List.set_set]
      have := name_rest (ns := ns) (w := w) hu hn z2 o4 (.str "abcdefghijklmnopqrstuvwxyz") (.str ("abcdefghijklmnopqrstuvwxyz" ++ "0123456789")) hz2 (by rw [List.set_set, List.set_set] at s5; exact s5)
      simpa only [sat_ok, sat_bind, sat_v, sat_c, sat_bin, sat_un, sat_test, sat_truth, sat_and, sat_or, sat_not, sat_yes, sat_andv, sat_notv, sat_chain, sat_nil, sat_cons, sat_args, sat_call, sat_callX, sat_meth, sat_one, sat_oNone, sat_oSome, sat_sl, sat_tup, sat_lst, sat_loc, ss_nil, ss_seq, ss_set, ss_expr, ss_ret, ss_retN, ss_if, ss_tg, ss_par, ss_sub, ss_for, sat_comp, setTg, setTgs, wipeP, sizeLine_eq, List.map_cons, List.map_nil, List.length_cons, List.length_nil, List.cons_append, List.nil_append, List.set_cons_zero, List.set_cons_succ, List.getElem?_cons_zero, List.getElem?_cons_succ, Nat.reduceAdd, Nat.reduceSub, Nat.reduceLeDiff, List.reduceReplicate, Option.some.injEq, exists_eq_left', true_and, and_true, Nat.zero_add, o_addI, o_addS, o_addT, o_addL, o_subI, o_mulI, o_fdivI, o_modI, o_powI, o_negI, o_eqI, o_neI, o_eqS, o_neS, o_ltI, o_gtI, o_leI, o_geI, o_ltS, o_geS, o_inS, o_notInS, o_isN, o_isNotN, o_isT, o_isNotT, o_isS, o_isNotS, o_int, o_intB, o_abs, o_str, o_lenT, o_lenL, o_lenF, o_lenS, o_ixT, o_ixL, o_ixF, ixW_0, ixW_1, ixW_2, o_isStr, o_tupL, o_tupT, o_listT, o_listL, o_listLocT, o_gcd, o_bits, o_finF, o_finT, sat_iVal, sat_iEnum, sat_iRange1, sat_iRange2, o_itT, o_itL, o_itF, o_itS, o_enT, o_rng] using this
    · rw [List.set_set]
      have := name_rest (ns := ns) (w := w) hu hn z o3 (.str "abcdefghijklmnopqrstuvwxyz") (.str ("abcdefghijklmnopqrstuvwxyz" ++ "0123456789")) hz (by rw [List.set_set] at s4; exact s4)
      simpa only [sat_ok, sat_bind, sat_v, sat_c, sat_bin, sat_un, sat_test, sat_truth, sat_and, sat_or, sat_not, sat_yes, sat_andv, sat_notv, sat_chain, sat_nil, sat_cons, sat_args, sat_call, sat_callX, sat_meth, sat_one, sat_oNone, sat_oSome, sat_sl, sat_tup, sat_lst, sat_loc, ss_nil, ss_seq, ss_set, ss_expr, ss_ret, ss_retN, ss_if, ss_tg, ss_par, ss_sub, ss_for, sat_comp, setTg, setTgs, wipeP, sizeLine_eq, List.map_cons, List.map_nil, List.length_cons, List.length_nil, List.cons_append, List.nil_append, List.set_cons_zero, List.set_cons_succ, List.getElem?_cons_zero, List.getElem?_cons_succ, Nat.reduceAdd, Nat.reduceSub, Nat.reduceLeDiff, List.reduceReplicate, Option.some.injEq, exists_eq_left', true_and, and_true, Nat.zero_add, o_addI, o_addS, o_addT, o_addL, o_subI, o_mulI, o_fdivI, o_modI, o_powI, o_negI, o_eqI, o_neI, o_eqS, o_neS, o_ltI, o_gtI, o_leI, o_geI, o_ltS, o_geS, o_inS, o_notInS, o_isN, o_isNotN, o_isT, o_isNotT, o_isS, o_isNotS, o_int, o_intB, o_abs, o_str, o_lenT, o_lenL, o_lenF, o_lenS, o_ixT, o_ixL, o_ixF, ixW_0, ixW_1, ixW_2, o_isStr, o_tupL, o_tupT, o_listT, o_listL, o_listLocT, o_gcd, o_bits, o_finF, o_finT, sat_iVal, sat_iEnum, sat_iRange1, sat_iRange2, o_itT, o_itL, o_itF, o_itS, o_enT, o_rng] using this
end PL
/-! PL, part q: frames; divisors. -/
namespace PL
open PySem PySem.Spec PyProof.Rows L2
/-- but the places in L all stands; the store may have grown -/
structure Gr (L : List Nat) (st s : Store) : Prop where
  len : st.length ≤ s.length
  same : ∀ k, k < st.length → k ∉ L → s[k]? = st[k]?
theorem Gr.refl {L : List Nat} {st : Store} : Gr L st st := ⟨Nat.le_refl _, fun _ _ _ => rfl⟩
theorem Gr.trans {L : List Nat} {a b c : Store} (h : Gr L a b) (g : Gr L b c) : Gr L a c := ⟨Nat.le_trans h.len g.len, fun k hk n => (g.same k (Nat.lt_of_lt_of_le hk h.len) n).trans (h.same k hk n)⟩
theorem Gr.set {L : List Nat} {st : Store} {l : Nat} {o : PO} (h : l ∈ L) : Gr L st (st.set l o) := ⟨by simp, fun k _ n => List.getElem?_set_ne (fun e : l = k => n (e ▸ h))⟩
theorem Gr.app {L : List Nat} {st r : Store} : Gr L st (st ++ r) := ⟨by simp, fun k hk _ => List.getElem?_append_left hk⟩
theorem Gr.mono {L L' : List Nat} {st s : Store} (h : Gr L st s) (i : ∀ k ∈ L, k ∈ L') : Gr L' st s := ⟨h.len, fun k hk n => h.same k hk fun m => n (i k m)⟩
/-- places that are new are no one's concern -/
theorem Gr.cut {L L' : List Nat} {st s : Store} (h : Gr L st s) (i : ∀ k ∈ L, k < st.length → k ∈ L') : Gr L' st s := ⟨h.len, fun k hk n => h.same k hk fun m => n (i k m hk)⟩
theorem SrcAt.lt {st : Store} {l : Nat} (h : SrcAt st l) : l < st.length := by
  obtain ⟨a, b, c, h, _⟩ := h
  exact (List.getElem?_eq_some_iff.mp h).1
theorem lt_of_some {st : Store} {l : Nat} {o : PO} (h : st[l]? = some o) : l < st.length := (List.getElem?_eq_some_iff.mp h).1
theorem SrcAt.gr {L : List Nat} {st s : Store} {l : Nat} (h : SrcAt st l) (g : Gr L st s) (n : l ∉ L) : SrcAt s l := by
  have hl := h.lt
  obtain ⟨a, b, c, h, h0⟩ := h
  exact ⟨a, b, c, (g.same l hl n).trans h, h0⟩
theorem Gr.at' {L : List Nat} {st s : Store} {k : Nat} {o : PO} (g : Gr L st s) (h : st[k]? = some o) (n : k ∉ L) : s[k]? = some o := (g.same k (lt_of_some h) n).trans h
theorem draw' {ns : List Int} {l : Nat} {lim : Int} {st : Store} {Q : PV → Store → Prop} (hs : SrcAt st l) (hl : 0 < lim) (hl2 : lim.natAbs.log2 < 9000)
    (k : ∀ r s, 0 ≤ r → r < lim → SrcAt s l → Gr [l] st s → Q (.int r) s) : Sat (m_law_draw [scr ns, .loc l, .int lim] st) Q := by
  refine (draw_ok hs hl hl2).mono ?_
  rintro _ _ ⟨r, o, rfl, h0, h1, rfl, s1⟩
  exact k r _ h0 h1 s1 (.set (by simp))
/-- texts that are read: finished, or at a place other than l -/
structure Use (st : Store) (v : PV) (l n : Nat) (us : List Str) : Prop where
  ex : ∃ b, seqOf st v = some (b, us.map .str)
  len : us.length ≤ n
  ne : v ≠ .loc l
theorem seqOf_gr {L : List Nat} {st s : Store} {v : PV} {q : Bool × List PV} (g : Gr L st s) (h : seqOf st v = some q) (n : ∀ k ∈ L, v ≠ .loc k) : seqOf s v = some q := by
  cases v with
  | loc k =>
    unfold seqOf at h ⊢
    simp only at h ⊢
    split at h
    · rename_i xs e
      have : s[k]? = some (.lst xs) := g.at' e fun m => n k m rfl
      simp only [this]
      exact h
    · cases h
  | _ => exact h
theorem Use.gr {L : List Nat} {st s : Store} {v : PV} {l n : Nat} {us : List Str} (u : Use st v l n us) (g : Gr L st s) (h : ∀ k ∈ L, v ≠ .loc k) : Use s v l n us :=
  ⟨let ⟨b, e⟩ := u.ex; ⟨b, seqOf_gr g e h⟩, u.len, u.ne⟩
theorem Use.nil {st : Store} {l n : Nat} : Use st (.lst []) l n [] := ⟨⟨false, rfl⟩, Nat.zero_le _, nofun⟩
theorem Use.lst {st : Store} {l n : Nat} {us : List Str} (h : us.length ≤ n) : Use st (.lst (us.map .str)) l n us := ⟨⟨false, rfl⟩, h, nofun⟩
theorem Use.at' {st : Store} {l n k : Nat} {us : List Str} (h : st[k]? = some (.lst (us.map .str))) (hn : us.length ≤ n) (ne : k ≠ l) : Use st (.loc k) l n us :=
  ⟨⟨false, by unfold seqOf; simp only [h]⟩, hn, fun e => ne (by cases e; rfl)⟩
theorem name' {ns : List Int} {l n : Nat} {used : PV} {st : Store} {us : List Str} {Q : PV → Store → Prop} (hs : SrcAt st l) (hu : Use st used l n us) (hn : n ≤ 900)
    (k : ∀ z s, z.length ≤ 6 → z ∉ us → SrcAt s l → Gr [l] st s → Q (.str z) s) : Sat (m_law_name [scr ns, .loc l, used] st) Q := by
  obtain ⟨⟨b, e⟩, h2, h3⟩ := hu
  refine (name_ok hs (us := us) ⟨b, fun o => seqOf_gr (L := [l]) (.set (by simp)) e (by simpa using h3)⟩ (by omega)).mono ?_
  rintro _ _ ⟨z, o, rfl, h, hu2, rfl, s1⟩
  exact k z _ h hu2 s1 (.set (by simp))
/-! ### the greatest common divisor, by turns -/
theorem gcd_turns {a b g : Nat} (hg : Nat.gcd a b = g) (i : Nat) (B n : Nat) (hB : B < 2 ^ n) :
    (i % 2 = 0 → b * 2 ^ (i / 2) ≤ B → b ≠ 0 → b * 2 ^ (i / 2) ≤ B ∧ a % b < b ∧ Nat.gcd b (a % b) = g) ∧
    (i % 2 = 1 → a * 2 ^ (i / 2) ≤ B → b < a → b ≠ 0 → (a % b) * 2 ^ (i / 2 + 1) ≤ B ∧ Nat.gcd b (a % b) = g) := by
  refine ⟨fun _ h1 h2 => ⟨h1, Nat.mod_lt _ (Nat.pos_of_ne_zero h2), ?_⟩, fun _ h1 h2 h3 => ⟨?_, ?_⟩⟩
  · rw [Nat.gcd_comm, ← Nat.gcd_rec, Nat.gcd_comm]; exact hg
  · have h4 : 2 * (a % b) ≤ a := by
      have := Nat.mod_add_div a b
      have h5 : a % b < b := Nat.mod_lt _ (Nat.pos_of_ne_zero h3)
      have h6 : 1 ≤ a / b := (Nat.one_le_div_iff (Nat.pos_of_ne_zero h3)).mpr (Nat.le_of_lt h2)
      have h7 : b * 1 ≤ b * (a / b) := Nat.mul_le_mul_left _ h6
      omega
    calc (a % b) * 2 ^ (i / 2 + 1) = (2 * (a % b)) * 2 ^ (i / 2) := by rw [Nat.pow_succ]; ac_rfl
      _ ≤ a * 2 ^ (i / 2) := Nat.mul_le_mul_right _ h4
      _ ≤ B := h1
  · rw [Nat.gcd_comm, ← Nat.gcd_rec, Nat.gcd_comm]; exact hg
theorem imod_nat (a b : Nat) : ((a : Int) % (b : Int)) = ((a % b : Nat) : Int) := rfl
theorem bits_lt (b : Nat) : b < 2 ^ (Builtin.Int.intBits (b : Int)) := by
  unfold Builtin.Int.intBits
  by_cases h : b = 0
  · subst h; decide
  · have : ((b : Int) == 0) = false := by simpa using h
    rw [this]
    show b < 2 ^ (((b : Int).natAbs).log2 + 1)
    rw [Int.natAbs_natCast]
    exact (Nat.log2_lt h).mp (Nat.lt_succ_self _)
theorem gcd_ok {a b : Nat} {st : Store} (hb : Builtin.Int.intBits (b : Int) < 1000000) : Sat (m_law_gcd [.int a, .int b] st) fun v s => v = .int (Nat.gcd a b) ∧ s = st := by
  refine sat_body ?_
  unfold f_law_gcd
  simp only [sat_ok, sat_bind, sat_v, sat_c, sat_bin, sat_un, sat_test, sat_truth, sat_and, sat_or, sat_not, sat_yes, sat_andv, sat_notv, sat_chain, sat_nil, sat_cons, sat_args, sat_call, sat_callX, sat_meth, sat_one, sat_oNone, sat_oSome, sat_sl, sat_tup, sat_lst, sat_loc, ss_nil, ss_seq, ss_set, ss_expr, ss_ret, ss_retN, ss_if, ss_tg, ss_par, ss_sub, ss_for, sat_comp, setTg, setTgs, wipeP, sizeLine_eq, List.map_cons, List.map_nil, List.length_cons, List.length_nil, List.cons_append, List.nil_append, List.set_cons_zero, List.set_cons_succ, List.getElem?_cons_zero, List.getElem?_cons_succ, Nat.reduceAdd, Nat.reduceSub, Nat.reduceLeDiff, List.reduceReplicate, Option.some.injEq, exists_eq_left', true_and, and_true, Nat.zero_add, o_addI, o_addS, o_addT, o_addL, o_subI, o_mulI, o_fdivI, o_modI, o_powI, o_negI, o_eqI, o_neI, o_eqS, o_neS, o_ltI, o_gtI, o_leI, o_geI, o_ltS, o_geS, o_inS, o_notInS, o_isN, o_isNotN, o_isT, o_isNotT, o_isS, o_isNotS, o_int, o_intB, o_abs, o_str, o_lenT, o_lenL, o_lenF, o_lenS, o_ixT, o_ixL, o_ixF, ixW_0, ixW_1, ixW_2, o_isStr, o_tupL, o_tupT, o_listT, o_listL, o_listLocT, o_gcd, o_bits, o_finF, o_finT, sat_iVal, sat_iEnum, sat_iRange1, sat_iRange2, o_itT, o_itL, o_itF, o_itS, o_enT, o_rng]
  have hlt := bits_lt b
  generalize hn : Builtin.Int.intBits (b : Int) = n at hlt hb ⊢
  refine ⟨.inl (.inl (by decide)), ⟨by omega, by omega⟩, ?_⟩
  refine for_invN (k := 0) (fun i e s => s = st ∧ ∃ (x y : Nat) (w : Option PV), e = [some (.int x), some (.int y), w] ∧ Nat.gcd x y = Nat.gcd a b ∧ (i % 2 = 0 → y * 2 ^ (i / 2) ≤ b) ∧ (i % 2 = 1 → x * 2 ^ (i / 2) ≤ b ∧ y < x))
    ⟨rfl, a, b, _, rfl, rfl, fun _ => by simp, fun h => by simp at h⟩ ?_ ?_
  · rintro i v e s hv ⟨rfl, x, y, w, rfl, hg, h0, h1⟩
    obtain ⟨hi, rfl⟩ := rngs_get hv
    refine ⟨_, rfl, ?_⟩
    rw [ss_seq, ss_if, sat_test, sat_bin, sat_var rfl, sat_c, o_eqI, sat_truth]
    by_cases hy : y = 0
    · subst hy
      rw [if_pos (by simp), ss_ret, sat_var rfl]
      rw [Nat.gcd_zero_right] at hg
      exact ⟨by rw [hg], rfl⟩
    · rw [if_neg (by simp; omega), ss_nil, ss_par, sat_cons, sat_var rfl, sat_cons, sat_bin, sat_args, sat_cons, sat_var rfl, sat_nil, sat_one, o_int, sat_var rfl, o_modI]
      refine ⟨by omega, ?_⟩
      rw [sat_nil]
      have T := gcd_turns hg (0 + i) b n hlt
      refine ⟨rfl, y, x % y, _, rfl, ?_, ?_, ?_⟩
      · rw [Nat.gcd_comm, ← Nat.gcd_rec, Nat.gcd_comm]; exact hg
      · intro hp
        have hp' : (0 + i) % 2 = 1 := by omega
        have e : (0 + i + 1) / 2 = (0 + i) / 2 + 1 := by omega
        rw [e]
        exact (T.2 hp' (h1 hp').1 (h1 hp').2 hy).1
      · intro hp
        have hp' : (0 + i) % 2 = 0 := by omega
        have e : (0 + i + 1) / 2 = (0 + i) / 2 := by omega
        rw [e]
        have := T.1 hp' (h0 hp') hy
        exact ⟨this.1, this.2.1⟩
  · rintro e s ⟨rfl, x, y, w, rfl, hg, h0, h1⟩
    rw [rngs_len] at h0
    have e1 : (0 + ((2 : Int) * (n : Int) + 2).toNat) = 2 * n + 2 := by omega
    rw [e1] at h0
    have h2 := h0 (by omega)
    have e2 : (2 * n + 2) / 2 = n + 1 := by omega
    rw [e2] at h2
    have hy : y = 0 := by
      rcases Nat.eq_zero_or_pos y with z | z
      · exact z
      · have : 1 * 2 ^ (n + 1) ≤ y * 2 ^ (n + 1) := Nat.mul_le_mul_right _ z
        rw [Nat.pow_succ] at this h2
        omega
    subst hy
    rw [Nat.gcd_zero_right] at hg
    exact ⟨by rw [hg], rfl⟩
end PL
/-! PL, part r: rows made by the draws. -/
namespace PL
open PySem PySem.Spec PyProof.Rows L2
abbrev ints' (ws : List Int) : List PV := ws.map .int
/-- weights of moderate size -/
def Mod1 (w : Int) : Prop := 1 ≤ w ∧ w.natAbs < 2 ^ 200
theorem Mod1.bits {w : Nat} (h : w < 2 ^ 200) : Builtin.Int.intBits (w : Int) < 1000000 := by
  unfold Builtin.Int.intBits
  by_cases h0 : w = 0
  · subst h0; decide
  · have : ((w : Int) == 0) = false := by simpa using h0
    rw [this]
    show ((w : Int).natAbs).log2 + 1 < 1000000
    rw [Int.natAbs_natCast]
    have := (Nat.log2_lt h0).mpr h
    omega
/-- the greatest common divisor of a row, as both read it -/
def gcds (ws : List Int) : Nat := ws.foldl (fun c w => Nat.gcd c w.natAbs) 0
theorem gcds_fold : ∀ (ws : List Int) (c : Nat), ws.foldl (fun c w => Nat.gcd c w.natAbs) c = Nat.gcd c (gcds ws)
  | [], c => by simp [gcds]
  | w :: ws, c => by
    rw [List.foldl_cons, gcds_fold ws]
    have : gcds (w :: ws) = Nat.gcd w.natAbs (gcds ws) := by
      unfold gcds
      rw [List.foldl_cons, gcds_fold ws, Nat.gcd_zero_left]
      rfl
    rw [this, Nat.gcd_assoc]
theorem gcds_cons (w : Int) (ws : List Int) : gcds (w :: ws) = Nat.gcd w.natAbs (gcds ws) := by
  show (w :: ws).foldl _ 0 = _
  rw [List.foldl_cons, gcds_fold, Nat.gcd_zero_left]
theorem gcds_dvd : ∀ {ws : List Int} {w : Int}, w ∈ ws → gcds ws ∣ w.natAbs
  | v :: ws, w, m => by
    rw [gcds_cons]
    rcases List.mem_cons.mp m with rfl | m
    · exact Nat.gcd_dvd_left ..
    · exact Nat.dvd_trans (Nat.gcd_dvd_right ..) (gcds_dvd m)
theorem gcds_pos {ws : List Int} (h : ∃ w ∈ ws, w ≠ 0) : 0 < gcds ws := by
  obtain ⟨w, m, h⟩ := h
  rcases Nat.eq_zero_or_pos (gcds ws) with z | z
  · have := gcds_dvd m
    rw [z] at this
    have := Nat.eq_zero_of_zero_dvd this
    omega
  · exact z
/-- what may be walked: a finished list or a place -/
def Walks (st : Store) (v : PV) (xs : List PV) : Prop := (v = .tup xs ∨ v = .lst xs ∨ v = .frz xs) ∨ ∃ l, v = .loc l ∧ st[l]? = some (.lst xs)
theorem Walks.iter {st : Store} {v : PV} {xs : List PV} (h : Walks st v xs) : ∃ p : Itms, pIter v st = .ok p st ∧ p.xs = xs ∧ p.ok st := by
  rcases h with (rfl | rfl | rfl) | ⟨l, rfl, h⟩
  · exact ⟨_, rfl, rfl, True.intro⟩
  · exact ⟨_, rfl, rfl, True.intro⟩
  · exact ⟨_, rfl, rfl, True.intro⟩
  · refine ⟨⟨xs, some (l, .lst xs)⟩, ?_, rfl, h⟩
    unfold pIter
    simp only
    rw [h]
theorem Walks.seq {st : Store} {v : PV} {xs : List PV} (h : Walks st v xs) : ∃ b, seqOf st v = some (b, xs) := by
  rcases h with (rfl | rfl | rfl) | ⟨l, rfl, h⟩
  · exact ⟨_, rfl⟩
  · exact ⟨_, rfl⟩
  · exact ⟨_, rfl⟩
  · exact ⟨false, by unfold seqOf; simp only [h]⟩
theorem Walks.tup {st : Store} {v : PV} {xs : List PV} {Q : PV → Store → Prop} (h : Walks st v xs) : Sat (pTuple v st) Q = Q (.tup xs) st := by
  obtain ⟨b, e⟩ := h.seq
  unfold pTuple
  rw [e]
  exact sat_ok
/-- for w in v: c = gcd(c, w), by the law's own divisor -/
theorem reduced_ok {st : Store} {v : PV} {ws : List Int} {Q : PV → Store → Prop} (hw : Walks st v (ints' ws)) (h1 : ∀ w ∈ ws, Mod1 w) (hn : ws.length ≤ 1000)
    (k : gcds ws = 0 ∨ 0 < gcds ws → Q (.tup (ints' (if gcds ws = 0 then ws else ws.map fun w => w / (gcds ws : Int)))) st) : Sat (m_law_reduced [v] st) Q := by
  refine sat_body ?_
  unfold f_law_reduced
  obtain ⟨p, hp, hx, hk⟩ := hw.iter
  simp only [sat_ok, sat_bind, sat_v, sat_c, sat_bin, sat_un, sat_test, sat_truth, sat_and, sat_or, sat_not, sat_yes, sat_andv, sat_notv, sat_chain, sat_nil, sat_cons, sat_args, sat_call, sat_callX, sat_meth, sat_one, sat_oNone, sat_oSome, sat_sl, sat_tup, sat_lst, sat_loc, ss_nil, ss_seq, ss_set, ss_expr, ss_ret, ss_retN, ss_if, ss_tg, ss_par, ss_sub, ss_for, sat_comp, setTg, setTgs, wipeP, sizeLine_eq, List.map_cons, List.map_nil, List.length_cons, List.length_nil, List.cons_append, List.nil_append, List.set_cons_zero, List.set_cons_succ, List.getElem?_cons_zero, List.getElem?_cons_succ, Nat.reduceAdd, Nat.reduceSub, Nat.reduceLeDiff, List.reduceReplicate, Option.some.injEq, exists_eq_left', true_and, and_true, Nat.zero_add, o_addI, o_addS, o_addT, o_addL, o_subI, o_mulI, o_fdivI, o_modI, o_powI, o_negI, o_eqI, o_neI, o_eqS, o_neS, o_ltI, o_gtI, o_leI, o_geI, o_ltS, o_geS, o_inS, o_notInS, o_isN, o_isNotN, o_isT, o_isNotT, o_isS, o_isNotS, o_int, o_intB, o_abs, o_str, o_lenT, o_lenL, o_lenF, o_lenS, o_ixT, o_ixL, o_ixF, ixW_0, ixW_1, ixW_2, o_isStr, o_tupL, o_tupT, o_listT, o_listL, o_listLocT, o_gcd, o_bits, o_finF, o_finT, sat_iVal, sat_iEnum, sat_iRange1, sat_iRange2, o_itT, o_itL, o_itF, o_itS, o_enT, o_rng, hp, hx]
  refine for_invN (k := 0) (fun i e s => s = st ∧ ∃ w, e = [some v, some (.int ((gcds (ws.take i) : Nat) : Int)), w]) ⟨rfl, none, rfl⟩ ?_ ?_ (fun i e s h => by rw [h.1]; exact hk)
  · rintro i x e s hv ⟨rfl, w, rfl⟩
    obtain ⟨z, hz, rfl⟩ : ∃ z, ws[i]? = some z ∧ x = .int z := by
      rw [List.getElem?_map] at hv
      cases e : ws[i]? with
      | none => rw [e] at hv; cases hv
      | some z => rw [e] at hv; cases hv; exact ⟨z, rfl, rfl⟩
    have hm := h1 z (List.mem_of_getElem? hz)
    obtain ⟨z, rfl⟩ := Int.eq_ofNat_of_zero_le (show 0 ≤ z by have := hm.1; omega)
    simp only [sat_ok, sat_bind, sat_v, sat_c, sat_bin, sat_un, sat_test, sat_truth, sat_and, sat_or, sat_not, sat_yes, sat_andv, sat_notv, sat_chain, sat_nil, sat_cons, sat_args, sat_call, sat_callX, sat_meth, sat_one, sat_oNone, sat_oSome, sat_sl, sat_tup, sat_lst, sat_loc, ss_nil, ss_seq, ss_set, ss_expr, ss_ret, ss_retN, ss_if, ss_tg, ss_par, ss_sub, ss_for, sat_comp, setTg, setTgs, wipeP, sizeLine_eq, List.map_cons, List.map_nil, List.length_cons, List.length_nil, List.cons_append, List.nil_append, List.set_cons_zero, List.set_cons_succ, List.getElem?_cons_zero, List.getElem?_cons_succ, Nat.reduceAdd, Nat.reduceSub, Nat.reduceLeDiff, List.reduceReplicate, Option.some.injEq, exists_eq_left', true_and, and_true, Nat.zero_add, o_addI, o_addS, o_addT, o_addL, o_subI, o_mulI, o_fdivI, o_modI, o_powI, o_negI, o_eqI, o_neI, o_eqS, o_neS, o_ltI, o_gtI, o_leI, o_geI, o_ltS, o_geS, o_inS, o_notInS, o_isN, o_isNotN, o_isT, o_isNotT, o_isS, o_isNotS, o_int, o_intB, o_abs, o_str, o_lenT, o_lenL, o_lenF, o_lenS, o_ixT, o_ixL, o_ixF, ixW_0, ixW_1, ixW_2, o_isStr, o_tupL, o_tupT, o_listT, o_listL, o_listLocT, o_gcd, o_bits, o_finF, o_finT, sat_iVal, sat_iEnum, sat_iRange1, sat_iRange2, o_itT, o_itL, o_itF, o_itS, o_enT, o_rng]
    have hb : gcds (ws.take i) < 2 ^ 200 := by
      rcases Nat.eq_zero_or_pos (gcds (ws.take i)) with q | q
      · rw [q]; exact Nat.two_pow_pos _
      · cases hi : ws.take i with
        | nil => rw [hi] at q; exact absurd q (by decide)
        | cons y ys =>
          have my : y ∈ ws := List.mem_of_mem_take (i := i) (by rw [hi]; exact List.mem_cons_self)
          have := Nat.le_of_dvd (show 0 < y.natAbs by have := (h1 y my).1; omega) (gcds_dvd (ws := y :: ys) List.mem_cons_self)
          exact Nat.lt_of_le_of_lt this (h1 y my).2
    refine (gcd_ok (Mod1.bits hb)).mono ?_
    rintro _ _ ⟨rfl, rfl⟩
    refine ⟨rfl, some (.int z), ?_⟩
    have : gcds (ws.take (i + 1)) = Nat.gcd z (gcds (ws.take i)) := by
      have e1 : ws.take (i + 1) = ws.take i ++ [(z : Int)] := by
        rw [List.take_add_one, hz]; rfl
      rw [e1]
      show (ws.take i ++ [(z : Int)]).foldl _ 0 = _
      rw [List.foldl_append]
      show Nat.gcd (gcds (ws.take i)) (z : Int).natAbs = _
      rw [Int.natAbs_natCast, Nat.gcd_comm]
    rw [this]
  · rintro e s ⟨rfl, w, rfl⟩
    have e1 : ws.take (0 + (ints' ws).length) = ws := by simp
    rw [e1]
    simp only [sat_ok, sat_bind, sat_v, sat_c, sat_bin, sat_un, sat_test, sat_truth, sat_and, sat_or, sat_not, sat_yes, sat_andv, sat_notv, sat_chain, sat_nil, sat_cons, sat_args, sat_call, sat_callX, sat_meth, sat_one, sat_oNone, sat_oSome, sat_sl, sat_tup, sat_lst, sat_loc, ss_nil, ss_seq, ss_set, ss_expr, ss_ret, ss_retN, ss_if, ss_tg, ss_par, ss_sub, ss_for, sat_comp, setTg, setTgs, wipeP, sizeLine_eq, List.map_cons, List.map_nil, List.length_cons, List.length_nil, List.cons_append, List.nil_append, List.set_cons_zero, List.set_cons_succ, List.getElem?_cons_zero, List.getElem?_cons_succ, Nat.reduceAdd, Nat.reduceSub, Nat.reduceLeDiff, List.reduceReplicate, Option.some.injEq, exists_eq_left', true_and, and_true, Nat.zero_add, o_addI, o_addS, o_addT, o_addL, o_subI, o_mulI, o_fdivI, o_modI, o_powI, o_negI, o_eqI, o_neI, o_eqS, o_neS, o_ltI, o_gtI, o_leI, o_geI, o_ltS, o_geS, o_inS, o_notInS, o_isN, o_isNotN, o_isT, o_isNotT, o_isS, o_isNotS, o_int, o_intB, o_abs, o_str, o_lenT, o_lenL, o_lenF, o_lenS, o_ixT, o_ixL, o_ixF, ixW_0, ixW_1, ixW_2, o_isStr, o_tupL, o_tupT, o_listT, o_listL, o_listLocT, o_gcd, o_bits, o_finF, o_finT, sat_iVal, sat_iEnum, sat_iRange1, sat_iRange2, o_itT, o_itL, o_itF, o_itS, o_enT, o_rng]
    by_cases h0 : gcds ws = 0
    · rw [if_pos (by simp [h0]), hw.tup]
      have := k (.inl h0)
      rw [if_pos h0] at this
      exact this
    · rw [if_neg (by simpa using h0)]
      have hpos : 0 < gcds ws := Nat.pos_of_ne_zero h0
      simp only [hp, hx, sat_ok]
      refine comp_inv (fun i acc t => t = s ∧ acc = ints' ((ws.take i).map fun w => w / (gcds ws : Int))) (k := 0) ⟨rfl, rfl⟩ ?_ ?_ (fun i a s h => by rw [h.1]; exact hk)
      · rintro i x t acc hv ⟨rfl, rfl⟩
        obtain ⟨z, hz, rfl⟩ : ∃ z, ws[i]? = some z ∧ x = .int z := by
          rw [List.getElem?_map] at hv
          cases e : ws[i]? with
          | none => rw [e] at hv; cases hv
          | some z => rw [e] at hv; cases hv; exact ⟨z, rfl, rfl⟩
        have hm := h1 z (List.mem_of_getElem? hz)
        simp only [sat_ok, sat_bind, sat_v, sat_c, sat_bin, sat_un, sat_test, sat_truth, sat_and, sat_or, sat_not, sat_yes, sat_andv, sat_notv, sat_chain, sat_nil, sat_cons, sat_args, sat_call, sat_callX, sat_meth, sat_one, sat_oNone, sat_oSome, sat_sl, sat_tup, sat_lst, sat_loc, ss_nil, ss_seq, ss_set, ss_expr, ss_ret, ss_retN, ss_if, ss_tg, ss_par, ss_sub, ss_for, sat_comp, setTg, setTgs, wipeP, sizeLine_eq, List.map_cons, List.map_nil, List.length_cons, List.length_nil, List.cons_append, List.nil_append, List.set_cons_zero, List.set_cons_succ, List.getElem?_cons_zero, List.getElem?_cons_succ, Nat.reduceAdd, Nat.reduceSub, Nat.reduceLeDiff, List.reduceReplicate, Option.some.injEq, exists_eq_left', true_and, and_true, Nat.zero_add, o_addI, o_addS, o_addT, o_addL, o_subI, o_mulI, o_fdivI, o_modI, o_powI, o_negI, o_eqI, o_neI, o_eqS, o_neS, o_ltI, o_gtI, o_leI, o_geI, o_ltS, o_geS, o_inS, o_notInS, o_isN, o_isNotN, o_isT, o_isNotT, o_isS, o_isNotS, o_int, o_intB, o_abs, o_str, o_lenT, o_lenL, o_lenF, o_lenS, o_ixT, o_ixL, o_ixF, ixW_0, ixW_1, ixW_2, o_isStr, o_tupL, o_tupT, o_listT, o_listL, o_listLocT, o_gcd, o_bits, o_finF, o_finT, sat_iVal, sat_iEnum, sat_iRange1, sat_iRange2, o_itT, o_itL, o_itF, o_itS, o_enT, o_rng, if_true]
        have hle : gcds ws ≤ z.natAbs := Nat.le_of_dvd (by have := hm.1; omega) (gcds_dvd (List.mem_of_getElem? hz))
        refine ⟨⟨by omega, ?_⟩, ?_, ?_⟩
        · rw [Int.natAbs_natCast]
          have := (Nat.log2_lt h0).mpr (Nat.lt_of_le_of_lt hle hm.2)
          omega
        · have : (ints' ((ws.take i).map fun w => w / (gcds ws : Int))).length ≤ 1000 := by simp; omega
          omega
        · have e1 : ws.take (i + 1) = ws.take i ++ [z] := by
            rw [List.take_add_one, hz]; rfl
          rw [e1]
          simp
      · rintro acc t ⟨rfl, rfl⟩
        have e1 : ws.take (0 + (ints' ws).length) = ws := by simp
        rw [e1]
        have := k (.inr hpos)
        rw [if_neg h0] at this
        simpa only [sat_ok, sat_bind, sat_v, sat_c, sat_bin, sat_un, sat_test, sat_truth, sat_and, sat_or, sat_not, sat_yes, sat_andv, sat_notv, sat_chain, sat_nil, sat_cons, sat_args, sat_call, sat_callX, sat_meth, sat_one, sat_oNone, sat_oSome, sat_sl, sat_tup, sat_lst, sat_loc, ss_nil, ss_seq, ss_set, ss_expr, ss_ret, ss_retN, ss_if, ss_tg, ss_par, ss_sub, ss_for, sat_comp, setTg, setTgs, wipeP, sizeLine_eq, List.map_cons, List.map_nil, List.length_cons, List.length_nil, List.cons_append, List.nil_append, List.set_cons_zero, List.set_cons_succ, List.getElem?_cons_zero, List.getElem?_cons_succ, Nat.reduceAdd, Nat.reduceSub, Nat.reduceLeDiff, List.reduceReplicate, Option.some.injEq, exists_eq_left', true_and, and_true, Nat.zero_add, o_addI, o_addS, o_addT, o_addL, o_subI, o_mulI, o_fdivI, o_modI, o_powI, o_negI, o_eqI, o_neI, o_eqS, o_neS, o_ltI, o_gtI, o_leI, o_geI, o_ltS, o_geS, o_inS, o_notInS, o_isN, o_isNotN, o_isT, o_isNotT, o_isS, o_isNotS, o_int, o_intB, o_abs, o_str, o_lenT, o_lenL, o_lenF, o_lenS, o_ixT, o_ixL, o_ixF, ixW_0, ixW_1, ixW_2, o_isStr, o_tupL, o_tupT, o_listT, o_listL, o_listLocT, o_gcd, o_bits, o_finF, o_finT, sat_iVal, sat_iEnum, sat_iRange1, sat_iRange2, o_itT, o_itL, o_itF, o_itS, o_enT, o_rng] using this
end PL
/-! PL, part s: the sets of a drawn game. -/
namespace PL
open PySem PySem.Spec PyProof.Rows L2
/-- a row as it is drawn -/
def GRow (v : PV) : Prop := ∃ (name : Str) (owner : Int) (ws : List Int), v = .tup [.str name, .int owner, .tup (ints' ws)] ∧ name.length ≤ 40 ∧ 1 ≤ ws.length ∧ ws.length ≤ 64 ∧ ∀ w ∈ ws, Mod1 w
theorem isDs_ints (ws : List Int) : isDs (ints' ws) = true := by induction ws <;> simp_all [isDs, isD, ints']
theorem toDs_ints (ws : List Int) : toDs (ints' ws) = ws.map .int := by induction ws <;> simp_all [toDs, toD, ints']
theorem alikeI : ∀ (a b : List Int), PySem.W.alikeAll (a.map PyData.int) (b.map PyData.int) = true
  | [], _ => by simp [PySem.W.alikeAll]
  | _ :: _, [] => by simp [PySem.W.alikeAll]
  | x :: xs, y :: ys => by simp [PySem.W.alikeAll, PySem.W.alike, alikeI xs ys]
theorem depth_ints (ws : List Int) : PyData.depthAll (ws.map PyData.int) = 0 := by induction ws <;> simp_all [PyData.depthAll, PyData.depth]
theorem GRow.toD {v : PV} (h : GRow v) : ∃ (n : Str) (o : Int) (ws : List Int), PL.toD v = .tuple [.str n, .int o, .tuple (ws.map .int)] ∧ isD v = true := by
  obtain ⟨n, o, ws, rfl, _⟩ := h
  exact ⟨n, o, ws, by simp [PL.toD, toDs, toDs_ints], by simp [isD, isDs, isDs_ints]⟩
theorem grow_sort {xs : List PV} (h : ∀ v ∈ xs, GRow v) : SortOk xs := by
  refine ⟨?_, ?_, .inl ?_, ?_⟩
  · induction xs with
    | nil => rfl
    | cons v xs ih =>
      obtain ⟨_, _, _, _, d⟩ := (h v List.mem_cons_self).toD
      simp [isDs, d, ih fun v m => h v (List.mem_cons_of_mem _ m)]
  · intro d hd e he
    rw [toDs_map, List.mem_map] at hd he
    obtain ⟨v, mv, rfl⟩ := hd
    obtain ⟨u, mu, rfl⟩ := he
    obtain ⟨n, o, ws, e1, _⟩ := (h v mv).toD
    obtain ⟨n', o', ws', e2, _⟩ := (h u mu).toD
    rw [e1, e2]
    simp only [PySem.W.alike, PySem.W.alikeAll, alikeI, Bool.and_self, Bool.true_and, Bool.and_true]
  · intro d hd
    rw [toDs_map, List.mem_map] at hd
    obtain ⟨v, mv, rfl⟩ := hd
    obtain ⟨n, o, ws, e1, _⟩ := (h v mv).toD
    exact ⟨_, _, e1⟩
  · intro d hd
    rw [toDs_map, List.mem_map] at hd
    obtain ⟨v, mv, rfl⟩ := hd
    obtain ⟨n, o, ws, e1, _⟩ := (h v mv).toD
    rw [e1]
    simp [PyData.depth, PyData.depthAll, depth_ints]
theorem sorted_ok {st : Store} {v : PV} {b : Bool} {xs : List PV} {Q : PV → Store → Prop} (hv : seqOf st v = some (b, xs)) (hn : xs.length ≤ 1000000) (h : ∀ v ∈ xs, GRow v)
    (k : Q (.lst (xs.mergeSort (PySem.W.dataLe false toD))) st) : Sat (pSortedA v st) Q := by
  unfold pSortedA
  rw [hv]
  simp only
  rw [if_pos ⟨grow_sort h, hn⟩, sat_ok]
  exact k
/-- a comprehension over a range -/
theorem comp_rng {i : Nat} {elt : EM} {env : PEnv} {n : Nat} {st : Store} {Q : List PV → Store → Prop} (E : PV → Prop) (I : Store → Prop) (hi : i < env.length) (hn : n ≤ 10000) (h0 : I st)
    (hs : ∀ (j : Nat) t, I t → Sat (elt (env.set i (some (.int (0 + (j : Int))))) t) fun y t' => E y ∧ I t') (hd : ∀ ys t, ys.length = n → (∀ y ∈ ys, E y) → I t → Q ys t) :
    Sat (compL (.one i) tYesM elt (Itms.ok ⟨rngs 0 n, none⟩) (rngs 0 n) env st []) Q := by
  refine comp_inv (fun j acc t => acc.length = j ∧ (∀ y ∈ acc, E y) ∧ I t) (k := 0) ⟨rfl, nofun, h0⟩ ?_ ?_
  · rintro j v t acc hv ⟨hl, hE, hI⟩
    obtain ⟨hj, rfl⟩ := rngs_get hv
    refine ⟨_, rfl, ?_⟩
    rw [sat_yes, if_pos rfl]
    refine (hs j t hI).mono ?_
    rintro y t' ⟨hy, ht⟩
    refine ⟨by rw [sizeLine_eq]; omega, by simp [hl], fun z hz => ?_, ht⟩
    rcases List.mem_append.mp hz with m | m
    · exact hE z m
    · rw [List.mem_singleton.mp m]; exact hy
  · rintro acc t ⟨hl, hE, hI⟩
    rw [rngs_len] at hl
    exact hd acc t (by omega) hE hI
theorem ints_of {ys : List PV} {P : Int → Prop} (h : ∀ y ∈ ys, ∃ w, y = .int w ∧ P w) : ∃ ws : List Int, ys = ints' ws ∧ ∀ w ∈ ws, P w := by
  induction ys with
  | nil => exact ⟨[], rfl, nofun⟩
  | cons y ys ih =>
    obtain ⟨w, rfl, hw⟩ := h y List.mem_cons_self
    obtain ⟨ws, rfl, hws⟩ := ih fun z m => h z (List.mem_cons_of_mem _ m)
    refine ⟨w :: ws, rfl, fun z m => ?_⟩
    rcases List.mem_cons.mp m with rfl | m
    · exact hw
    · exact hws z m
/-- the reduced row is moderate -/
theorem red_mod {ws : List Int} (h : ∀ w ∈ ws, Mod1 w) : ∀ w ∈ (if gcds ws = 0 then ws else ws.map fun w => w / (gcds ws : Int)), Mod1 w := by
  by_cases h0 : gcds ws = 0
  · rw [if_pos h0]; exact h
  · rw [if_neg h0]
    intro w m
    obtain ⟨z, mz, rfl⟩ := List.mem_map.mp m
    have hz := h z mz
    obtain ⟨k, rfl⟩ := Int.eq_ofNat_of_zero_le (show 0 ≤ z by have := hz.1; omega)
    have hd : gcds ws ∣ k := by have := gcds_dvd mz; rwa [Int.natAbs_natCast] at this
    have hk : 0 < k := by have := hz.1; omega
    have hb := hz.2
    rw [Int.natAbs_natCast] at hb
    have e : ((k : Int) / (gcds ws : Int)) = ((k / gcds ws : Nat) : Int) := rfl
    refine ⟨?_, ?_⟩
    · show (1 : Int) ≤ (k : Int) / (gcds ws : Int)
      rw [e]
      have := Nat.div_pos (Nat.le_of_dvd hk hd) (Nat.pos_of_ne_zero h0)
      omega
    · show ((k : Int) / (gcds ws : Int)).natAbs < _
      rw [e, Int.natAbs_natCast]
      exact Nat.lt_of_le_of_lt (Nat.div_le_self ..) hb
theorem red_len {ws : List Int} : (if gcds ws = 0 then ws else ws.map fun w => w / (gcds ws : Int)).length = ws.length := by split <;> simp
theorem mod1_small {i : Int} (h1 : 1 ≤ i) (h2 : i < 1000000) : Mod1 i := ⟨h1, Nat.lt_of_lt_of_le (show i.natAbs < 2 ^ 20 by omega) (Nat.pow_le_pow_right (by decide) (by decide))⟩
theorem seq_mid {f g : SM} {env : PEnv} {st : Store} {N : PEnv → Store → Prop} {R : PV → Store → Prop} (M : PEnv → Store → Prop) (h1 : SatS (f env st) M R) (h2 : ∀ e s, M e s → SatS (g e s) N R) : SatS (sSeq f g env st) N R := by
  rw [ss_seq]
  exact h1.mono h2 fun _ _ z => z
end PL
/-! PL, part MA: rows and trees as data of Lean. -/
namespace PL
open PySem PySem.Spec PyProof.Rows L2
theorem det {α : Type} {r : Res α} {a : α} {st : Store} (h : ∀ Q : α → Store → Prop, Q a st → Sat r Q) : r = .ok a st := by
  obtain ⟨b, s, e, h1, h2⟩ := h (fun x s => x = a ∧ s = st) ⟨rfl, rfl⟩
  rw [e, h1, h2]
theorem t_ok {f : EM} {env : PEnv} {st : Store} {b : Bool} (h : ∀ Q : PV → Store → Prop, Q (.bl b) st → Sat (f env st) Q) : eTest f env st = .ok b st := by
  refine det fun Q k => ?_
  rw [sat_test]
  exact h _ (by rw [sat_truth]; exact k)
theorem tn_ok {f : TM} {env : PEnv} {st : Store} {b : Bool} (h : f env st = .ok b st) : tNotM f env st = .ok (!b) st := by
  refine det fun Q k => ?_
  rw [sat_not, h, sat_ok]; exact k
theorem ss_guard {c : TM} {rest : SM} {v : PV} {env : PEnv} {st : Store} {N R} {b : Bool} (hc : c env st = .ok b st) : SatS (sSeq (sIf c (sRet (eC v)) sNil) rest env st) N R = if b = true then R v st else SatS (rest env st) N R := by
  rw [ss_seq, ss_if, hc, sat_ok]
  cases b with
  | true => simp only [if_true, ss_ret, sat_c]
  | false => simp only [Bool.false_eq_true, if_false, ss_nil]
theorem ss_ifb {c : TM} {f g rest : SM} {env : PEnv} {st : Store} {N R} {b : Bool} (hc : c env st = .ok b st) : SatS (sSeq (sIf c f g) rest env st) N R = if b = true then SatS (f env st) (fun e s => SatS (rest e s) N R) R else SatS (g env st) (fun e s => SatS (rest e s) N R) R := by
  rw [ss_seq, ss_if, hc, sat_ok]
theorem sl1 {a : PV} : ([a] : List PV).length ≤ sizeLine := by rw [sizeLine_eq]; show 1 ≤ _; decide
theorem sl2 {a b : PV} : ([a, b] : List PV).length ≤ sizeLine := by rw [sizeLine_eq]; show 2 ≤ _; decide
theorem sl3 {a b c : PV} : ([a, b, c] : List PV).length ≤ sizeLine := by rw [sizeLine_eq]; show 3 ≤ _; decide
theorem sl0 : ([] : List PV).length ≤ sizeLine := Nat.zero_le _
theorem isNn_ne {r : PV} (h : r ≠ .non) : isNn r = false := by
  cases r with
  | non => exact absurd rfl h
  | _ => rfl
theorem gcds_take {ws : List Int} {i : Nat} {z : Int} (hz : ws[i]? = some z) : gcds (ws.take (i + 1)) = Nat.gcd (gcds (ws.take i)) z.natAbs := by
  rw [List.take_add_one, hz]
  show (ws.take i ++ [z]).foldl _ 0 = _
  rw [List.foldl_append]
  rfl
/-! ### kinds -/
theorem kit_ss : kitB "str" "str" = some true := by decide +kernel
theorem kit_ts : kitB "tuple" "str" = some false := by decide +kernel
theorem kit_ls : kitB "list" "str" = some false := by decide +kernel
theorem kit_is : kitB "int" "str" = some false := by decide +kernel
theorem kit_bs : kitB "bool" "str" = some false := by decide +kernel
theorem kit_sb : kitB "str" "bool" = some false := by decide +kernel
theorem kit_tb : kitB "tuple" "bool" = some false := by decide +kernel
theorem kit_lb : kitB "list" "bool" = some false := by decide +kernel
theorem kit_ib : kitB "int" "bool" = some false := by decide +kernel
theorem kit_bb : kitB "bool" "bool" = some true := by decide +kernel
theorem kit_si : kitB "str" "int" = some false := by decide +kernel
theorem kit_ti : kitB "tuple" "int" = some false := by decide +kernel
theorem kit_li : kitB "list" "int" = some false := by decide +kernel
theorem kit_ii : kitB "int" "int" = some true := by decide +kernel
theorem kit_sd : kitB "str" "dict" = some false := by decide +kernel
theorem kit_td : kitB "tuple" "dict" = some false := by decide +kernel
theorem kit_ld : kitB "list" "dict" = some false := by decide +kernel
theorem kit_tt : kitB "tuple" "tuple" = some true := by decide +kernel
theorem kit_lt : kitB "list" "tuple" = some false := by decide +kernel
theorem kit_ll : kitB "list" "list" = some true := by decide +kernel
theorem kit_tl : kitB "tuple" "list" = some false := by decide +kernel
theorem isi_of {v : PV} {n t : String} {b : Bool} {st : Store} {Q : PV → Store → Prop} (h1 : tyName st v = some t) (h2 : kitB t n = some b) : Sat (pIsi [v, .con (.ty n)] st) Q = Q (.bl b) st := by
  have : pIsi [v, .con (.ty n)] st = .ok (.bl b) st := by
    unfold pIsi
    simp only [h1, h2]
  rw [this, sat_ok]
theorem isi_s {z : Str} {st : Store} {Q : PV → Store → Prop} : Sat (pIsi [.str z, .con (.ty "str")] st) Q = Q (.bl true) st := isi_of rfl kit_ss
theorem isi_t {xs : List PV} {st : Store} {Q : PV → Store → Prop} : Sat (pIsi [.tup xs, .con (.ty "str")] st) Q = Q (.bl false) st := isi_of rfl kit_ts
theorem isi_tl {v : PV} {t : String} {st : Store} {Q : PV → Store → Prop} (h1 : tyName st v = some t) (h2 : kitAll t [.con (.ty "tuple"), .con (.ty "list")] = some true) : Sat (pIsi [v, .tup [.con (.ty "tuple"), .con (.ty "list")]] st) Q = Q (.bl true) st := by
  have : pIsi [v, .tup [.con (.ty "tuple"), .con (.ty "list")]] st = .ok (.bl true) st := by
    unfold pIsi
    simp only [h1, h2, allTys, if_true]
  rw [this, sat_ok]
theorem kits_t : kitAll "tuple" [.con (.ty "tuple"), .con (.ty "list")] = some true := by simp only [kitAll, kit_tt]
theorem kits_l : kitAll "list" [.con (.ty "tuple"), .con (.ty "list")] = some true := by simp only [kitAll, kit_lt, kit_ll]
/-! ### rows -/
structure Row where
  n : Str
  o : Int
  ws : List Int
def Row.pv (r : Row) : PV := .tup [.str r.n, .int r.o, .tup (ints' r.ws)]
structure Row.Ok (r : Row) : Prop where
  n : r.n.length ≤ 40
  w1 : 1 ≤ r.ws.length
  w2 : r.ws.length ≤ 64
  m : ∀ w ∈ r.ws, Mod1 w
theorem Row.Ok.g {r : Row} (h : r.Ok) : GRow r.pv := ⟨r.n, r.o, r.ws, rfl, h.n, h.w1, h.w2, h.m⟩
theorem GRow.row {v : PV} (h : GRow v) : ∃ r : Row, v = r.pv ∧ r.Ok := by
  obtain ⟨n, o, ws, rfl, h1, h2, h3, h4⟩ := h
  exact ⟨⟨n, o, ws⟩, rfl, h1, h2, h3, h4⟩
theorem rows_of {vs : List PV} (h : ∀ v ∈ vs, GRow v) : ∃ rs : List Row, vs = rs.map Row.pv ∧ ∀ r ∈ rs, r.Ok := by
  induction vs with
  | nil => exact ⟨[], rfl, nofun⟩
  | cons v vs ih =>
    obtain ⟨r, rfl, hr⟩ := (h v List.mem_cons_self).row
    obtain ⟨rs, rfl, hrs⟩ := ih fun x m => h x (List.mem_cons_of_mem _ m)
    refine ⟨r :: rs, rfl, fun x m => ?_⟩
    rcases List.mem_cons.mp m with rfl | m
    · exact hr
    · exact hrs x m
def rowLe (a b : Row) : Bool := PySem.W.dataLe false toD a.pv b.pv
theorem rowLe_total : PySem.W.TotalLe rowLe where
  trans := fun a b c => by unfold rowLe PySem.W.dataLe; exact (PySem.W.sortLe_total _ false _).trans _ _ _
  total := fun a b => by unfold rowLe PySem.W.dataLe; exact (PySem.W.sortLe_total _ false _).total _ _
theorem sort_rows (rs : List Row) : (rs.map Row.pv).mergeSort (PySem.W.dataLe false toD) = (rs.mergeSort rowLe).map Row.pv := (PySem.W.sort_maps Row.pv fun _ _ _ _ => rfl).symm
theorem sort_perm (rs : List Row) : (rs.mergeSort rowLe).Perm rs := List.mergeSort_perm ..
theorem sort_pair (rs : List Row) : (rs.mergeSort rowLe).Pairwise fun a b => rowLe a b = true := PySem.W.sort_pairwise rowLe_total rs
/-- a new row put in and taken out again -/
theorem sort_out {rs : List Row} {x : Row} (hp : rs.Pairwise fun a b => rowLe a b = true) (hx : ∀ r ∈ rs, r.n ≠ x.n) : ((rs ++ [x]).mergeSort rowLe).filter (fun r => !decide (r.n = x.n)) = rs := by
  have h1 : rs.Sublist ((rs ++ [x]).mergeSort rowLe) := List.sublist_mergeSort (fun a b c => rowLe_total.trans a b c) (fun a b => by have := rowLe_total.total a b; simpa using this) hp (List.sublist_append_left ..)
  have e1 : rs.filter (fun r => !decide (r.n = x.n)) = rs := List.filter_eq_self.mpr fun r m => by simp [hx r m]
  have h2 := h1.filter (fun r => !decide (r.n = x.n))
  rw [e1] at h2
  refine (h2.eq_of_length ?_).symm
  have h3 := ((sort_perm (rs ++ [x])).filter (fun r => !decide (r.n = x.n))).length_eq
  rw [h3, List.filter_append, e1]
  simp
/-! ### trees -/
inductive T where
  | leaf (z : Str)
  | node (n : Str) (cs : List T)
mutual
def T.pv : T → PV
  | .leaf z => .str z
  | .node n cs => .tup [.str n, .tup (T.pvs cs)]
def T.pvs : List T → List PV
  | [] => []
  | c :: cs => c.pv :: T.pvs cs
end
theorem T.pvs_map : ∀ cs : List T, T.pvs cs = cs.map T.pv
  | [] => by simp [T.pvs]
  | c :: cs => by simp [T.pvs, T.pvs_map cs]
theorem T.pvs_len {cs : List T} : (T.pvs cs).length = cs.length := by rw [T.pvs_map, List.length_map]
theorem T.pvs_get {cs : List T} {i : Nat} {v : PV} (h : (T.pvs cs)[i]? = some v) : ∃ c, cs[i]? = some c ∧ v = c.pv := by
  rw [T.pvs_map, List.getElem?_map] at h
  cases e : cs[i]? with
  | none => rw [e] at h; cases h
  | some c => rw [e] at h; cases h; exact ⟨c, rfl, rfl⟩
theorem T.pvs_at {cs : List T} {i : Nat} {c : T} (h : cs[i]? = some c) : (T.pvs cs)[i]? = some c.pv := by
  rw [T.pvs_map, List.getElem?_map, h]; rfl
/-- how deep, how broad -/
inductive T.Fit (c : Nat) : Nat → T → Prop
  | leaf {d : Nat} {z : Str} : z.length ≤ 60 → T.Fit c d (.leaf z)
  | node {d : Nat} {n : Str} {cs : List T} : n.length ≤ 60 → cs.length ≤ c → (∀ x ∈ cs, T.Fit c d x) → T.Fit c (d + 1) (.node n cs)
theorem T.Fit.up {c d : Nat} {t : T} (h : T.Fit c d t) : T.Fit c (d + 1) t := by
  induction h with
  | leaf h => exact .leaf h
  | node h1 h2 _ ih => exact .node h1 h2 ih
theorem T.Fit.mono {c c' : Nat} (hc : c ≤ c') : ∀ {d d' : Nat} {t : T}, T.Fit c d t → d ≤ d' → T.Fit c' d' t
  | _, _, _, .leaf h, _ => .leaf h
  | d + 1, 0, _, .node h1 h2 h3, h => by omega
  | d + 1, d' + 1, _, .node h1 h2 h3, h => .node h1 (Nat.le_trans h2 hc) fun x m => (h3 x m).mono hc (by omega)
/-- an induction for trees with the children's places -/
theorem T.ind {P : T → Prop} (h1 : ∀ z, P (.leaf z)) (h2 : ∀ n cs, (∀ x ∈ cs, P x) → P (.node n cs)) {c : Nat} : ∀ {d : Nat} {t : T}, T.Fit c d t → P t
  | _, _, .leaf _ => h1 _
  | _, _, .node _ _ h => h2 _ _ fun x m => T.ind h1 h2 (h x m)
/-! ### told -/
theorem eqv_self (v : PV) : PyData.eqv (toD v) (toD v) = true := PySem.SeqAt.eqv_refl_plain _ (plain_toD v)
theorem o_eqR {v : PV} {st : Store} {Q : PV → Store → Prop} (h : isD v = true) (h2 : (toD v).depth ≤ 64) : Sat (pEq v v st) Q = Q (.bl true) st := by
  unfold pEq
  rw [if_pos ⟨h, h, by omega⟩, sat_ok, eqv_self]
theorem o_neB {a b : Bool} {st : Store} {Q : PV → Store → Prop} : Sat (pNe (.bl a) (.bl b) st) Q = Q (.bl (a != b)) st := by
  have : pNe (.bl a) (.bl b) st = .ok (.bl (a != b)) st := by
    unfold pNe
    rw [if_pos (by simp [isD, toD, PyData.depth])]
    cases a <;> cases b <;> rfl
  rw [this, sat_ok]
end PL
/-! PL, part MB: drawn rows. -/
namespace PL
open PySem PySem.Spec PyProof.Rows L2
/-- rows as they are drawn -/
structure Gen (rs : List Row) : Prop where
  ok : ∀ r ∈ rs, r.Ok
  nd : (rs.map (·.n)).Nodup
  so : rs.Pairwise fun a b => rowLe a b = true
  nm : ∀ r ∈ rs, r.n.length ≤ 6
  ow : ∀ r ∈ rs, 0 ≤ r.o ∧ r.o ≤ 2
  w4 : ∀ r ∈ rs, r.ws.length ≤ 4
theorem log2_k {i : Int} {n : Nat} (h0 : 0 ≤ i) (h1 : i ≤ n) (h2 : n < 9000 := by omega) : i.natAbs.log2 < 9000 := Nat.lt_of_le_of_lt (Nat.log2_le_self _) (by omega)
theorem row_ix0 {r : Row} {st : Store} {Q : PV → Store → Prop} : Sat (pIx r.pv (.int 0) st) Q = Q (.str r.n) st := by unfold Row.pv; rw [o_ixT, ixW_0]
theorem row_ix1 {r : Row} {st : Store} {Q : PV → Store → Prop} : Sat (pIx r.pv (.int 1) st) Q = Q (.int r.o) st := by unfold Row.pv; rw [o_ixT, ixW_1]
theorem row_ix2 {r : Row} {st : Store} {Q : PV → Store → Prop} : Sat (pIx r.pv (.int 2) st) Q = Q (.tup (ints' r.ws)) st := by unfold Row.pv; rw [o_ixT, ixW_2]
theorem row_is {r : Row} {st : Store} {Q : PV → Store → Prop} : Sat (pIs r.pv .non st) Q = Q (.bl false) st := by unfold Row.pv; exact o_isT
theorem row_isNot {r : Row} {st : Store} {Q : PV → Store → Prop} : Sat (pIsNot r.pv .non st) Q = Q (.bl true) st := by unfold Row.pv; exact o_isNotT
/-- a comprehension that maps every item -/
theorem comp_map {α : Type} {i : Nat} {elt : EM} {env : PEnv} {as : List α} {f : α → PV} {g : α → PV} {st : Store} {Q : List PV → Store → Prop} (hi : i < env.length) (hn : as.length ≤ 1000000)
    (hs : ∀ a ∈ as, elt (env.set i (some (f a))) st = .ok (g a) st) (hd : Q (as.map g) st) (ok : Store → Prop) (hok : ok st) :
    Sat (compL (.one i) tYesM elt ok (as.map f) env st []) Q := by
  refine comp_inv (fun j acc t => t = st ∧ acc = (as.take j).map g) (k := 0) ⟨rfl, rfl⟩ ?_ ?_ (by rintro i a t ⟨rfl, _⟩; exact hok)
  · rintro j v t acc hv ⟨rfl, rfl⟩
    rw [List.getElem?_map] at hv
    cases e : as[j]? with
    | none => rw [e] at hv; cases hv
    | some a =>
      rw [e] at hv
      cases hv
      refine ⟨_, rfl, ?_⟩
      rw [sat_yes, if_pos rfl, hs a (List.mem_of_getElem? e), sat_ok, Nat.zero_add]
      have hj : j < as.length := (List.getElem?_eq_some_iff.mp e).1
      refine ⟨by rw [sizeLine_eq, List.length_map, List.length_take]; omega, rfl, ?_⟩
      rw [List.take_add_one, e]
      simp
  · rintro acc t ⟨rfl, rfl⟩
    rw [Nat.zero_add, List.length_map, List.take_length]
    exact hd
/-- a comprehension that picks -/
theorem comp_filt {α : Type} {i : Nat} {test : TM} {elt : EM} {env : PEnv} {as : List α} {f : α → PV} {g : α → PV} {p : α → Bool} {st : Store} {Q : List PV → Store → Prop} (hi : i < env.length) (hn : as.length ≤ 1000000)
    (ht : ∀ a ∈ as, test (env.set i (some (f a))) st = .ok (p a) st) (hs : ∀ a ∈ as, p a = true → elt (env.set i (some (f a))) st = .ok (g a) st) (hd : Q ((as.filter p).map g) st) (ok : Store → Prop) (hok : ok st) :
    Sat (compL (.one i) test elt ok (as.map f) env st []) Q := by
  refine comp_inv (fun j acc t => t = st ∧ acc = ((as.take j).filter p).map g) (k := 0) ⟨rfl, rfl⟩ ?_ ?_ (by rintro i a t ⟨rfl, _⟩; exact hok)
  · rintro j v t acc hv ⟨rfl, rfl⟩
    rw [List.getElem?_map] at hv
    cases e : as[j]? with
    | none => rw [e] at hv; cases hv
    | some a =>
      rw [e] at hv
      cases hv
      refine ⟨_, rfl, ?_⟩
      have ma := List.mem_of_getElem? e
      rw [ht a ma, sat_ok, Nat.zero_add]
      have hj : j < as.length := (List.getElem?_eq_some_iff.mp e).1
      have e1 : as.take (j + 1) = as.take j ++ [a] := by rw [List.take_add_one, e]; rfl
      cases hp : p a with
      | true =>
        rw [if_pos rfl, hs a ma hp, sat_ok]
        refine ⟨?_, rfl, by rw [e1, List.filter_append]; simp [hp]⟩
        have h1 := List.length_filter_le p (as.take j)
        have h2 : (as.take j).length ≤ as.length := by rw [List.length_take]; omega
        rw [sizeLine_eq, List.length_map]
        omega
      | false =>
        rw [if_neg (by simp)]
        exact ⟨rfl, by rw [e1, List.filter_append]; simp [hp]⟩
  · rintro acc t ⟨rfl, rfl⟩
    rw [Nat.zero_add, List.length_map, List.take_length]
    exact hd
theorem sets_ok {ns : List Int} {l : Nat} {st : Store} {Q : PV → Store → Prop} (hs : SrcAt st l)
    (k : ∀ rs s, Gen rs → rs.length ≤ 5 → SrcAt s l → Gr [l] st s → Q (.tup (rs.map Row.pv)) s) : Sat (m_law_sets [scr ns, .loc l, .int 5, .int 32] st) Q := by
  have hl := hs.lt
  refine sat_body ?_
  unfold f_law_sets
  simp only [sat_ok, sat_bind, sat_v, sat_c, sat_bin, sat_un, sat_test, sat_truth, sat_and, sat_or, sat_not, sat_yes, sat_andv, sat_notv, sat_chain, sat_nil, sat_cons, sat_args, sat_call, sat_callX, sat_meth, sat_one, sat_oNone, sat_oSome, sat_sl, sat_tup, sat_lst, sat_loc, ss_nil, ss_seq, ss_set, ss_expr, ss_ret, ss_retN, ss_if, ss_tg, ss_par, ss_sub, ss_for, sat_comp, setTg, setTgs, wipeP, sizeLine_eq, List.map_cons, List.map_nil, List.length_cons, List.length_nil, List.cons_append, List.nil_append, List.set_cons_zero, List.set_cons_succ, List.getElem?_cons_zero, List.getElem?_cons_succ, Nat.reduceAdd, Nat.reduceSub, Nat.reduceLeDiff, List.reduceReplicate, Option.some.injEq, exists_eq_left', true_and, and_true, Nat.zero_add, o_addI, o_addS, o_addT, o_addL, o_subI, o_mulI, o_fdivI, o_modI, o_powI, o_negI, o_eqI, o_neI, o_eqS, o_neS, o_ltI, o_gtI, o_leI, o_geI, o_ltS, o_geS, o_inS, o_notInS, o_isN, o_isNotN, o_isT, o_isNotT, o_isS, o_isNotS, o_int, o_intB, o_abs, o_str, o_lenT, o_lenL, o_lenF, o_lenS, o_ixT, o_ixL, o_ixF, ixW_0, ixW_1, ixW_2, o_isStr, o_tupL, o_tupT, o_listT, o_listL, o_listLocT, o_gcd, o_bits, o_finF, o_finT, sat_iVal, sat_iEnum, sat_iRange1, sat_iRange2, o_itT, o_itL, o_itF, o_itS, o_enT, o_rng]
  have s0 : SrcAt (st ++ [.lst []] ++ [.lst []]) l := by
    rw [List.append_assoc]; exact hs.gr (L := []) .app (by simp)
  have g0 : Gr [l] st (st ++ [.lst []] ++ [.lst []]) := by rw [List.append_assoc]; exact .app
  have r0 : (st ++ [.lst []] ++ [.lst []])[st.length]? = some (.lst []) := by simp
  have u0 : (st ++ [.lst []] ++ [.lst []])[st.length + 1]? = some (.lst []) := by simp
  simp only [List.length_append, List.length_cons, List.length_nil, Nat.zero_add]
  generalize st ++ [.lst []] ++ [.lst []] = st0 at *
  generalize hrp : st.length = rp at *
  refine draw' s0 (by decide) (by decide) fun r1 s1 _ _ hs1 g1 => ?_
  refine draw' hs1 (by decide) (by decide) fun r2 s2 a0 a1 hs2 g2 => ?_
  simp only [o_addI, o_addS, o_addT, o_addL, o_subI, o_mulI, o_fdivI, o_modI, o_powI, o_negI, o_eqI, o_neI, o_eqS, o_neS, o_ltI, o_gtI, o_leI, o_geI, o_ltS, o_geS, o_inS, o_notInS, o_isN, o_isNotN, o_isT, o_isNotT, o_isS, o_isNotS, o_int, o_intB, o_abs, o_str, o_lenT, o_lenL, o_lenF, o_lenS, o_ixT, o_ixL, o_ixF, ixW_0, ixW_1, ixW_2, o_isStr, o_tupL, o_tupT, o_listT, o_listL, o_listLocT, o_gcd, o_bits, o_finF, o_finT, sat_iVal, sat_iEnum, sat_iRange1, sat_iRange2, o_itT, o_itL, o_itF, o_itS, o_enT, o_rng]
  refine draw_len a0 (by show r2 < 4; omega) fun y hy => ?_
  obtain ⟨c, rfl, hc⟩ : ∃ c : Int, y = .int c ∧ 0 ≤ c ∧ c ≤ 1 := by
    simp only [List.mem_cons, List.not_mem_nil, or_false] at hy
    rcases hy with rfl | rfl | rfl | rfl <;> exact ⟨_, rfl, by decide, by decide⟩
  refine draw' hs2 (by decide) (by decide) fun r3 s3 b0 b1 hs3 g3 => ?_
  simp only [o_addI, o_addS, o_addT, o_addL, o_subI, o_mulI, o_fdivI, o_modI, o_powI, o_negI, o_eqI, o_neI, o_eqS, o_neS, o_ltI, o_gtI, o_leI, o_geI, o_ltS, o_geS, o_inS, o_notInS, o_isN, o_isNotN, o_isT, o_isNotT, o_isS, o_isNotS, o_int, o_intB, o_abs, o_str, o_lenT, o_lenL, o_lenF, o_lenS, o_ixT, o_ixL, o_ixF, ixW_0, ixW_1, ixW_2, o_isStr, o_tupL, o_tupT, o_listT, o_listL, o_listLocT, o_gcd, o_bits, o_finF, o_finT, sat_iVal, sat_iEnum, sat_iRange1, sat_iRange2, o_itT, o_itL, o_itF, o_itS, o_enT, o_rng]
  refine ⟨.inl (.inl (by omega)), ?_⟩
  obtain ⟨m, hm, hm5, hm0⟩ : ∃ m : Int, 5 - c * r3 = m ∧ m ≤ 5 ∧ -10 ≤ m := by
    refine ⟨_, rfl, ?_⟩
    rcases (show c = 0 ∨ c = 1 by omega) with rfl | rfl <;> omega
  rw [hm]
  refine ⟨⟨by omega, by omega⟩, ?_⟩
  have g03 : Gr [l] st0 s3 := (g1.trans g2).trans g3
  have nrl : rp ∉ [l] := by simp; omega
  have nul : rp + 1 ∉ [l] := by simp; omega
  refine for_invN (k := 0) (fun i e s => ∃ (rs : List Row) (most : Int) (kk k8 k9 k10 k11 : Option PV), e = [some (scr ns), some (.loc l), some (.int 5), some (.int most), some (.loc rp), some (.loc (rp + 1)), some (.int r1), kk, k8, k9, k10, k11, none] ∧
      1 ≤ most ∧ most ≤ 32 ∧ s[rp]? = some (.lst (rs.map Row.pv)) ∧ s[rp + 1]? = some (.lst ((rs.map (·.n)).map .str)) ∧ rs.length ≤ i ∧ (∀ r ∈ rs, r.Ok) ∧ (rs.map (·.n)).Nodup ∧ (∀ r ∈ rs, r.n.length ≤ 6) ∧ (∀ r ∈ rs, 0 ≤ r.o ∧ r.o ≤ 2) ∧ (∀ r ∈ rs, r.ws.length ≤ 4) ∧ SrcAt s l ∧ Gr [l, rp, rp + 1] st0 s)
    ⟨[], 32, _, _, _, _, _, rfl, by decide, by decide, g03.at' r0 nrl, g03.at' u0 nul, Nat.le_refl _, nofun, List.nodup_nil, nofun, nofun, nofun, hs3, g03.mono (by simp)⟩ ?_ ?_
  · rintro i v e s hv ⟨rs, most, kk, k8, k9, k10, k11, rfl, hm1, hm2, hr, hu, lr, hok, hnd, hnm, how, hw4, hsr, g4⟩
    obtain ⟨hi, rfl⟩ := rngs_get hv
    refine ⟨_, rfl, ?_⟩
    have nrl' : rp ∉ [l] := nrl
    -- the count
    refine seq_mid (fun e t => ∃ cnt : Int, 1 ≤ cnt ∧ cnt ≤ 4 ∧ e = ([some (scr ns), some (PV.loc l), some (PV.int 5), some (PV.int (most)), some (PV.loc rp), some (PV.loc (rp + 1)), some (PV.int r1), some (PV.int (0 + (i : Int))), some (PV.int cnt), k9, k10, k11, none] : PEnv) ∧ SrcAt t l ∧ Gr [l] s t) ?_ ?_
    · simp only [sat_ok, sat_bind, sat_v, sat_c, sat_bin, sat_un, sat_test, sat_truth, sat_and, sat_or, sat_not, sat_yes, sat_andv, sat_notv, sat_chain, sat_nil, sat_cons, sat_args, sat_call, sat_callX, sat_meth, sat_one, sat_oNone, sat_oSome, sat_sl, sat_tup, sat_lst, sat_loc, ss_nil, ss_seq, ss_set, ss_expr, ss_ret, ss_retN, ss_if, ss_tg, ss_par, ss_sub, ss_for, sat_comp, setTg, setTgs, wipeP, sizeLine_eq, List.map_cons, List.map_nil, List.length_cons, List.length_nil, List.cons_append, List.nil_append, List.set_cons_zero, List.set_cons_succ, List.getElem?_cons_zero, List.getElem?_cons_succ, Nat.reduceAdd, Nat.reduceSub, Nat.reduceLeDiff, List.reduceReplicate, Option.some.injEq, exists_eq_left', true_and, and_true, Nat.zero_add, o_addI, o_addS, o_addT, o_addL, o_subI, o_mulI, o_fdivI, o_modI, o_powI, o_negI, o_eqI, o_neI, o_eqS, o_neS, o_ltI, o_gtI, o_leI, o_geI, o_ltS, o_geS, o_inS, o_notInS, o_isN, o_isNotN, o_isT, o_isNotT, o_isS, o_isNotS, o_int, o_intB, o_abs, o_str, o_lenT, o_lenL, o_lenF, o_lenS, o_ixT, o_ixL, o_ixF, ixW_0, ixW_1, ixW_2, o_isStr, o_tupL, o_tupT, o_listT, o_listL, o_listLocT, o_gcd, o_bits, o_finF, o_finT, sat_iVal, sat_iEnum, sat_iRange1, sat_iRange2, o_itT, o_itL, o_itF, o_itS, o_enT, o_rng]
      refine draw' hsr (by decide) (by decide) fun q1 t1 c0 c1 ht1 f1 => ?_
      simp only [o_addI, o_addS, o_addT, o_addL, o_subI, o_mulI, o_fdivI, o_modI, o_powI, o_negI, o_eqI, o_neI, o_eqS, o_neS, o_ltI, o_gtI, o_leI, o_geI, o_ltS, o_geS, o_inS, o_notInS, o_isN, o_isNotN, o_isT, o_isNotT, o_isS, o_isNotS, o_int, o_intB, o_abs, o_str, o_lenT, o_lenL, o_lenF, o_lenS, o_ixT, o_ixL, o_ixF, ixW_0, ixW_1, ixW_2, o_isStr, o_tupL, o_tupT, o_listT, o_listL, o_listLocT, o_gcd, o_bits, o_finF, o_finT, sat_iVal, sat_iEnum, sat_iRange1, sat_iRange2, o_itT, o_itL, o_itF, o_itS, o_enT, o_rng]
      refine draw_len c0 (by show q1 < 8; omega) fun y hy => ?_
      obtain ⟨cnt, rfl, hcn⟩ : ∃ c : Int, y = .int c ∧ 1 ≤ c ∧ c ≤ 4 := by
        simp only [List.mem_cons, List.not_mem_nil, or_false] at hy
        rcases hy with rfl | rfl | rfl | rfl | rfl | rfl | rfl | rfl <;> exact ⟨_, rfl, by decide, by decide⟩
      exact ⟨cnt, hcn.1, hcn.2, rfl, ht1, f1⟩
    rintro e t ⟨cnt, c1, c2, rfl, ht, f1⟩
    refine seq_mid (fun e t' => ∃ cnt : Int, 1 ≤ cnt ∧ cnt ≤ 4 ∧ cnt ≤ most ∧ e = ([some (scr ns), some (PV.loc l), some (PV.int 5), some (PV.int (most)), some (PV.loc rp), some (PV.loc (rp + 1)), some (PV.int r1), some (PV.int (0 + (i : Int))), some (PV.int cnt), k9, k10, k11, none] : PEnv) ∧ t' = t) ?_ ?_
    · simp only [sat_ok, sat_bind, sat_v, sat_c, sat_bin, sat_un, sat_test, sat_truth, sat_and, sat_or, sat_not, sat_yes, sat_andv, sat_notv, sat_chain, sat_nil, sat_cons, sat_args, sat_call, sat_callX, sat_meth, sat_one, sat_oNone, sat_oSome, sat_sl, sat_tup, sat_lst, sat_loc, ss_nil, ss_seq, ss_set, ss_expr, ss_ret, ss_retN, ss_if, ss_tg, ss_par, ss_sub, ss_for, sat_comp, setTg, setTgs, wipeP, sizeLine_eq, List.map_cons, List.map_nil, List.length_cons, List.length_nil, List.cons_append, List.nil_append, List.set_cons_zero, List.set_cons_succ, List.getElem?_cons_zero, List.getElem?_cons_succ, Nat.reduceAdd, Nat.reduceSub, Nat.reduceLeDiff, List.reduceReplicate, Option.some.injEq, exists_eq_left', true_and, and_true, Nat.zero_add, o_addI, o_addS, o_addT, o_addL, o_subI, o_mulI, o_fdivI, o_modI, o_powI, o_negI, o_eqI, o_neI, o_eqS, o_neS, o_ltI, o_gtI, o_leI, o_geI, o_ltS, o_geS, o_inS, o_notInS, o_isN, o_isNotN, o_isT, o_isNotT, o_isS, o_isNotS, o_int, o_intB, o_abs, o_str, o_lenT, o_lenL, o_lenF, o_lenS, o_ixT, o_ixL, o_ixF, ixW_0, ixW_1, ixW_2, o_isStr, o_tupL, o_tupT, o_listT, o_listL, o_listLocT, o_gcd, o_bits, o_finF, o_finT, sat_iVal, sat_iEnum, sat_iRange1, sat_iRange2, o_itT, o_itL, o_itF, o_itS, o_enT, o_rng]
      split
      · exact ⟨1, by decide, by decide, hm1, by first | rfl | exact ⟨rfl, rfl⟩⟩
      · rename_i h
        exact ⟨cnt, c1, c2, by simpa using h, by first | rfl | exact ⟨rfl, rfl⟩⟩
    rintro e t' ⟨cnt, d1, d2, d3, rfl, rfl⟩
    have hmost : 1 ≤ most / cnt := by
      rw [Int.le_ediv_iff_mul_le (by omega)]; omega
    have hmost2 : most / cnt ≤ 32 := Int.le_trans (Int.ediv_le_self _ (by omega)) hm2
    -- most, the owner
    refine seq_mid (fun e t => e = ([some (scr ns), some (PV.loc l), some (PV.int 5), some (PV.int (most / cnt)), some (PV.loc rp), some (PV.loc (rp + 1)), some (PV.int r1), some (PV.int (0 + (i : Int))), some (PV.int cnt), k9, k10, k11, none] : PEnv) ∧ t = t') ?_ ?_
    · simp only [sat_ok, sat_bind, sat_v, sat_c, sat_bin, sat_un, sat_test, sat_truth, sat_and, sat_or, sat_not, sat_yes, sat_andv, sat_notv, sat_chain, sat_nil, sat_cons, sat_args, sat_call, sat_callX, sat_meth, sat_one, sat_oNone, sat_oSome, sat_sl, sat_tup, sat_lst, sat_loc, ss_nil, ss_seq, ss_set, ss_expr, ss_ret, ss_retN, ss_if, ss_tg, ss_par, ss_sub, ss_for, sat_comp, setTg, setTgs, wipeP, sizeLine_eq, List.map_cons, List.map_nil, List.length_cons, List.length_nil, List.cons_append, List.nil_append, List.set_cons_zero, List.set_cons_succ, List.getElem?_cons_zero, List.getElem?_cons_succ, Nat.reduceAdd, Nat.reduceSub, Nat.reduceLeDiff, List.reduceReplicate, Option.some.injEq, exists_eq_left', true_and, and_true, Nat.zero_add, o_addI, o_addS, o_addT, o_addL, o_subI, o_mulI, o_fdivI, o_modI, o_powI, o_negI, o_eqI, o_neI, o_eqS, o_neS, o_ltI, o_gtI, o_leI, o_geI, o_ltS, o_geS, o_inS, o_notInS, o_isN, o_isNotN, o_isT, o_isNotT, o_isS, o_isNotS, o_int, o_intB, o_abs, o_str, o_lenT, o_lenL, o_lenF, o_lenS, o_ixT, o_ixL, o_ixF, ixW_0, ixW_1, ixW_2, o_isStr, o_tupL, o_tupT, o_listT, o_listL, o_listLocT, o_gcd, o_bits, o_finF, o_finT, sat_iVal, sat_iEnum, sat_iRange1, sat_iRange2, o_itT, o_itL, o_itF, o_itS, o_enT, o_rng]
      exact ⟨by omega, Nat.lt_of_le_of_lt (Nat.log2_le_self _) (by omega)⟩
    rintro e t ⟨rfl, rfl⟩
    refine seq_mid (fun e t' => ∃ ow : Int, (0 ≤ ow ∧ ow ≤ 2) ∧ e = ([some (scr ns), some (PV.loc l), some (PV.int 5), some (PV.int (most / cnt)), some (PV.loc rp), some (PV.loc (rp + 1)), some (PV.int r1), some (PV.int (0 + (i : Int))), some (PV.int cnt), some (PV.int ow), k10, k11, none] : PEnv) ∧ SrcAt t' l ∧ Gr [l] s t') ?_ ?_
    · simp only [sat_ok, sat_bind, sat_v, sat_c, sat_bin, sat_un, sat_test, sat_truth, sat_and, sat_or, sat_not, sat_yes, sat_andv, sat_notv, sat_chain, sat_nil, sat_cons, sat_args, sat_call, sat_callX, sat_meth, sat_one, sat_oNone, sat_oSome, sat_sl, sat_tup, sat_lst, sat_loc, ss_nil, ss_seq, ss_set, ss_expr, ss_ret, ss_retN, ss_if, ss_tg, ss_par, ss_sub, ss_for, sat_comp, setTg, setTgs, wipeP, sizeLine_eq, List.map_cons, List.map_nil, List.length_cons, List.length_nil, List.cons_append, List.nil_append, List.set_cons_zero, List.set_cons_succ, List.getElem?_cons_zero, List.getElem?_cons_succ, Nat.reduceAdd, Nat.reduceSub, Nat.reduceLeDiff, List.reduceReplicate, Option.some.injEq, exists_eq_left', true_and, and_true, Nat.zero_add, o_addI, o_addS, o_addT, o_addL, o_subI, o_mulI, o_fdivI, o_modI, o_powI, o_negI, o_eqI, o_neI, o_eqS, o_neS, o_ltI, o_gtI, o_leI, o_geI, o_ltS, o_geS, o_inS, o_notInS, o_isN, o_isNotN, o_isT, o_isNotT, o_isS, o_isNotS, o_int, o_intB, o_abs, o_str, o_lenT, o_lenL, o_lenF, o_lenS, o_ixT, o_ixL, o_ixF, ixW_0, ixW_1, ixW_2, o_isStr, o_tupL, o_tupT, o_listT, o_listL, o_listLocT, o_gcd, o_bits, o_finF, o_finT, sat_iVal, sat_iEnum, sat_iRange1, sat_iRange2, o_itT, o_itL, o_itF, o_itS, o_enT, o_rng]
      refine ⟨by decide, by decide, ?_⟩
      refine draw' ht (by decide) (by decide) fun q2 t2 e0 e1 ht2 f2 => ?_
      simp only [o_addI, o_addS, o_addT, o_addL, o_subI, o_mulI, o_fdivI, o_modI, o_powI, o_negI, o_eqI, o_neI, o_eqS, o_neS, o_ltI, o_gtI, o_leI, o_geI, o_ltS, o_geS, o_inS, o_notInS, o_isN, o_isNotN, o_isT, o_isNotT, o_isS, o_isNotS, o_int, o_intB, o_abs, o_str, o_lenT, o_lenL, o_lenF, o_lenS, o_ixT, o_ixL, o_ixF, ixW_0, ixW_1, ixW_2, o_isStr, o_tupL, o_tupT, o_listT, o_listL, o_listLocT, o_gcd, o_bits, o_finF, o_finT, sat_iVal, sat_iEnum, sat_iRange1, sat_iRange2, o_itT, o_itL, o_itF, o_itS, o_enT, o_rng]
      refine draw_len e0 (by show q2 < 4; omega) fun y hy => ?_
      obtain ⟨ow, rfl, how1⟩ : ∃ c : Int, y = .int c ∧ 0 ≤ c ∧ c ≤ 2 := by
        simp only [List.mem_cons, List.not_mem_nil, or_false] at hy
        rcases hy with rfl | rfl | rfl | rfl
        · exact ⟨_, rfl, by omega, by omega⟩
        · exact ⟨_, rfl, by omega, by omega⟩
        · exact ⟨_, rfl, by decide, by decide⟩
        · exact ⟨_, rfl, by decide, by decide⟩
      exact ⟨ow, how1, rfl, ht2, f1.trans f2⟩
    rintro e t2 ⟨ow, how1, rfl, ht2, f2⟩
    -- the weights
    refine seq_mid (fun e t => ∃ ws : List Int, e = ([some (scr ns), some (PV.loc l), some (PV.int 5), some (PV.int (most / cnt)), some (PV.loc rp), some (PV.loc (rp + 1)), some (PV.int r1), some (PV.int (0 + (i : Int))), some (PV.int cnt), some (PV.int ow), some (PV.lst (ints' ws)), k11, none] : PEnv) ∧ (ws.length : Int) = cnt ∧ (∀ w ∈ ws, Mod1 w) ∧ t = t2) ?_ ?_
    · simp only [sat_ok, sat_bind, sat_v, sat_c, sat_bin, sat_un, sat_test, sat_truth, sat_and, sat_or, sat_not, sat_yes, sat_andv, sat_notv, sat_chain, sat_nil, sat_cons, sat_args, sat_call, sat_callX, sat_meth, sat_one, sat_oNone, sat_oSome, sat_sl, sat_tup, sat_lst, sat_loc, ss_nil, ss_seq, ss_set, ss_expr, ss_ret, ss_retN, ss_if, ss_tg, ss_par, ss_sub, ss_for, sat_comp, setTg, setTgs, wipeP, sizeLine_eq, List.map_cons, List.map_nil, List.length_cons, List.length_nil, List.cons_append, List.nil_append, List.set_cons_zero, List.set_cons_succ, List.getElem?_cons_zero, List.getElem?_cons_succ, Nat.reduceAdd, Nat.reduceSub, Nat.reduceLeDiff, List.reduceReplicate, Option.some.injEq, exists_eq_left', true_and, and_true, Nat.zero_add, o_addI, o_addS, o_addT, o_addL, o_subI, o_mulI, o_fdivI, o_modI, o_powI, o_negI, o_eqI, o_neI, o_eqS, o_neS, o_ltI, o_gtI, o_leI, o_geI, o_ltS, o_geS, o_inS, o_notInS, o_isN, o_isNotN, o_isT, o_isNotT, o_isS, o_isNotS, o_int, o_intB, o_abs, o_str, o_lenT, o_lenL, o_lenF, o_lenS, o_ixT, o_ixL, o_ixF, ixW_0, ixW_1, ixW_2, o_isStr, o_tupL, o_tupT, o_listT, o_listL, o_listLocT, o_gcd, o_bits, o_finF, o_finT, sat_iVal, sat_iEnum, sat_iRange1, sat_iRange2, o_itT, o_itL, o_itF, o_itS, o_enT, o_rng]
      refine ⟨⟨by omega, by omega⟩, ?_⟩
      refine comp_rng (fun y => ∃ w, y = .int w ∧ Mod1 w) (fun t => t = t2) (by simp) (by omega) rfl ?_ ?_
      · rintro j t rfl
        simp only [sat_ok, sat_bind, sat_v, sat_c, sat_bin, sat_un, sat_test, sat_truth, sat_and, sat_or, sat_not, sat_yes, sat_andv, sat_notv, sat_chain, sat_nil, sat_cons, sat_args, sat_call, sat_callX, sat_meth, sat_one, sat_oNone, sat_oSome, sat_sl, sat_tup, sat_lst, sat_loc, ss_nil, ss_seq, ss_set, ss_expr, ss_ret, ss_retN, ss_if, ss_tg, ss_par, ss_sub, ss_for, sat_comp, setTg, setTgs, wipeP, sizeLine_eq, List.map_cons, List.map_nil, List.length_cons, List.length_nil, List.cons_append, List.nil_append, List.set_cons_zero, List.set_cons_succ, List.getElem?_cons_zero, List.getElem?_cons_succ, Nat.reduceAdd, Nat.reduceSub, Nat.reduceLeDiff, List.reduceReplicate, Option.some.injEq, exists_eq_left', true_and, and_true, Nat.zero_add]
        exact ⟨1, rfl, mod1_small (by decide) (by decide)⟩
      · rintro ys t hl' hE rfl
        obtain ⟨ws, rfl, hw⟩ := ints_of hE
        try simp only [o_addI, o_addS, o_addT, o_addL, o_subI, o_mulI, o_fdivI, o_modI, o_powI, o_negI, o_eqI, o_neI, o_eqS, o_neS, o_ltI, o_gtI, o_leI, o_geI, o_ltS, o_geS, o_inS, o_notInS, o_isN, o_isNotN, o_isT, o_isNotT, o_isS, o_isNotS, o_int, o_intB, o_abs, o_str, o_lenT, o_lenL, o_lenF, o_lenS, o_ixT, o_ixL, o_ixF, ixW_0, ixW_1, ixW_2, o_isStr, o_tupL, o_tupT, o_listT, o_listL, o_listLocT, o_gcd, o_bits, o_finF, o_finT, sat_iVal, sat_iEnum, sat_iRange1, sat_iRange2, o_itT, o_itL, o_itF, o_itS, o_enT, o_rng]
        exact ⟨ws, rfl, by rw [List.length_map] at hl'; omega, hw, trivial⟩
    rintro e t ⟨ws, rfl, hws, hwm, rfl⟩
    refine seq_mid (fun e t' => ∃ ws : List Int, e = ([some (scr ns), some (PV.loc l), some (PV.int 5), some (PV.int (most / cnt)), some (PV.loc rp), some (PV.loc (rp + 1)), some (PV.int r1), some (PV.int (0 + (i : Int))), some (PV.int cnt), some (PV.int ow), some (PV.lst (ints' ws)), k11, none] : PEnv) ∧ (ws.length : Int) = cnt ∧ (∀ w ∈ ws, Mod1 w) ∧ SrcAt t' l ∧ Gr [l] s t') ?_ ?_
    · simp only [sat_ok, sat_bind, sat_v, sat_c, sat_bin, sat_un, sat_test, sat_truth, sat_and, sat_or, sat_not, sat_yes, sat_andv, sat_notv, sat_chain, sat_nil, sat_cons, sat_args, sat_call, sat_callX, sat_meth, sat_one, sat_oNone, sat_oSome, sat_sl, sat_tup, sat_lst, sat_loc, ss_nil, ss_seq, ss_set, ss_expr, ss_ret, ss_retN, ss_if, ss_tg, ss_par, ss_sub, ss_for, sat_comp, setTg, setTgs, wipeP, sizeLine_eq, List.map_cons, List.map_nil, List.length_cons, List.length_nil, List.cons_append, List.nil_append, List.set_cons_zero, List.set_cons_succ, List.getElem?_cons_zero, List.getElem?_cons_succ, Nat.reduceAdd, Nat.reduceSub, Nat.reduceLeDiff, List.reduceReplicate, Option.some.injEq, exists_eq_left', true_and, and_true, Nat.zero_add, o_addI, o_addS, o_addT, o_addL, o_subI, o_mulI, o_fdivI, o_modI, o_powI, o_negI, o_eqI, o_neI, o_eqS, o_neS, o_ltI, o_gtI, o_leI, o_geI, o_ltS, o_geS, o_inS, o_notInS, o_isN, o_isNotN, o_isT, o_isNotT, o_isS, o_isNotS, o_int, o_intB, o_abs, o_str, o_lenT, o_lenL, o_lenF, o_lenS, o_ixT, o_ixL, o_ixF, ixW_0, ixW_1, ixW_2, o_isStr, o_tupL, o_tupT, o_listT, o_listL, o_listLocT, o_gcd, o_bits, o_finF, o_finT, sat_iVal, sat_iEnum, sat_iRange1, sat_iRange2, o_itT, o_itL, o_itF, o_itS, o_enT, o_rng]
      split
      · refine ⟨⟨by omega, by omega⟩, ?_⟩
        refine comp_rng (fun y => ∃ w, y = .int w ∧ Mod1 w) (fun t' => SrcAt t' l ∧ Gr [l] s t') (by simp) (by omega) ⟨ht2, f2⟩ ?_ ?_
        · rintro j t' ⟨a1, a2⟩
          simp only [sat_ok, sat_bind, sat_v, sat_c, sat_bin, sat_un, sat_test, sat_truth, sat_and, sat_or, sat_not, sat_yes, sat_andv, sat_notv, sat_chain, sat_nil, sat_cons, sat_args, sat_call, sat_callX, sat_meth, sat_one, sat_oNone, sat_oSome, sat_sl, sat_tup, sat_lst, sat_loc, ss_nil, ss_seq, ss_set, ss_expr, ss_ret, ss_retN, ss_if, ss_tg, ss_par, ss_sub, ss_for, sat_comp, setTg, setTgs, wipeP, sizeLine_eq, List.map_cons, List.map_nil, List.length_cons, List.length_nil, List.cons_append, List.nil_append, List.set_cons_zero, List.set_cons_succ, List.getElem?_cons_zero, List.getElem?_cons_succ, Nat.reduceAdd, Nat.reduceSub, Nat.reduceLeDiff, List.reduceReplicate, Option.some.injEq, exists_eq_left', true_and, and_true, Nat.zero_add]
          refine draw' a1 (by decide) (by decide) fun q3 t3 e0 e1 ht3 f3 => ?_
          simp only [o_addI, o_addS, o_addT, o_addL, o_subI, o_mulI, o_fdivI, o_modI, o_powI, o_negI, o_eqI, o_neI, o_eqS, o_neS, o_ltI, o_gtI, o_leI, o_geI, o_ltS, o_geS, o_inS, o_notInS, o_isN, o_isNotN, o_isT, o_isNotT, o_isS, o_isNotS, o_int, o_intB, o_abs, o_str, o_lenT, o_lenL, o_lenF, o_lenS, o_ixT, o_ixL, o_ixF, ixW_0, ixW_1, ixW_2, o_isStr, o_tupL, o_tupT, o_listT, o_listL, o_listLocT, o_gcd, o_bits, o_finF, o_finT, sat_iVal, sat_iEnum, sat_iRange1, sat_iRange2, o_itT, o_itL, o_itF, o_itS, o_enT, o_rng]
          exact ⟨⟨1 + q3, rfl, mod1_small (by omega) (by omega)⟩, ht3, a2.trans f3⟩
        · rintro ys t' hl' hE ⟨a1, a2⟩
          obtain ⟨ws, rfl, hw⟩ := ints_of hE
          try simp only [o_addI, o_addS, o_addT, o_addL, o_subI, o_mulI, o_fdivI, o_modI, o_powI, o_negI, o_eqI, o_neI, o_eqS, o_neS, o_ltI, o_gtI, o_leI, o_geI, o_ltS, o_geS, o_inS, o_notInS, o_isN, o_isNotN, o_isT, o_isNotT, o_isS, o_isNotS, o_int, o_intB, o_abs, o_str, o_lenT, o_lenL, o_lenF, o_lenS, o_ixT, o_ixL, o_ixF, ixW_0, ixW_1, ixW_2, o_isStr, o_tupL, o_tupT, o_listT, o_listL, o_listLocT, o_gcd, o_bits, o_finF, o_finT, sat_iVal, sat_iEnum, sat_iRange1, sat_iRange2, o_itT, o_itL, o_itF, o_itS, o_enT, o_rng]
          exact ⟨ws, rfl, by rw [List.length_map] at hl'; omega, hw, a1, a2⟩
      · exact ⟨ws, rfl, hws, hwm, ht2, f2⟩
    rintro e t3 ⟨ws, rfl, hws, hwm, ht3, f3⟩
    have hu3 := f3.at' hu nul
    have hr3 := f3.at' hr nrl
    simp only [sat_ok, sat_bind, sat_v, sat_c, sat_bin, sat_un, sat_test, sat_truth, sat_and, sat_or, sat_not, sat_yes, sat_andv, sat_notv, sat_chain, sat_nil, sat_cons, sat_args, sat_call, sat_callX, sat_meth, sat_one, sat_oNone, sat_oSome, sat_sl, sat_tup, sat_lst, sat_loc, ss_nil, ss_seq, ss_set, ss_expr, ss_ret, ss_retN, ss_if, ss_tg, ss_par, ss_sub, ss_for, sat_comp, setTg, setTgs, wipeP, sizeLine_eq, List.map_cons, List.map_nil, List.length_cons, List.length_nil, List.cons_append, List.nil_append, List.set_cons_zero, List.set_cons_succ, List.getElem?_cons_zero, List.getElem?_cons_succ, Nat.reduceAdd, Nat.reduceSub, Nat.reduceLeDiff, List.reduceReplicate, Option.some.injEq, exists_eq_left', true_and, and_true, Nat.zero_add, o_addI, o_addS, o_addT, o_addL, o_subI, o_mulI, o_fdivI, o_modI, o_powI, o_negI, o_eqI, o_neI, o_eqS, o_neS, o_ltI, o_gtI, o_leI, o_geI, o_ltS, o_geS, o_inS, o_notInS, o_isN, o_isNotN, o_isT, o_isNotT, o_isS, o_isNotS, o_int, o_intB, o_abs, o_str, o_lenT, o_lenL, o_lenF, o_lenS, o_ixT, o_ixL, o_ixF, ixW_0, ixW_1, ixW_2, o_isStr, o_tupL, o_tupT, o_listT, o_listL, o_listLocT, o_gcd, o_bits, o_finF, o_finT, sat_iVal, sat_iEnum, sat_iRange1, sat_iRange2, o_itT, o_itL, o_itF, o_itS, o_enT, o_rng]
    refine name' ht3 (Use.at' (n := 100) hu3 (by rw [List.length_map]; omega) (by omega)) (by decide) fun z t4 hz hnz ht4 f4 => ?_
    have hu4 := f4.at' hu3 nul
    have hr4 := f4.at' hr3 nrl
    refine ⟨o_isL hu4, ?_⟩
    rw [o_app hu4]
    refine ⟨by rw [sizeLine_eq, List.length_map, List.length_map]; omega, ?_⟩
    have hup := lt_of_some hu4
    have g5 : Gr [rp + 1] t4 (t4.set (rp + 1) (.lst ((rs.map (·.n)).map .str ++ [.str z]))) := .set (by simp)
    have hr5 := g5.at' hr4 (by simp)
    have hs5 : SrcAt (t4.set (rp + 1) (.lst ((rs.map (·.n)).map .str ++ [.str z]))) l := ht4.gr g5 (by simp; omega)
    have hu5 : (t4.set (rp + 1) (.lst ((rs.map (·.n)).map .str ++ [.str z])))[rp + 1]? = some (.lst ((rs.map (·.n)).map .str ++ [.str z])) := List.getElem?_set_self hup
    refine ⟨o_isL hr5, ?_⟩
    refine reduced_ok (.inl (.inr (.inl rfl))) hwm (by omega) fun _ => ?_
    rw [o_app hr5]
    refine ⟨by rw [sizeLine_eq, List.length_map]; omega, ?_⟩
    generalize hx : (⟨z, ow, if gcds ws = 0 then ws else ws.map fun w => w / (gcds ws : Int)⟩ : Row) = x
    have xo : x.Ok := by
      subst hx
      exact ⟨by show z.length ≤ 40; omega, by show 1 ≤ (if _ then _ else _ : List Int).length; rw [red_len]; omega, by show (if _ then _ else _ : List Int).length ≤ 64; rw [red_len]; omega, red_mod hwm⟩
    have xn : x.n = z := by subst hx; rfl
    have xow : x.o = ow := by subst hx; rfl
    have xw : x.ws.length ≤ 4 := by
      subst hx
      show (if _ then _ else _ : List Int).length ≤ 4
      rw [red_len]; omega
    have e3 : PV.tup [.str z, .int ow, .tup (ints' (if gcds ws = 0 then ws else ws.map fun w => w / (gcds ws : Int)))] = x.pv := by subst hx; rfl
    rw [e3]
    have g6 : Gr [rp] (t4.set (rp + 1) (.lst ((rs.map (·.n)).map .str ++ [.str z]))) _ := .set (l := rp) (o := .lst (rs.map Row.pv ++ [x.pv])) (by simp)
    refine ⟨rs ++ [x], most / cnt, _, _, _, _, _, rfl, hmost, hmost2, by rw [List.getElem?_set_self (lt_of_some hr5), List.map_append]; rfl, ?_, by simp; omega, ?_, ?_, ?_, ?_, ?_, hs5.gr g6 (by simp; omega), ?_⟩
    · rw [List.map_append, List.map_append]
      simpa [xn] using g6.at' hu5 (by simp)
    · intro r m
      rcases List.mem_append.mp m with m | m
      · exact hok r m
      · rw [List.mem_singleton.mp m]; exact xo
    · rw [List.map_append, List.nodup_append]
      refine ⟨hnd, by simp, fun a ha b hb => ?_⟩
      have : b = z := by simpa [xn] using hb
      subst this
      exact fun e => hnz (e ▸ ha)
    · intro r m
      rcases List.mem_append.mp m with m | m
      · exact hnm r m
      · rw [List.mem_singleton.mp m, xn]; exact hz
    · intro r m
      rcases List.mem_append.mp m with m | m
      · exact how r m
      · rw [List.mem_singleton.mp m, xow]; exact how1
    · intro r m
      rcases List.mem_append.mp m with m | m
      · exact hw4 r m
      · rw [List.mem_singleton.mp m]; exact xw
    · exact g4.trans (((f3.trans f4).mono (by simp)).trans ((g5.mono (by simp)).trans (g6.mono (by simp))))
  · rintro e s ⟨rs, most, kk, k8, k9, k10, k11, rfl, hm1, hm2, hr, hu, lr, hok, hnd, hnm, how, hw4, hsr, g4⟩
    rw [rngs_len] at lr
    show Sat (pSortedA (.loc rp) s) fun v s => Sat (pTuple v s) Q
    refine sorted_ok (b := false) (xs := rs.map Row.pv) (by unfold seqOf; simp only [hr]) (by rw [List.length_map]; omega) (fun v m => ?_) ?_
    · obtain ⟨r, mr, rfl⟩ := List.mem_map.mp m
      exact (hok r mr).g
    rw [sort_rows, o_tupL]
    have pm := sort_perm rs
    refine k _ s ⟨fun r m => hok r (pm.mem_iff.mp m), ?_, sort_pair rs, fun r m => hnm r (pm.mem_iff.mp m), fun r m => how r (pm.mem_iff.mp m), fun r m => hw4 r (pm.mem_iff.mp m)⟩ (by rw [pm.length_eq]; omega) hsr ?_
    · exact ((pm.map (·.n)).nodup_iff).mpr hnd
    refine (g0.mono (L' := [l, rp, rp + 1]) (by simp)).trans g4 |>.cut ?_
    intro j hj hlt
    simp only [List.mem_cons, List.not_mem_nil, or_false] at hj ⊢
    omega
end PL
/-! PL, part MC: drawn trees. -/
namespace PL
open PySem PySem.Spec PyProof.Rows L2
/-- a tree over rows: each set at most once on a way -/
inductive Grow : List Row → T → Prop
  | leaf {free : List Row} {z : Str} : z.length ≤ 60 → Grow free (.leaf z)
  | node {free : List Row} {r : Row} {cs : List T} : r ∈ free → cs.length = r.ws.length → (∀ x ∈ cs, Grow (free.filter fun q => !decide (q.n = r.n)) x) → Grow free (.node r.n cs)
def Room (st : Store) (m : Nat) : Prop := ∃ r : Int, st[m]? = some (.lst [.int r])
theorem Room.gr {L : List Nat} {st s : Store} {m : Nat} (h : Room st m) (g : Gr L st s) (n : m ∉ L) : Room s m := let ⟨r, e⟩ := h; ⟨r, g.at' e n⟩
theorem ixN1_0 : ixN 1 0 = some 0 := rfl
theorem tree_ok {ns : List Int} {l op m : Nat} {us : List Str} (hu0 : us ≠ []) (hul : us.length ≤ 1000) (hus : ∀ u ∈ us, u.length ≤ 40) (nlo : l ≠ op) (nlm : l ≠ m) (nom : op ≠ m) : ∀ (n : Nat) (rs : List Row) (wish : PV) (st : Store) (Q : PV → Store → Prop),
    rs.length < n → rs.length ≤ 100 → (∀ r ∈ rs, r.Ok) → (wish = .non ∨ ∃ r ∈ rs, wish = r.pv) → SrcAt st l → Room st m → st[op]? = some (.lst (us.map .str)) →
    (∀ x s, Grow rs x → (wish ≠ .non → (∀ r0 : Int, st[m]? = some (.lst [.int r0]) → 0 < r0) → ∃ n cs, x = .node n cs) → SrcAt s l → Room s m → Gr [l, m] st s → Q x.pv s) →
    Sat (fuelF 14 f_law_tree n [scr ns,   .loc l, .lst (rs.map Row.pv), .loc op, .loc m, wish] st) Q
  | 0, rs, wish, st, Q, hn, _, _, _, _, _, _, _ => absurd hn (Nat.not_lt_zero _)
  | n + 1, rs, wish, st, Q, hn, hn2, hg, hw, hs, hm, ho, k => by
    obtain ⟨r0, hr0⟩ := hm
    have hml := lt_of_some hr0
    obtain ⟨wb, hwb, hwn, hwf⟩ : ∃ wb : Bool, (∀ (st : Store) (Q : PV → Store → Prop), Sat (pIs wish .non st) Q = Q (.bl wb) st ∧ Sat (pIsNot wish .non st) Q = Q (.bl (!wb)) st) ∧ (wb = false → ∃ r ∈ rs, wish = r.pv) ∧ (wish ≠ .non → wb = false) := by
      rcases hw with rfl | ⟨rw', hw, rfl⟩
      · exact ⟨true, fun st Q => ⟨o_isN, o_isNotN⟩, nofun, fun h => absurd rfl h⟩
      · exact ⟨false, fun st Q => ⟨row_is, row_isNot⟩, fun _ => ⟨rw', hw, rfl⟩, fun _ => rfl⟩
    refine sat_body ?_
    unfold f_law_tree
    simp only [List.map_cons, List.map_nil, List.length_cons, List.length_nil, Nat.reduceAdd, Nat.reduceSub, List.reduceReplicate, List.cons_append, List.nil_append]
    -- room
    refine seq_mid (fun e s => e = ([some (scr ns), some (PV.loc l), some (PV.lst (rs.map Row.pv)), some (PV.loc op), some (PV.loc m), some wish, none, none, none, none, none, none, none, none] : PEnv) ∧ SrcAt s l ∧ s[m]? = some (.lst [.int (r0 - 1)]) ∧ Gr [l, m] st s) ?_ ?_
    · simp only [sat_ok, sat_bind, sat_v, sat_c, sat_bin, sat_un, sat_test, sat_truth, sat_and, sat_or, sat_not, sat_yes, sat_andv, sat_notv, sat_chain, sat_nil, sat_cons, sat_args, sat_call, sat_callX, sat_meth, sat_one, sat_oNone, sat_oSome, sat_sl, sat_tup, sat_lst, sat_loc, ss_nil, ss_seq, ss_set, ss_expr, ss_ret, ss_retN, ss_if, ss_tg, ss_par, ss_sub, ss_for, sat_comp, setTg, setTgs, wipeP, sizeLine_eq, List.map_cons, List.map_nil, List.length_cons, List.length_nil, List.cons_append, List.nil_append, List.set_cons_zero, List.set_cons_succ, List.getElem?_cons_zero, List.getElem?_cons_succ, Nat.reduceAdd, Nat.reduceSub, Nat.reduceLeDiff, List.reduceReplicate, Option.some.injEq, exists_eq_left', true_and, and_true, Nat.zero_add, o_addI, o_addS, o_addT, o_addL, o_subI, o_mulI, o_fdivI, o_modI, o_powI, o_negI, o_eqI, o_neI, o_eqS, o_neS, o_ltI, o_gtI, o_leI, o_geI, o_ltS, o_geS, o_inS, o_notInS, o_isN, o_isNotN, o_isT, o_isNotT, o_isS, o_isNotS, o_int, o_intB, o_abs, o_str, o_lenT, o_lenL, o_lenF, o_lenS, o_ixT, o_ixL, o_ixF, ixW_0, ixW_1, ixW_2, o_isStr, o_tupL, o_tupT, o_listT, o_listL, o_listLocT, o_gcd, o_bits, o_finF, o_finT, sat_iVal, sat_iEnum, sat_iRange1, sat_iRange2, o_itT, o_itL, o_itF, o_itS, o_enT, o_rng, o_ixP hr0, o_set hr0, ixN1_0]
      have g : Gr [m] st (st.set m (.lst [.int (r0 - 1)])) := .set (by simp)
      exact ⟨hs.gr g (by simpa using nlm), List.getElem?_set_self hml, g.mono (by simp)⟩
    rintro e s1 ⟨rfl, hs1, hm1, g1⟩
    refine seq_mid (fun e s => ∃ b : Bool, e = ([some (scr ns), some (PV.loc l), some (PV.lst (rs.map Row.pv)), some (PV.loc op), some (PV.loc m), some wish, some (PV.bl b), none, none, none, none, none, none, none] : PEnv) ∧ (b = true → wb = true) ∧ SrcAt s l ∧ s[m]? = some (.lst [.int (r0 - 1)]) ∧ Gr [l, m] st s) ?_ ?_
    · simp only [sat_ok, sat_bind, sat_v, sat_c, sat_bin, sat_un, sat_test, sat_truth, sat_and, sat_or, sat_not, sat_yes, sat_andv, sat_notv, sat_chain, sat_nil, sat_cons, sat_args, sat_call, sat_callX, sat_meth, sat_one, sat_oNone, sat_oSome, sat_sl, sat_tup, sat_lst, sat_loc, ss_nil, ss_seq, ss_set, ss_expr, ss_ret, ss_retN, ss_if, ss_tg, ss_par, ss_sub, ss_for, sat_comp, setTg, setTgs, wipeP, sizeLine_eq, List.map_cons, List.map_nil, List.length_cons, List.length_nil, List.cons_append, List.nil_append, List.set_cons_zero, List.set_cons_succ, List.getElem?_cons_zero, List.getElem?_cons_succ, Nat.reduceAdd, Nat.reduceSub, Nat.reduceLeDiff, List.reduceReplicate, Option.some.injEq, exists_eq_left', true_and, and_true, Nat.zero_add]
      refine draw' hs1 (by decide) (by decide) fun r s _ _ hs2 g2 => ?_
      have hm2 := g2.at' hm1 (by simpa using Ne.symm nlm)
      have g12 := g1.trans (g2.mono (L' := [l, m]) (by simp))
      simp only [o_addI, o_addS, o_addT, o_addL, o_subI, o_mulI, o_fdivI, o_modI, o_powI, o_negI, o_eqI, o_neI, o_eqS, o_neS, o_ltI, o_gtI, o_leI, o_geI, o_ltS, o_geS, o_inS, o_notInS, o_isN, o_isNotN, o_isT, o_isNotT, o_isS, o_isNotS, o_int, o_intB, o_abs, o_str, o_lenT, o_lenL, o_lenF, o_lenS, o_ixT, o_ixL, o_ixF, ixW_0, ixW_1, ixW_2, o_isStr, o_tupL, o_tupT, o_listT, o_listL, o_listLocT, o_gcd, o_bits, o_finF, o_finT, sat_iVal, sat_iEnum, sat_iRange1, sat_iRange2, o_itT, o_itL, o_itF, o_itS, o_enT, o_rng]
      cases hd : decide (r = 0) with
      | true => simp only [(hwb _ _).1]; exact ⟨_, rfl, id, hs2, hm2, g12⟩
      | false => exact ⟨false, rfl, nofun, hs2, hm2, g12⟩
    rintro e s2 ⟨b, rfl, hbw, hs2, hr2, g2⟩
    generalize hr2e : r0 - 1 = r2 at hr2
    have ho2 := g2.at' ho (by simp; exact ⟨Ne.symm nlo, nom⟩)
    -- an outcome
    refine seq_mid (fun e s => e = ([some (scr ns), some (PV.loc l), some (PV.lst (rs.map Row.pv)), some (PV.loc op), some (PV.loc m), some wish, some (PV.bl b), none, none, none, none, none, none, none] : PEnv) ∧ s = s2 ∧ rs ≠ []) ?_ ?_
    · have out : (wish ≠ .non → 0 < r0 → False) → SatS (sRet (eBin pIx (eVar 3) (eCall 3 m_law_draw (aCons (eVar 0) (aCons (eVar 1) (aCons (eArgs (one pLen) (aCons (eVar 3) aNil)) aNil))))) ([some (scr ns), some (PV.loc l), some (PV.lst (rs.map Row.pv)), some (PV.loc op), some (PV.loc m), some wish, some (PV.bl b), none, none, none, none, none, none, none] : PEnv) s2) (fun e s => e = ([some (scr ns), some (PV.loc l), some (PV.lst (rs.map Row.pv)), some (PV.loc op), some (PV.loc m), some wish, some (PV.bl b), none, none, none, none, none, none, none] : PEnv) ∧ s = s2 ∧ rs ≠ []) Q := by
        intro hx
        simp only [sat_ok, sat_bind, sat_v, sat_c, sat_bin, sat_un, sat_test, sat_truth, sat_and, sat_or, sat_not, sat_yes, sat_andv, sat_notv, sat_chain, sat_nil, sat_cons, sat_args, sat_call, sat_callX, sat_meth, sat_one, sat_oNone, sat_oSome, sat_sl, sat_tup, sat_lst, sat_loc, ss_nil, ss_seq, ss_set, ss_expr, ss_ret, ss_retN, ss_if, ss_tg, ss_par, ss_sub, ss_for, sat_comp, setTg, setTgs, wipeP, sizeLine_eq, List.map_cons, List.map_nil, List.length_cons, List.length_nil, List.cons_append, List.nil_append, List.set_cons_zero, List.set_cons_succ, List.getElem?_cons_zero, List.getElem?_cons_succ, Nat.reduceAdd, Nat.reduceSub, Nat.reduceLeDiff, List.reduceReplicate, Option.some.injEq, exists_eq_left', true_and, and_true, Nat.zero_add, o_addI, o_addS, o_addT, o_addL, o_subI, o_mulI, o_fdivI, o_modI, o_powI, o_negI, o_eqI, o_neI, o_eqS, o_neS, o_ltI, o_gtI, o_leI, o_geI, o_ltS, o_geS, o_inS, o_notInS, o_isN, o_isNotN, o_isT, o_isNotT, o_isS, o_isNotS, o_int, o_intB, o_abs, o_str, o_lenT, o_lenL, o_lenF, o_lenS, o_ixT, o_ixL, o_ixF, ixW_0, ixW_1, ixW_2, o_isStr, o_tupL, o_tupT, o_listT, o_listL, o_listLocT, o_gcd, o_bits, o_finF, o_finT, sat_iVal, sat_iEnum, sat_iRange1, sat_iRange2, o_itT, o_itL, o_itF, o_itS, o_enT, o_rng, o_lenP ho2]
        refine draw' hs2 (by have := List.length_pos_iff.mpr hu0; rw [List.length_map]; omega) (log2_k (n := 1000) (by omega) (by rw [List.length_map]; omega)) fun r s c0 c1 hs3 g3 => ?_
        rw [o_ixP (g3.at' ho2 (by simpa using Ne.symm nlo))]
        refine draw_len c0 c1 fun y hy => ?_
        obtain ⟨u, mu, rfl⟩ := List.mem_map.mp hy
        exact k _ _ (.leaf (by have := hus u mu; omega)) (fun h1 h2 => (hx h1 (h2 r0 hr0)).elim) hs3 (Room.gr ⟨r2, hr2⟩ g3 (by simpa using Ne.symm nlm)) (g2.trans (g3.mono (by simp)))
      rw [ss_if]
      simp only [sat_ok, sat_bind, sat_v, sat_c, sat_bin, sat_un, sat_test, sat_truth, sat_and, sat_or, sat_not, sat_yes, sat_andv, sat_notv, sat_chain, sat_nil, sat_cons, sat_args, sat_call, sat_callX, sat_meth, sat_one, sat_oNone, sat_oSome, sat_sl, sat_tup, sat_lst, sat_loc, ss_nil, ss_seq, ss_set, ss_expr, ss_ret, ss_retN, ss_if, ss_tg, ss_par, ss_sub, ss_for, sat_comp, setTg, setTgs, wipeP, sizeLine_eq, List.map_cons, List.map_nil, List.length_cons, List.length_nil, List.cons_append, List.nil_append, List.set_cons_zero, List.set_cons_succ, List.getElem?_cons_zero, List.getElem?_cons_succ, Nat.reduceAdd, Nat.reduceSub, Nat.reduceLeDiff, List.reduceReplicate, Option.some.injEq, exists_eq_left', true_and, and_true, Nat.zero_add, o_addI, o_addS, o_addT, o_addL, o_subI, o_mulI, o_fdivI, o_modI, o_powI, o_negI, o_eqI, o_neI, o_eqS, o_neS, o_ltI, o_gtI, o_leI, o_geI, o_ltS, o_geS, o_inS, o_notInS, o_isN, o_isNotN, o_isT, o_isNotT, o_isS, o_isNotS, o_int, o_intB, o_abs, o_str, o_lenT, o_lenL, o_lenF, o_lenS, o_ixT, o_ixL, o_ixF, ixW_0, ixW_1, ixW_2, o_isStr, o_tupL, o_tupT, o_listT, o_listL, o_listLocT, o_gcd, o_bits, o_finF, o_finT, sat_iVal, sat_iEnum, sat_iRange1, sat_iRange2, o_itT, o_itL, o_itF, o_itS, o_enT, o_rng, Int.reduceLE, Int.reduceLT, nabs, Nat.reducePow, Nat.reduceLT, Int.reduceToNat, Int.reducePow, true_and, and_true, or_true, true_or, and_self, if_true, if_false, Bool.false_eq_true, decide_true, decide_false, not_false_eq_true, List.length_map, o_ixP hr2, o_lenP ho2]
      simp only [sat_ok, sat_bind, sat_v, sat_c, sat_bin, sat_un, sat_test, sat_truth, sat_and, sat_or, sat_not, sat_yes, sat_andv, sat_notv, sat_chain, sat_nil, sat_cons, sat_args, sat_call, sat_callX, sat_meth, sat_one, sat_oNone, sat_oSome, sat_sl, sat_tup, sat_lst, sat_loc, ss_nil, ss_seq, ss_set, ss_expr, ss_ret, ss_retN, ss_if, ss_tg, ss_par, ss_sub, ss_for, sat_comp, setTg, setTgs, wipeP, sizeLine_eq, List.map_cons, List.map_nil, List.length_cons, List.length_nil, List.cons_append, List.nil_append, List.set_cons_zero, List.set_cons_succ, List.getElem?_cons_zero, List.getElem?_cons_succ, Nat.reduceAdd, Nat.reduceSub, Nat.reduceLeDiff, List.reduceReplicate, Option.some.injEq, exists_eq_left', true_and, and_true, Nat.zero_add, o_addI, o_addS, o_addT, o_addL, o_subI, o_mulI, o_fdivI, o_modI, o_powI, o_negI, o_eqI, o_neI, o_eqS, o_neS, o_ltI, o_gtI, o_leI, o_geI, o_ltS, o_geS, o_inS, o_notInS, o_isN, o_isNotN, o_isT, o_isNotT, o_isS, o_isNotS, o_int, o_intB, o_abs, o_str, o_lenT, o_lenL, o_lenF, o_lenS, o_ixT, o_ixL, o_ixF, ixW_0, ixW_1, ixW_2, o_isStr, o_tupL, o_tupT, o_listT, o_listL, o_listLocT, o_gcd, o_bits, o_finF, o_finT, sat_iVal, sat_iEnum, sat_iRange1, sat_iRange2, o_itT, o_itL, o_itF, o_itS, o_enT, o_rng, Int.reduceLE, Int.reduceLT, nabs, Nat.reducePow, Nat.reduceLT, Int.reduceToNat, Int.reducePow, true_and, and_true, or_true, true_or, and_self, if_true, if_false, Bool.false_eq_true, decide_true, decide_false, not_false_eq_true, List.length_map, o_lenP ho2] at out
      split
      · rename_i h0
        refine out fun h1 _ => ?_
        obtain ⟨r', m', _⟩ := hwn (hwf h1)
        have := List.length_pos_of_mem m'
        simp at h0
        subst h0
        cases m'
      · rename_i h0
        have hne : rs ≠ [] := by
          intro z
          subst z
          simp at h0
        split
        · rename_i h3
          refine out fun h1 h2 => ?_
          simp at h3
          omega
        · split
          · rename_i h4
            refine out fun h1 h2 => ?_
            have := hwf h1
            rw [hbw (by simpa using h4)] at this
            cases this
          · first | exact hne | exact ⟨rfl, rfl, hne⟩
    rintro e s ⟨rfl, rfl, hne⟩
    have hlen : 0 < rs.length := List.length_pos_iff.mpr hne
    -- the row
    refine seq_mid (fun e t => ∃ row ∈ rs, e = ([some (scr ns), some (PV.loc l), some (PV.lst (rs.map Row.pv)), some (PV.loc op), some (PV.loc m), some wish, some (PV.bl b), some row.pv, none, none, none, none, none, none] : PEnv) ∧ SrcAt t l ∧ Gr [l] s t) ?_ ?_
    · simp only [sat_ok, sat_bind, sat_v, sat_c, sat_bin, sat_un, sat_test, sat_truth, sat_and, sat_or, sat_not, sat_yes, sat_andv, sat_notv, sat_chain, sat_nil, sat_cons, sat_args, sat_call, sat_callX, sat_meth, sat_one, sat_oNone, sat_oSome, sat_sl, sat_tup, sat_lst, sat_loc, ss_nil, ss_seq, ss_set, ss_expr, ss_ret, ss_retN, ss_if, ss_tg, ss_par, ss_sub, ss_for, sat_comp, setTg, setTgs, wipeP, sizeLine_eq, List.map_cons, List.map_nil, List.length_cons, List.length_nil, List.cons_append, List.nil_append, List.set_cons_zero, List.set_cons_succ, List.getElem?_cons_zero, List.getElem?_cons_succ, Nat.reduceAdd, Nat.reduceSub, Nat.reduceLeDiff, List.reduceReplicate, Option.some.injEq, exists_eq_left', true_and, and_true, Nat.zero_add, o_addI, o_addS, o_addT, o_addL, o_subI, o_mulI, o_fdivI, o_modI, o_powI, o_negI, o_eqI, o_neI, o_eqS, o_neS, o_ltI, o_gtI, o_leI, o_geI, o_ltS, o_geS, o_inS, o_notInS, o_isN, o_isNotN, o_isT, o_isNotT, o_isS, o_isNotS, o_int, o_intB, o_abs, o_str, o_lenT, o_lenL, o_lenF, o_lenS, o_ixT, o_ixL, o_ixF, ixW_0, ixW_1, ixW_2, o_isStr, o_tupL, o_tupT, o_listT, o_listL, o_listLocT, o_gcd, o_bits, o_finF, o_finT, sat_iVal, sat_iEnum, sat_iRange1, sat_iRange2, o_itT, o_itL, o_itF, o_itS, o_enT, o_rng]
      refine draw' hs2 (by rw [List.length_map]; omega) (log2_k (n := 100) (by omega) (by rw [List.length_map]; omega)) fun r t c0 c1 ht f => ?_
      simp only [o_addI, o_addS, o_addT, o_addL, o_subI, o_mulI, o_fdivI, o_modI, o_powI, o_negI, o_eqI, o_neI, o_eqS, o_neS, o_ltI, o_gtI, o_leI, o_geI, o_ltS, o_geS, o_inS, o_notInS, o_isN, o_isNotN, o_isT, o_isNotT, o_isS, o_isNotS, o_int, o_intB, o_abs, o_str, o_lenT, o_lenL, o_lenF, o_lenS, o_ixT, o_ixL, o_ixF, ixW_0, ixW_1, ixW_2, o_isStr, o_tupL, o_tupT, o_listT, o_listL, o_listLocT, o_gcd, o_bits, o_finF, o_finT, sat_iVal, sat_iEnum, sat_iRange1, sat_iRange2, o_itT, o_itL, o_itF, o_itS, o_enT, o_rng]
      refine draw_len c0 c1 fun y hy => ?_
      obtain ⟨row, mr, rfl⟩ := List.mem_map.mp hy
      exact ⟨row, mr, rfl, ht, f⟩
    rintro e t1 ⟨row, hrow, rfl, ht1, f1⟩
    refine seq_mid (fun e t => ∃ row ∈ rs, e = ([some (scr ns), some (PV.loc l), some (PV.lst (rs.map Row.pv)), some (PV.loc op), some (PV.loc m), some wish, some (PV.bl b), some row.pv, none, none, none, none, none, none] : PEnv) ∧ t = t1) ?_ ?_
    · simp only [sat_ok, sat_bind, sat_v, sat_c, sat_bin, sat_un, sat_test, sat_truth, sat_and, sat_or, sat_not, sat_yes, sat_andv, sat_notv, sat_chain, sat_nil, sat_cons, sat_args, sat_call, sat_callX, sat_meth, sat_one, sat_oNone, sat_oSome, sat_sl, sat_tup, sat_lst, sat_loc, ss_nil, ss_seq, ss_set, ss_expr, ss_ret, ss_retN, ss_if, ss_tg, ss_par, ss_sub, ss_for, sat_comp, setTg, setTgs, wipeP, sizeLine_eq, List.map_cons, List.map_nil, List.length_cons, List.length_nil, List.cons_append, List.nil_append, List.set_cons_zero, List.set_cons_succ, List.getElem?_cons_zero, List.getElem?_cons_succ, Nat.reduceAdd, Nat.reduceSub, Nat.reduceLeDiff, List.reduceReplicate, Option.some.injEq, exists_eq_left', true_and, and_true, Nat.zero_add, (hwb _ _).2]
      split
      · rename_i h
        obtain ⟨r', m', rfl⟩ := hwn (by simpa using h)
        exact ⟨r', m', by first | rfl | exact ⟨rfl, rfl⟩⟩
      · exact ⟨row, hrow, by first | rfl | exact ⟨rfl, rfl⟩⟩
    rintro e t1 ⟨row, hrow, rfl, rfl⟩
    have hgr := hg row hrow
    -- the rest
    refine seq_mid (fun e t => ∃ rest : List Row, e = ([some (scr ns), some (PV.loc l), some (PV.lst (rs.map Row.pv)), some (PV.loc op), some (PV.loc m), some wish, some (PV.bl b), some row.pv, some (PV.lst (rest.map Row.pv)), none, none, none, none, none] : PEnv) ∧ rest.length < rs.length ∧ rest = rs.filter (fun q => !decide (q.n = row.n)) ∧ t = t1) ?_ ?_
    · simp only [sat_ok, sat_bind, sat_v, sat_c, sat_bin, sat_un, sat_test, sat_truth, sat_and, sat_or, sat_not, sat_yes, sat_andv, sat_notv, sat_chain, sat_nil, sat_cons, sat_args, sat_call, sat_callX, sat_meth, sat_one, sat_oNone, sat_oSome, sat_sl, sat_tup, sat_lst, sat_loc, ss_nil, ss_seq, ss_set, ss_expr, ss_ret, ss_retN, ss_if, ss_tg, ss_par, ss_sub, ss_for, sat_comp, setTg, setTgs, wipeP, sizeLine_eq, List.map_cons, List.map_nil, List.length_cons, List.length_nil, List.cons_append, List.nil_append, List.set_cons_zero, List.set_cons_succ, List.getElem?_cons_zero, List.getElem?_cons_succ, Nat.reduceAdd, Nat.reduceSub, Nat.reduceLeDiff, List.reduceReplicate, Option.some.injEq, exists_eq_left', true_and, and_true, Nat.zero_add, o_addI, o_addS, o_addT, o_addL, o_subI, o_mulI, o_fdivI, o_modI, o_powI, o_negI, o_eqI, o_neI, o_eqS, o_neS, o_ltI, o_gtI, o_leI, o_geI, o_ltS, o_geS, o_inS, o_notInS, o_isN, o_isNotN, o_isT, o_isNotT, o_isS, o_isNotS, o_int, o_intB, o_abs, o_str, o_lenT, o_lenL, o_lenF, o_lenS, o_ixT, o_ixL, o_ixF, ixW_0, ixW_1, ixW_2, o_isStr, o_tupL, o_tupT, o_listT, o_listL, o_listLocT, o_gcd, o_bits, o_finF, o_finT, sat_iVal, sat_iEnum, sat_iRange1, sat_iRange2, o_itT, o_itL, o_itF, o_itS, o_enT, o_rng]
      refine comp_filt (as := rs) (f := Row.pv) (g := Row.pv) (p := fun q => !decide (q.n = row.n)) (by simp [wipeP]) (by omega) (fun x hx => t_ok fun Q k => by
        rw [sat_bin, sat_bin, sat_var (v := x.pv) (by simp [wipeP]), sat_c, row_ix0, sat_bin, sat_var (v := row.pv) (by simp [wipeP]), sat_c, row_ix0, o_neS]; exact k) (fun x hx _ => det fun Q k => by
        rw [sat_var (v := x.pv) (by simp [wipeP])]; exact k) ?_ _ trivial
      simp only [o_addI, o_addS, o_addT, o_addL, o_subI, o_mulI, o_fdivI, o_modI, o_powI, o_negI, o_eqI, o_neI, o_eqS, o_neS, o_ltI, o_gtI, o_leI, o_geI, o_ltS, o_geS, o_inS, o_notInS, o_isN, o_isNotN, o_isT, o_isNotT, o_isS, o_isNotS, o_int, o_intB, o_abs, o_str, o_lenT, o_lenL, o_lenF, o_lenS, o_ixT, o_ixL, o_ixF, ixW_0, ixW_1, ixW_2, o_isStr, o_tupL, o_tupT, o_listT, o_listL, o_listLocT, o_gcd, o_bits, o_finF, o_finT, sat_iVal, sat_iEnum, sat_iRange1, sat_iRange2, o_itT, o_itL, o_itF, o_itS, o_enT, o_rng]
      refine ⟨_, rfl, ?_, rfl, trivial⟩
      have : ∃ x ∈ rs, ¬ (!decide (x.n = row.n)) = true := ⟨row, hrow, by simp⟩
      exact List.length_filter_lt_length_iff_exists.mpr this
    rintro e t ⟨rest, rfl, hlt, hrest, rfl⟩
    have hgrest : ∀ x ∈ rest, x.Ok := fun x m => by subst hrest; exact hg x (List.mem_filter.mp m).1
    -- style, shared
    refine seq_mid (fun e t2 => ∃ sty : Int, e = ([some (scr ns), some (PV.loc l), some (PV.lst (rs.map Row.pv)), some (PV.loc op), some (PV.loc m), some wish, some (PV.bl b), some row.pv, some (PV.lst (rest.map Row.pv)), some (PV.int sty), none, none, none, none] : PEnv) ∧ SrcAt t2 l ∧ Gr [l] s t2) ?_ ?_
    · simp only [sat_ok, sat_bind, sat_v, sat_c, sat_bin, sat_un, sat_test, sat_truth, sat_and, sat_or, sat_not, sat_yes, sat_andv, sat_notv, sat_chain, sat_nil, sat_cons, sat_args, sat_call, sat_callX, sat_meth, sat_one, sat_oNone, sat_oSome, sat_sl, sat_tup, sat_lst, sat_loc, ss_nil, ss_seq, ss_set, ss_expr, ss_ret, ss_retN, ss_if, ss_tg, ss_par, ss_sub, ss_for, sat_comp, setTg, setTgs, wipeP, sizeLine_eq, List.map_cons, List.map_nil, List.length_cons, List.length_nil, List.cons_append, List.nil_append, List.set_cons_zero, List.set_cons_succ, List.getElem?_cons_zero, List.getElem?_cons_succ, Nat.reduceAdd, Nat.reduceSub, Nat.reduceLeDiff, List.reduceReplicate, Option.some.injEq, exists_eq_left', true_and, and_true, Nat.zero_add, o_addI, o_addS, o_addT, o_addL, o_subI, o_mulI, o_fdivI, o_modI, o_powI, o_negI, o_eqI, o_neI, o_eqS, o_neS, o_ltI, o_gtI, o_leI, o_geI, o_ltS, o_geS, o_inS, o_notInS, o_isN, o_isNotN, o_isT, o_isNotT, o_isS, o_isNotS, o_int, o_intB, o_abs, o_str, o_lenT, o_lenL, o_lenF, o_lenS, o_ixT, o_ixL, o_ixF, ixW_0, ixW_1, ixW_2, o_isStr, o_tupL, o_tupT, o_listT, o_listL, o_listLocT, o_gcd, o_bits, o_finF, o_finT, sat_iVal, sat_iEnum, sat_iRange1, sat_iRange2, o_itT, o_itL, o_itF, o_itS, o_enT, o_rng]
      refine draw' ht1 (by decide) (by decide) fun r t2 c0 c1 ht f => ?_
      exact ⟨r, rfl, ht, f1.trans f⟩
    rintro e t2 ⟨sty, rfl, ht2, f2⟩
    refine seq_mid (fun e t3 => e = ([some (scr ns), some (PV.loc l), some (PV.lst (rs.map Row.pv)), some (PV.loc op), some (PV.loc m), some wish, some (PV.bl b), some row.pv, some (PV.lst (rest.map Row.pv)), some (PV.int sty), some PV.non, none, none, none] : PEnv) ∧ t3 = t2) ?_ ?_
    · simp only [sat_ok, sat_bind, sat_v, sat_c, sat_bin, sat_un, sat_test, sat_truth, sat_and, sat_or, sat_not, sat_yes, sat_andv, sat_notv, sat_chain, sat_nil, sat_cons, sat_args, sat_call, sat_callX, sat_meth, sat_one, sat_oNone, sat_oSome, sat_sl, sat_tup, sat_lst, sat_loc, ss_nil, ss_seq, ss_set, ss_expr, ss_ret, ss_retN, ss_if, ss_tg, ss_par, ss_sub, ss_for, sat_comp, setTg, setTgs, wipeP, sizeLine_eq, List.map_cons, List.map_nil, List.length_cons, List.length_nil, List.cons_append, List.nil_append, List.set_cons_zero, List.set_cons_succ, List.getElem?_cons_zero, List.getElem?_cons_succ, Nat.reduceAdd, Nat.reduceSub, Nat.reduceLeDiff, List.reduceReplicate, Option.some.injEq, exists_eq_left', true_and, and_true, Nat.zero_add, o_addI, o_addS, o_addT, o_addL, o_subI, o_mulI, o_fdivI, o_modI, o_powI, o_negI, o_eqI, o_neI, o_eqS, o_neS, o_ltI, o_gtI, o_leI, o_geI, o_ltS, o_geS, o_inS, o_notInS, o_isN, o_isNotN, o_isT, o_isNotT, o_isS, o_isNotS, o_int, o_intB, o_abs, o_str, o_lenT, o_lenL, o_lenF, o_lenS, o_ixT, o_ixL, o_ixF, ixW_0, ixW_1, ixW_2, o_isStr, o_tupL, o_tupT, o_listT, o_listL, o_listLocT, o_gcd, o_bits, o_finF, o_finT, sat_iVal, sat_iEnum, sat_iRange1, sat_iRange2, o_itT, o_itL, o_itF, o_itS, o_enT, o_rng]
    rintro e t2 ⟨rfl, rfl⟩
    refine seq_mid (fun e t3 => ∃ sh : PV, e = ([some (scr ns), some (PV.loc l), some (PV.lst (rs.map Row.pv)), some (PV.loc op), some (PV.loc m), some wish, some (PV.bl b), some row.pv, some (PV.lst (rest.map Row.pv)), some (PV.int sty), some sh, none, none, none] : PEnv) ∧ (sh = .non ∨ ∃ r ∈ rest, sh = r.pv) ∧ SrcAt t3 l ∧ Gr [l] s t3) ?_ ?_
    · simp only [sat_ok, sat_bind, sat_v, sat_c, sat_bin, sat_un, sat_test, sat_truth, sat_and, sat_or, sat_not, sat_yes, sat_andv, sat_notv, sat_chain, sat_nil, sat_cons, sat_args, sat_call, sat_callX, sat_meth, sat_one, sat_oNone, sat_oSome, sat_sl, sat_tup, sat_lst, sat_loc, ss_nil, ss_seq, ss_set, ss_expr, ss_ret, ss_retN, ss_if, ss_tg, ss_par, ss_sub, ss_for, sat_comp, setTg, setTgs, wipeP, sizeLine_eq, List.map_cons, List.map_nil, List.length_cons, List.length_nil, List.cons_append, List.nil_append, List.set_cons_zero, List.set_cons_succ, List.getElem?_cons_zero, List.getElem?_cons_succ, Nat.reduceAdd, Nat.reduceSub, Nat.reduceLeDiff, List.reduceReplicate, Option.some.injEq, exists_eq_left', true_and, and_true, Nat.zero_add, o_addI, o_addS, o_addT, o_addL, o_subI, o_mulI, o_fdivI, o_modI, o_powI, o_negI, o_eqI, o_neI, o_eqS, o_neS, o_ltI, o_gtI, o_leI, o_geI, o_ltS, o_geS, o_inS, o_notInS, o_isN, o_isNotN, o_isT, o_isNotT, o_isS, o_isNotS, o_int, o_intB, o_abs, o_str, o_lenT, o_lenL, o_lenF, o_lenS, o_ixT, o_ixL, o_ixF, ixW_0, ixW_1, ixW_2, o_isStr, o_tupL, o_tupT, o_listT, o_listL, o_listLocT, o_gcd, o_bits, o_finF, o_finT, sat_iVal, sat_iEnum, sat_iRange1, sat_iRange2, o_itT, o_itL, o_itF, o_itS, o_enT, o_rng]
      split
      · split
        · rename_i h
          have h : 0 < (rest.length : Int) := by simpa using h
          refine draw' ht2 (by rw [List.length_map]; exact h) (log2_k (n := 100) (by omega) (by rw [List.length_map]; omega)) fun r t3 c0 c1 ht f => ?_
          simp only [o_addI, o_addS, o_addT, o_addL, o_subI, o_mulI, o_fdivI, o_modI, o_powI, o_negI, o_eqI, o_neI, o_eqS, o_neS, o_ltI, o_gtI, o_leI, o_geI, o_ltS, o_geS, o_inS, o_notInS, o_isN, o_isNotN, o_isT, o_isNotT, o_isS, o_isNotS, o_int, o_intB, o_abs, o_str, o_lenT, o_lenL, o_lenF, o_lenS, o_ixT, o_ixL, o_ixF, ixW_0, ixW_1, ixW_2, o_isStr, o_tupL, o_tupT, o_listT, o_listL, o_listLocT, o_gcd, o_bits, o_finF, o_finT, sat_iVal, sat_iEnum, sat_iRange1, sat_iRange2, o_itT, o_itL, o_itF, o_itS, o_enT, o_rng]
          refine draw_len c0 c1 fun y hy => ?_
          obtain ⟨r', m', rfl⟩ := List.mem_map.mp hy
          exact ⟨_, rfl, .inr ⟨r', m', rfl⟩, ht, f2.trans f⟩
        · exact ⟨.non, rfl, .inl rfl, ht2, f2⟩
      · split
        · rename_i h
          cases h
        · exact ⟨.non, rfl, .inl rfl, ht2, f2⟩
    rintro e t3 ⟨sh, rfl, hsh, ht3, f3⟩
    -- the children
    have hm3 : Room t3 m := Room.gr ⟨r2, hr2⟩ f3 (by simpa using Ne.symm nlm)
    have ho3 := f3.at' ho2 (by simpa using Ne.symm nlo)
    refine seq_mid (fun e t4 => e = ([some (scr ns), some (PV.loc l), some (PV.lst (rs.map Row.pv)), some (PV.loc op), some (PV.loc m), some wish, some (PV.bl b), some row.pv, some (PV.lst (rest.map Row.pv)), some (PV.int sty), some sh, some (PV.loc t3.length), none, none] : PEnv) ∧ t4 = t3 ++ [.lst []]) ?_ ?_
    · simp only [sat_ok, sat_bind, sat_v, sat_c, sat_bin, sat_un, sat_test, sat_truth, sat_and, sat_or, sat_not, sat_yes, sat_andv, sat_notv, sat_chain, sat_nil, sat_cons, sat_args, sat_call, sat_callX, sat_meth, sat_one, sat_oNone, sat_oSome, sat_sl, sat_tup, sat_lst, sat_loc, ss_nil, ss_seq, ss_set, ss_expr, ss_ret, ss_retN, ss_if, ss_tg, ss_par, ss_sub, ss_for, sat_comp, setTg, setTgs, wipeP, sizeLine_eq, List.map_cons, List.map_nil, List.length_cons, List.length_nil, List.cons_append, List.nil_append, List.set_cons_zero, List.set_cons_succ, List.getElem?_cons_zero, List.getElem?_cons_succ, Nat.reduceAdd, Nat.reduceSub, Nat.reduceLeDiff, List.reduceReplicate, Option.some.injEq, exists_eq_left', true_and, and_true, Nat.zero_add, o_addI, o_addS, o_addT, o_addL, o_subI, o_mulI, o_fdivI, o_modI, o_powI, o_negI, o_eqI, o_neI, o_eqS, o_neS, o_ltI, o_gtI, o_leI, o_geI, o_ltS, o_geS, o_inS, o_notInS, o_isN, o_isNotN, o_isT, o_isNotT, o_isS, o_isNotS, o_int, o_intB, o_abs, o_str, o_lenT, o_lenL, o_lenF, o_lenS, o_ixT, o_ixL, o_ixF, ixW_0, ixW_1, ixW_2, o_isStr, o_tupL, o_tupT, o_listT, o_listL, o_listLocT, o_gcd, o_bits, o_finF, o_finT, sat_iVal, sat_iEnum, sat_iRange1, sat_iRange2, o_itT, o_itL, o_itF, o_itS, o_enT, o_rng]
    rintro e t4 ⟨rfl, rfl⟩
    have hw1 := hgr.w1
    have hw2 := hgr.w2
    have hl3 := ht3.lt
    have hm3' : m < t3.length := by obtain ⟨r, e⟩ := hm3; exact lt_of_some e
    have hop3 := lt_of_some ho3
    have g4 : Gr [] t3 (t3 ++ [.lst []]) := .app
    have hs4 := ht3.gr g4 (by simp)
    have hm4 := hm3.gr g4 (by simp)
    have ho4 := g4.at' ho3 (by simp)
    have hc4 : (t3 ++ [PO.lst []])[t3.length]? = some (.lst []) := by simp
    generalize hch : t3.length = ch at *
    generalize t3 ++ [PO.lst []] = t4 at *
    refine seq_mid (fun e t => ∃ (kids : List T) (mv : Option PV), e = ([some (scr ns), some (PV.loc l), some (PV.lst (rs.map Row.pv)), some (PV.loc op), some (PV.loc m), some wish, some (PV.bl b), some row.pv, some (PV.lst (rest.map Row.pv)), some (PV.int sty), some sh, some (PV.loc ch), mv, none] : PEnv) ∧ t[ch]? = some (.lst (T.pvs kids)) ∧ kids.length = row.ws.length ∧ (∀ x ∈ kids, Grow rest x) ∧ SrcAt t l ∧ Room t m ∧ Gr [l, m, ch] t4 t) ?_ ?_
    · rw [ss_for, sat_iRange1, sat_args, sat_cons, sat_bin, sat_var rfl, sat_c, row_ix2, sat_nil, sat_one, o_lenT, o_rng]
      refine ⟨by rw [List.length_map]; omega, ?_⟩
      refine for_invN (k := 0) (fun i e t => ∃ (kids : List T) (mv : Option PV), e = ([some (scr ns), some (PV.loc l), some (PV.lst (rs.map Row.pv)), some (PV.loc op), some (PV.loc m), some wish, some (PV.bl b), some row.pv, some (PV.lst (rest.map Row.pv)), some (PV.int sty), some sh, some (PV.loc ch), mv, none] : PEnv) ∧ t[ch]? = some (.lst (T.pvs kids)) ∧ kids.length = i ∧ (∀ x ∈ kids, Grow rest x) ∧ SrcAt t l ∧ Room t m ∧ Gr [l, m, ch] t4 t)
        ⟨[], _, rfl, hc4, rfl, nofun, hs4, hm4, .refl⟩ ?_ ?_
      · rintro i v e t hv ⟨kids, mv, rfl, hk, hkl, hkt, hst, hmt, g5⟩
        obtain ⟨hi, rfl⟩ := rngs_get hv
        rw [List.length_map] at hi
        have hi : i < row.ws.length := by simpa using hi
        refine ⟨_, rfl, ?_⟩
        have hot := g5.at' ho4 (by simp; exact ⟨Ne.symm nlo, nom, by omega⟩)
        -- the child drawn anew
        have anew : ∀ t', SrcAt t' l → Room t' m → Gr [l, m, ch] t4 t' → t'[ch]? = some (.lst (T.pvs kids)) → SatS (sExpr (eMeth isListP pAppend (eVar 11) (aCons (eCall 6 (fuelF 14 f_law_tree n) (aCons (eVar 0) (aCons (eVar 1) (aCons (eVar 8) (aCons (eVar 3) (aCons (eVar 4) (aCons (eVar 10) aNil))))))) aNil)) ([some (scr ns), some (PV.loc l), some (PV.lst (rs.map Row.pv)), some (PV.loc op), some (PV.loc m), some wish, some (PV.bl b), some row.pv, some (PV.lst (rest.map Row.pv)), some (PV.int sty), some sh, some (PV.loc ch), some (PV.int (0 + (i : Int))), none] : PEnv) t') (fun e t => ∃ (kids : List T) (mv : Option PV), e = ([some (scr ns), some (PV.loc l), some (PV.lst (rs.map Row.pv)), some (PV.loc op), some (PV.loc m), some wish, some (PV.bl b), some row.pv, some (PV.lst (rest.map Row.pv)), some (PV.int sty), some sh, some (PV.loc ch), mv, none] : PEnv) ∧ t[ch]? = some (.lst (T.pvs kids)) ∧ kids.length = 0 + i + 1 ∧ (∀ x ∈ kids, Grow rest x) ∧ SrcAt t l ∧ Room t m ∧ Gr [l, m, ch] t4 t) Q := by
          intro t' a1 a2 a3 a4
          simp only [sat_ok, sat_bind, sat_v, sat_c, sat_bin, sat_un, sat_test, sat_truth, sat_and, sat_or, sat_not, sat_yes, sat_andv, sat_notv, sat_chain, sat_nil, sat_cons, sat_args, sat_call, sat_callX, sat_meth, sat_one, sat_oNone, sat_oSome, sat_sl, sat_tup, sat_lst, sat_loc, ss_nil, ss_seq, ss_set, ss_expr, ss_ret, ss_retN, ss_if, ss_tg, ss_par, ss_sub, ss_for, sat_comp, setTg, setTgs, wipeP, sizeLine_eq, List.map_cons, List.map_nil, List.length_cons, List.length_nil, List.cons_append, List.nil_append, List.set_cons_zero, List.set_cons_succ, List.getElem?_cons_zero, List.getElem?_cons_succ, Nat.reduceAdd, Nat.reduceSub, Nat.reduceLeDiff, List.reduceReplicate, Option.some.injEq, exists_eq_left', true_and, and_true, Nat.zero_add, o_addI, o_addS, o_addT, o_addL, o_subI, o_mulI, o_fdivI, o_modI, o_powI, o_negI, o_eqI, o_neI, o_eqS, o_neS, o_ltI, o_gtI, o_leI, o_geI, o_ltS, o_geS, o_inS, o_notInS, o_isN, o_isNotN, o_isT, o_isNotT, o_isS, o_isNotS, o_int, o_intB, o_abs, o_str, o_lenT, o_lenL, o_lenF, o_lenS, o_ixT, o_ixL, o_ixF, ixW_0, ixW_1, ixW_2, o_isStr, o_tupL, o_tupT, o_listT, o_listL, o_listLocT, o_gcd, o_bits, o_finF, o_finT, sat_iVal, sat_iEnum, sat_iRange1, sat_iRange2, o_itT, o_itL, o_itF, o_itS, o_enT, o_rng]
          refine ⟨o_isL a4, ?_⟩
          refine tree_ok hu0 hul hus nlo nlm nom n rest sh t' _ (by omega) (by omega) hgrest hsh a1 a2 (a3.at' ho4 (by simp; exact ⟨Ne.symm nlo, nom, by omega⟩)) fun v t5 b1 _ b2 b3 b4 => ?_
          have hk5 := b4.at' a4 (by simp; omega)
          rw [o_app hk5]
          refine ⟨by rw [sizeLine_eq, T.pvs_len]; omega, ?_⟩
          have g6 : Gr [ch] t5 (t5.set ch (.lst (T.pvs kids ++ [v.pv]))) := .set (by simp)
          refine ⟨kids ++ [v], _, rfl, by rw [List.getElem?_set_self (lt_of_some hk5), T.pvs_map, T.pvs_map, List.map_append]; rfl, by simp; omega, fun x hx => ?_, b2.gr g6 (by simp; omega), b3.gr g6 (by simp; omega), a3.trans ((b4.mono (by simp)).trans (g6.mono (by simp)))⟩
          rcases List.mem_append.mp hx with q | q
          · exact hkt x q
          · rw [List.mem_singleton.mp q]; exact b1
        have nch : ch ∉ [l] := by simp; omega
        simp only [sat_ok, sat_bind, sat_v, sat_c, sat_bin, sat_un, sat_test, sat_truth, sat_and, sat_or, sat_not, sat_yes, sat_andv, sat_notv, sat_chain, sat_nil, sat_cons, sat_args, sat_call, sat_callX, sat_meth, sat_one, sat_oNone, sat_oSome, sat_sl, sat_tup, sat_lst, sat_loc, ss_nil, ss_seq, ss_set, ss_expr, ss_ret, ss_retN, ss_if, ss_tg, ss_par, ss_sub, ss_for, sat_comp, setTg, setTgs, wipeP, sizeLine_eq, List.map_cons, List.map_nil, List.length_cons, List.length_nil, List.cons_append, List.nil_append, List.set_cons_zero, List.set_cons_succ, List.getElem?_cons_zero, List.getElem?_cons_succ, Nat.reduceAdd, Nat.reduceSub, Nat.reduceLeDiff, List.reduceReplicate, Option.some.injEq, exists_eq_left', true_and, and_true, Nat.zero_add, o_addI, o_addS, o_addT, o_addL, o_subI, o_mulI, o_fdivI, o_modI, o_powI, o_negI, o_eqI, o_neI, o_eqS, o_neS, o_ltI, o_gtI, o_leI, o_geI, o_ltS, o_geS, o_inS, o_notInS, o_isN, o_isNotN, o_isT, o_isNotT, o_isS, o_isNotS, o_int, o_intB, o_abs, o_str, o_lenT, o_lenL, o_lenF, o_lenS, o_ixT, o_ixL, o_ixF, ixW_0, ixW_1, ixW_2, o_isStr, o_tupL, o_tupT, o_listT, o_listL, o_listLocT, o_gcd, o_bits, o_finF, o_finT, sat_iVal, sat_iEnum, sat_iRange1, sat_iRange2, o_itT, o_itL, o_itF, o_itS, o_enT, o_rng] at anew ⊢
        -- the child before, once more
        have again : 0 < i → ∀ t', SrcAt t' l → Room t' m → Gr [l, m, ch] t4 t' → t'[ch]? = some (.lst (T.pvs kids)) → isListP (.loc ch) t' = true ∧ Sat (pIx (.loc ch) (.int (0 + (i : Int) - 1)) t') fun v s => Sat (pAppend (.loc ch) [v] s) fun _ t => ∃ (kids : List T) (mv : Option PV), ([some (scr ns), some (PV.loc l), some (PV.lst (rs.map Row.pv)), some (PV.loc op), some (PV.loc m), some wish, some (PV.bl b), some row.pv, some (PV.lst (rest.map Row.pv)), some (PV.int sty), some sh, some (PV.loc ch), some (PV.int (0 + (i : Int))), none] : PEnv) = ([some (scr ns), some (PV.loc l), some (PV.lst (rs.map Row.pv)), some (PV.loc op), some (PV.loc m), some wish, some (PV.bl b), some row.pv, some (PV.lst (rest.map Row.pv)), some (PV.int sty), some sh, some (PV.loc ch), mv, none] : PEnv) ∧ t[ch]? = some (.lst (T.pvs kids)) ∧ kids.length = i + 1 ∧ (∀ x ∈ kids, Grow rest x) ∧ SrcAt t l ∧ Room t m ∧ Gr [l, m, ch] t4 t := by
          intro h0 t' a1 a2 a3 a4
          refine ⟨o_isL a4, ?_⟩
          rw [o_ixP a4]
          refine ixW_in (by omega) (by rw [T.pvs_len]; omega) fun y hy => ?_
          obtain ⟨y, hy', rfl⟩ := T.pvs_get hy
          rw [o_app a4]
          refine ⟨by rw [sizeLine_eq, T.pvs_len]; omega, ?_⟩
          have g6 : Gr [ch] t' (t'.set ch (.lst (T.pvs kids ++ [y.pv]))) := .set (by simp)
          refine ⟨kids ++ [y], _, rfl, by rw [List.getElem?_set_self (lt_of_some a4), T.pvs_map, T.pvs_map, List.map_append]; rfl, by simp; omega, fun x hx => ?_, a1.gr g6 (by simp; omega), a2.gr g6 (by simp; omega), a3.trans (g6.mono (by simp))⟩
          rcases List.mem_append.mp hx with q | q
          · exact hkt x q
          · rw [List.mem_singleton.mp q]; exact hkt y (List.mem_of_getElem? hy')
        by_cases h0 : 0 < i
        · have e0 : (0 : Int) < 0 + (i : Int) := by omega
          simp only [decide_eq_true e0, (hwb _ _).1, sat_truth, if_true]
          by_cases hb' : wb = true
          · simp only [hb', if_true]
            by_cases h4 : sty = 4
            · subst h4
              simp only [decide_true, if_true]
              exact again h0 _ hst hmt g5 hk
            · simp only [decide_eq_false h4, Bool.false_eq_true, if_false]
              by_cases h3 : sty = 3
              · subst h3
                simp only [decide_true, if_true]
                refine draw' hst (by decide) (by decide) fun r t' _ _ a1 f1 => ?_
                have a2 := hmt.gr f1 (by simpa using Ne.symm nlm)
                have a3 := g5.trans (f1.mono (L' := [l, m, ch]) (by simp))
                have a4 := f1.at' hk nch
                simp only [sat_ok, sat_bind, sat_v, sat_c, sat_bin, sat_un, sat_test, sat_truth, sat_and, sat_or, sat_not, sat_yes, sat_andv, sat_notv, sat_chain, sat_nil, sat_cons, sat_args, sat_call, sat_callX, sat_meth, sat_one, sat_oNone, sat_oSome, sat_sl, sat_tup, sat_lst, sat_loc, ss_nil, ss_seq, ss_set, ss_expr, ss_ret, ss_retN, ss_if, ss_tg, ss_par, ss_sub, ss_for, sat_comp, setTg, setTgs, wipeP, sizeLine_eq, List.map_cons, List.map_nil, List.length_cons, List.length_nil, List.cons_append, List.nil_append, List.set_cons_zero, List.set_cons_succ, List.getElem?_cons_zero, List.getElem?_cons_succ, Nat.reduceAdd, Nat.reduceSub, Nat.reduceLeDiff, List.reduceReplicate, Option.some.injEq, exists_eq_left', true_and, and_true, Nat.zero_add, o_addI, o_addS, o_addT, o_addL, o_subI, o_mulI, o_fdivI, o_modI, o_powI, o_negI, o_eqI, o_neI, o_eqS, o_neS, o_ltI, o_gtI, o_leI, o_geI, o_ltS, o_geS, o_inS, o_notInS, o_isN, o_isNotN, o_isT, o_isNotT, o_isS, o_isNotS, o_int, o_intB, o_abs, o_str, o_lenT, o_lenL, o_lenF, o_lenS, o_ixT, o_ixL, o_ixF, ixW_0, ixW_1, ixW_2, o_isStr, o_tupL, o_tupT, o_listT, o_listL, o_listLocT, o_gcd, o_bits, o_finF, o_finT, sat_iVal, sat_iEnum, sat_iRange1, sat_iRange2, o_itT, o_itL, o_itF, o_itS, o_enT, o_rng]
                split
                · exact again h0 _ a1 a2 a3 a4
                · exact anew _ a1 a2 a3 a4
              · simp only [decide_eq_false h3, Bool.false_eq_true, if_false]
                exact anew _ hst hmt g5 hk
          · simp only [hb', Bool.false_eq_true, if_false]
            exact anew _ hst hmt g5 hk
        · have e0 : ¬ (0 : Int) < 0 + (i : Int) := by omega
          simp only [decide_eq_false e0, Bool.false_eq_true, if_false]
          exact anew _ hst hmt g5 hk
      · rintro e t ⟨kids, mv, rfl, hk, hkl, hkt, hst, hmt, g5⟩
        exact ⟨kids, mv, rfl, hk, by rw [hkl, rngs_len]; simp, hkt, hst, hmt, g5⟩
    rintro e t ⟨kids, mv, rfl, hk, hkl, hkt, hst, hmt, g5⟩
    rw [ss_ret, sat_args, sat_cons, sat_bin, sat_var rfl, sat_c, row_ix0, sat_cons, sat_args, sat_cons, sat_var rfl, sat_nil, sat_one, o_tupP hk, sat_nil, sat_tup]
    refine ⟨sl2, ?_⟩
    refine k (.node row.n kids) t ?_ (fun _ _ => ⟨_, _, rfl⟩) hst hmt ?_
    · refine .node hrow hkl fun x m => ?_
      rw [← hrest]; exact hkt x m
    · have a1 : Gr [l, m] t3 t := ((g4.mono (by simp)).trans g5).cut (by
        intro j hj hlt'
        simp only [List.mem_cons, List.not_mem_nil, or_false] at hj ⊢
        omega)
      exact g2.trans ((f3.mono (by simp)).trans a1)
/-! ### what grows is bounded, and well formed -/
theorem Grow.fit {c : Nat} : ∀ {n : Nat} {free : List Row} {t : T}, free.length ≤ n → (∀ r ∈ free, r.ws.length ≤ c ∧ r.n.length ≤ 60) → Grow free t → T.Fit c n t
  | n, free, _, hl, hf, .leaf hz => .leaf hz
  | 0, free, _, hl, hf, .node (r := r) hr _ _ => by
    have := List.length_pos_of_mem hr
    omega
  | n + 1, free, _, hl, hf, .node (r := r) hr hc hk => by
    have h1 := hf r hr
    refine .node h1.2 (by rw [hc]; exact h1.1) fun x m => Grow.fit (n := n) ?_ (fun q mq => hf q (List.mem_filter.mp mq).1) (hk x m)
    have : (free.filter fun q => !decide (q.n = r.n)).length < free.length := List.length_filter_lt_length_iff_exists.mpr ⟨r, hr, by simp⟩
    omega
theorem game_ok {ns : List Int} {l : Nat} {st : Store} {Q : PV → Store → Prop} (hs : SrcAt st l)
    (k : ∀ rs t s, Gen rs → rs.length ≤ 5 → Grow rs t → SrcAt s l → Gr [l] st s → Q (.tup [.tup (rs.map Row.pv), t.pv]) s) : Sat (m_law_game [scr ns, .loc l, .int 5, .int 32, .int 40] st) Q := by
  refine sat_body ?_
  unfold f_law_game
  simp only [List.map_cons, List.map_nil, List.length_cons, List.length_nil, Nat.reduceAdd, Nat.reduceSub, List.reduceReplicate, List.cons_append, List.nil_append]
  refine seq_mid (fun e s => ∃ rs : List Row, e = ([some (scr ns), some (PV.loc l), some (PV.int 5), some (PV.int 32), some (PV.int 40), some (PV.tup (rs.map Row.pv)), none, none, none, none] : PEnv) ∧ Gen rs ∧ rs.length ≤ 5 ∧ SrcAt s l ∧ Gr [l] st s) ?_ ?_
  · rw [ss_set, sat_call, sat_cons, sat_var rfl, sat_cons, sat_var rfl, sat_cons, sat_var rfl, sat_cons, sat_var rfl, sat_nil]
    exact ⟨rfl, sets_ok hs fun rs s h1 h2 h3 h4 => ⟨rs, rfl, h1, h2, h3, h4⟩⟩
  rintro e s1 ⟨rs, rfl, hG, hrl, hs1, g1⟩
  have hl1 := hs1.lt
  refine seq_mid (fun e s => e = ([some (scr ns), some (PV.loc l), some (PV.int 5), some (PV.int 32), some (PV.int 40), some (PV.tup (rs.map Row.pv)), some (PV.loc s1.length), none, none, none] : PEnv) ∧ s = s1 ++ [.lst []]) ?_ ?_
  · rw [ss_set, sat_args, sat_nil, sat_loc]
    exact ⟨sl0, rfl, rfl⟩
  rintro e s2 ⟨rfl, rfl⟩
  have g2 : Gr [l] s1 (s1 ++ [PO.lst []]) := .app
  have hs2 := hs1.gr (L := []) .app (by simp) (s := s1 ++ [PO.lst []])
  have ho2 : (s1 ++ [PO.lst []])[s1.length]? = some (.lst []) := by simp
  generalize hop : s1.length = op at *
  generalize s1 ++ [PO.lst []] = s2 at *
  have nol : op ∉ [l] := by simp; omega
  -- the outcomes
  refine seq_mid (fun e s => ∃ (us : List Str) (kk : Option PV), e = ([some (scr ns), some (PV.loc l), some (PV.int 5), some (PV.int 32), some (PV.int 40), some (PV.tup (rs.map Row.pv)), some (PV.loc op), kk, none, none] : PEnv) ∧ us ≠ [] ∧ us.length ≤ 10 ∧ (∀ u ∈ us, u.length ≤ 20) ∧ s[op]? = some (.lst (us.map .str)) ∧ SrcAt s l ∧ Gr [l, op] s2 s) ?_ ?_
  · simp only [sat_ok, sat_bind, sat_v, sat_c, sat_bin, sat_un, sat_test, sat_truth, sat_and, sat_or, sat_not, sat_yes, sat_andv, sat_notv, sat_chain, sat_nil, sat_cons, sat_args, sat_call, sat_callX, sat_meth, sat_one, sat_oNone, sat_oSome, sat_sl, sat_tup, sat_lst, sat_loc, ss_nil, ss_seq, ss_set, ss_expr, ss_ret, ss_retN, ss_if, ss_tg, ss_par, ss_sub, ss_for, sat_comp, setTg, setTgs, wipeP, sizeLine_eq, List.map_cons, List.map_nil, List.length_cons, List.length_nil, List.cons_append, List.nil_append, List.set_cons_zero, List.set_cons_succ, List.getElem?_cons_zero, List.getElem?_cons_succ, Nat.reduceAdd, Nat.reduceSub, Nat.reduceLeDiff, List.reduceReplicate, Option.some.injEq, exists_eq_left', true_and, and_true, Nat.zero_add, o_addI, o_addS, o_addT, o_addL, o_subI, o_mulI, o_fdivI, o_modI, o_powI, o_negI, o_eqI, o_neI, o_eqS, o_neS, o_ltI, o_gtI, o_leI, o_geI, o_ltS, o_geS, o_inS, o_notInS, o_isN, o_isNotN, o_isT, o_isNotT, o_isS, o_isNotS, o_int, o_intB, o_abs, o_str, o_lenT, o_lenL, o_lenF, o_lenS, o_ixT, o_ixL, o_ixF, ixW_0, ixW_1, ixW_2, o_isStr, o_tupL, o_tupT, o_listT, o_listL, o_listLocT, o_gcd, o_bits, o_finF, o_finT, sat_iVal, sat_iEnum, sat_iRange1, sat_iRange2, o_itT, o_itL, o_itF, o_itS, o_enT, o_rng]
    refine draw' hs2 (by decide) (by decide) fun r s3 c0 c1 hs3 g3 => ?_
    simp only [o_addI, o_addS, o_addT, o_addL, o_subI, o_mulI, o_fdivI, o_modI, o_powI, o_negI, o_eqI, o_neI, o_eqS, o_neS, o_ltI, o_gtI, o_leI, o_geI, o_ltS, o_geS, o_inS, o_notInS, o_isN, o_isNotN, o_isT, o_isNotT, o_isS, o_isNotS, o_int, o_intB, o_abs, o_str, o_lenT, o_lenL, o_lenF, o_lenS, o_ixT, o_ixL, o_ixF, ixW_0, ixW_1, ixW_2, o_isStr, o_tupL, o_tupT, o_listT, o_listL, o_listLocT, o_gcd, o_bits, o_finF, o_finT, sat_iVal, sat_iEnum, sat_iRange1, sat_iRange2, o_itT, o_itL, o_itF, o_itS, o_enT, o_rng]
    refine draw_len c0 (by show r < 10; omega) fun y hy => ?_
    obtain ⟨cnt, rfl, hc⟩ : ∃ c : Int, y = .int c ∧ 1 ≤ c ∧ c ≤ 6 := by
      simp only [List.mem_cons, List.not_mem_nil, or_false] at hy
      rcases hy with rfl | rfl | rfl | rfl | rfl | rfl | rfl | rfl | rfl | rfl <;> exact ⟨_, rfl, by decide, by decide⟩
    simp only [o_addI, o_addS, o_addT, o_addL, o_subI, o_mulI, o_fdivI, o_modI, o_powI, o_negI, o_eqI, o_neI, o_eqS, o_neS, o_ltI, o_gtI, o_leI, o_geI, o_ltS, o_geS, o_inS, o_notInS, o_isN, o_isNotN, o_isT, o_isNotT, o_isS, o_isNotS, o_int, o_intB, o_abs, o_str, o_lenT, o_lenL, o_lenF, o_lenS, o_ixT, o_ixL, o_ixF, ixW_0, ixW_1, ixW_2, o_isStr, o_tupL, o_tupT, o_listT, o_listL, o_listLocT, o_gcd, o_bits, o_finF, o_finT, sat_iVal, sat_iEnum, sat_iRange1, sat_iRange2, o_itT, o_itL, o_itF, o_itS, o_enT, o_rng]
    refine ⟨⟨by omega, by omega⟩, ?_⟩
    have ho3 := g3.at' ho2 nol
    refine for_invN (k := 0) (fun i e s => ∃ (us : List Str) (kk : Option PV), e = ([some (scr ns), some (PV.loc l), some (PV.int 5), some (PV.int 32), some (PV.int 40), some (PV.tup (rs.map Row.pv)), some (PV.loc op), kk, none, none] : PEnv) ∧ us.length = i ∧ (∀ u ∈ us, u.length ≤ 20) ∧ s[op]? = some (.lst (us.map .str)) ∧ SrcAt s l ∧ Gr [l, op] s2 s)
      ⟨[], _, rfl, rfl, nofun, ho3, hs3, g3.mono (by simp)⟩ ?_ ?_
    · rintro i v e s hv ⟨us, kk, rfl, hl', hus, ho, hss, g4⟩
      obtain ⟨hi, rfl⟩ := rngs_get hv
      simp only [sat_ok, sat_bind, sat_v, sat_c, sat_bin, sat_un, sat_test, sat_truth, sat_and, sat_or, sat_not, sat_yes, sat_andv, sat_notv, sat_chain, sat_nil, sat_cons, sat_args, sat_call, sat_callX, sat_meth, sat_one, sat_oNone, sat_oSome, sat_sl, sat_tup, sat_lst, sat_loc, ss_nil, ss_seq, ss_set, ss_expr, ss_ret, ss_retN, ss_if, ss_tg, ss_par, ss_sub, ss_for, sat_comp, setTg, setTgs, wipeP, sizeLine_eq, List.map_cons, List.map_nil, List.length_cons, List.length_nil, List.cons_append, List.nil_append, List.set_cons_zero, List.set_cons_succ, List.getElem?_cons_zero, List.getElem?_cons_succ, Nat.reduceAdd, Nat.reduceSub, Nat.reduceLeDiff, List.reduceReplicate, Option.some.injEq, exists_eq_left', true_and, and_true, Nat.zero_add]
      refine ⟨o_isL ho, ?_⟩
      refine name' hss (Use.at' (n := 100) ho (by omega) (by simpa using nol)) (by decide) fun z s4 hz hnz hs4 g5 => ?_
      have ho4 := g5.at' ho nol
      rw [o_app ho4]
      refine ⟨by rw [sizeLine_eq, List.length_map]; omega, ?_⟩
      have g6 : Gr [op] s4 (s4.set op (.lst (us.map .str ++ [.str z]))) := .set (by simp)
      refine ⟨us ++ [z], _, rfl, by simp; omega, fun u hu => ?_, by rw [List.map_append]; exact List.getElem?_set_self (lt_of_some ho4), hs4.gr g6 (by simpa using fun h : l = op => nol (by simp [h])), g4.trans ((g5.mono (by simp)).trans (g6.mono (by simp)))⟩
      rcases List.mem_append.mp hu with q | q
      · exact hus u q
      · rw [List.mem_singleton.mp q]; omega
    · rintro e s ⟨us, kk, rfl, hl', hus, ho, hss, g4⟩
      rw [rngs_len] at hl'
      exact ⟨us, kk, rfl, by intro z; subst z; simp at hl'; omega, by omega, hus, ho, hss, g4⟩
  rintro e s3 ⟨us, kk, rfl, hune, hul, hus, ho3, hs3, g3⟩
  refine seq_mid (fun e s => e = ([some (scr ns), some (PV.loc l), some (PV.int 5), some (PV.int 32), some (PV.int 40), some (PV.tup (rs.map Row.pv)), some (PV.loc op), kk, some PV.non, none] : PEnv) ∧ s = s3) ?_ ?_
  · rw [ss_set, sat_c]; exact ⟨rfl, rfl⟩
  rintro e s3 ⟨rfl, rfl⟩
  -- the top
  refine seq_mid (fun e s => ∃ (top : PV) (w : Option PV), e = ([some (scr ns), some (PV.loc l), some (PV.int 5), some (PV.int 32), some (PV.int 40), some (PV.tup (rs.map Row.pv)), some (PV.loc op), kk, some top, w] : PEnv) ∧ (top = .non ∨ ∃ r ∈ rs, top = r.pv) ∧ SrcAt s l ∧ Gr [l] s3 s) ?_ ?_
  · rw [ss_for, sat_iVal, sat_var rfl, o_itT]
    refine for_inv0 (fun e s => ∃ (top : PV) (w : Option PV), e = ([some (scr ns), some (PV.loc l), some (PV.int 5), some (PV.int 32), some (PV.int 40), some (PV.tup (rs.map Row.pv)), some (PV.loc op), kk, some top, w] : PEnv) ∧ (top = .non ∨ ∃ r ∈ rs, top = r.pv) ∧ SrcAt s l ∧ Gr [l] s3 s) ⟨.non, _, rfl, .inl rfl, hs3, .refl⟩ ?_ (fun e s h => h)
    rintro v e s hv ⟨top, w, rfl, ht, hss, g4⟩
    obtain ⟨r, mr, rfl⟩ := List.mem_map.mp hv
    refine ⟨_, rfl, ?_⟩
    rcases ht with rfl | ⟨q, mq, rfl⟩
    · rw [ss_if, sat_or, sat_test, sat_bin, sat_var rfl, sat_c, o_isN, sat_truth, if_pos rfl, if_pos rfl, ss_set, sat_var rfl]
      exact ⟨r.pv, _, rfl, .inr ⟨r, mr, rfl⟩, hss, g4⟩
    · rw [ss_if, sat_or, sat_test, sat_bin, sat_var rfl, sat_c, row_is, sat_truth, if_neg (by simp), sat_or, sat_test, sat_bin, sat_args, sat_cons, sat_bin, sat_var rfl, sat_c, row_ix2, sat_nil, sat_one, o_lenT, sat_c, o_eqI, sat_truth]
      by_cases h1 : (((ints' q.ws).length : Nat) : Int) = 1
      · rw [decide_eq_true h1, if_pos rfl, if_pos rfl, ss_set, sat_var rfl]
        exact ⟨r.pv, _, rfl, .inr ⟨r, mr, rfl⟩, hss, g4⟩
      · rw [decide_eq_false h1, if_neg (by simp), sat_test, sat_bin, sat_call, sat_cons, sat_var rfl, sat_cons, sat_var rfl, sat_cons, sat_c, sat_nil]
        refine ⟨rfl, draw' hss (by decide) (by decide) fun d s4 _ _ hs4 g5 => ?_⟩
        rw [sat_c, o_eqI, sat_truth]
        by_cases h2 : d = 0
        · rw [decide_eq_true h2, if_pos rfl, ss_set, sat_var rfl]
          exact ⟨r.pv, _, rfl, .inr ⟨r, mr, rfl⟩, hs4, g4.trans g5⟩
        · rw [decide_eq_false h2, if_neg (by simp), ss_nil]
          exact ⟨q.pv, _, rfl, .inr ⟨q, mq, rfl⟩, hs4, g4.trans g5⟩
  rintro e s4 ⟨top, w, rfl, ht, hs4, g4⟩
  have ho4 := g4.at' ho3 nol
  rw [ss_ret, sat_args, sat_cons, sat_var rfl, sat_cons, sat_call, sat_cons, sat_var rfl, sat_cons, sat_var rfl, sat_cons, sat_args, sat_cons, sat_var rfl, sat_nil, sat_one, o_listT, sat_cons, sat_var rfl, sat_cons, sat_args, sat_cons, sat_var rfl, sat_nil, sat_loc]
  refine ⟨sl1, ?_⟩
  rw [sat_cons, sat_var rfl, sat_nil]
  refine ⟨rfl, ?_⟩
  have g5 : Gr [] s4 (s4 ++ [PO.lst [.int 40]]) := .app
  have hs5 := hs4.gr g5 (by simp)
  have ho5 := g5.at' ho4 (by simp)
  have hol := lt_of_some ho4
  have hll := hs4.lt
  refine tree_ok hune (by omega) (fun u hu => by have := hus u hu; omega) (by intro z; exact nol (by simp [z])) (by omega) (by omega) 60 rs top _ _ (by omega) (by omega) hG.ok ht hs5 ⟨40, by simp⟩ ho5 fun x s h1 _ h2 h3 h4 => ?_
  rw [sat_nil, sat_tup]
  refine ⟨sl2, ?_⟩
  refine k rs x s hG hrl h1 h2 ?_
  have a : Gr [l] s1 s := (((g2.mono (L' := [l, op, s4.length]) (by simp)).trans ((g3.mono (by simp)).trans (g4.mono (by simp)))).trans ((g5.mono (by simp)).trans (h4.mono (by simp)))).cut (by
    intro j hj hlt
    have := g3.len; have := g4.len; have := g2.len
    simp only [List.mem_cons, List.not_mem_nil, or_false] at hj ⊢
    omega)
  exact g1.trans a
end PL
/-! PL, tools: what dicts, instances, walks are worth in the calculus. -/
namespace PL
open PySem PySem.Spec PyProof.Rows L2
theorem ixd_seq {st : Store} {u w : PV} {q : Bool × List PV} (h : seqOf st u = some q) : pIxD u w st = pIx u w st := by
  have : dicOf st u = none := by
    unfold dicOf
    cases u with
    | loc l =>
      unfold seqOf at h
      simp only at h ⊢
      split at h
      · rename_i e; simp only [e]
      · cases h
    | _ => rfl
  unfold pIxD
  rw [this]
theorem o_ixDT {xs : List PV} {w : PV} {st : Store} {Q : PV → Store → Prop} : Sat (pIxD (.tup xs) w st) Q = Sat (pIx (.tup xs) w st) Q := rfl
theorem o_ixDL {xs : List PV} {w : PV} {st : Store} {Q : PV → Store → Prop} : Sat (pIxD (.lst xs) w st) Q = Sat (pIx (.lst xs) w st) Q := rfl
theorem o_getD {v : PV} {kvs : List (Key × PV)} {k : Key} {x : PV} {st : Store} {Q : PV → Store → Prop} (h : dicOf st v = some kvs) (hg : dget kvs k = some x) : Sat (pIxD v (keyPV k) st) Q = Q x st := by
  have hk : keyOf (keyPV k) = some k := by cases k <;> rfl
  have : pIxD v (keyPV k) st = .ok x st := by unfold pIxD; simp only [h, hk, hg]
  rw [this, sat_ok]
theorem dic_at {st : Store} {l : Nat} {kvs : List (Key × PV)} (h : st[l]? = some (.dic kvs)) : dicOf st (.loc l) = some kvs := by unfold dicOf; simp only [h]
theorem o_setD {l : Nat} {kvs : List (Key × PV)} {i v : PV} {k : Key} {st : Store} {Q : Unit → Store → Prop} (h : st[l]? = some (.dic kvs)) (hk : keyOf i = some k) (hl : kvs.length < 1000000) : Sat (pSetD (.loc l) i v st) Q = Q () (st.set l (.dic (dput kvs k v))) := by
  have : pSetD (.loc l) i v st = .ok () (st.set l (.dic (dput kvs k v))) := by
    unfold pSetD
    simp only [h, hk]
    rw [if_pos (by rw [sizeLine_eq]; omega)]
  rw [this, sat_ok]
theorem o_setDL {l : Nat} {xs : List PV} {i : Int} {v : PV} {st : Store} {Q : Unit → Store → Prop} (h : st[l]? = some (.lst xs)) : Sat (pSetD (.loc l) (.int i) v st) Q = match ixN xs.length i with
    | some j => Q () (st.set l (.lst (xs.set j v)))
    | none => False := by
  have : pSetD (.loc l) (.int i) v st = pSet (.loc l) (.int i) v st := by unfold pSetD; simp only [h]
  rw [this, o_set h] <;> (cases ixN xs.length i <;> rfl)
theorem o_inK {v w : PV} {kvs : List (Key × PV)} {k : Key} {st : Store} {Q : PV → Store → Prop} (h : dicOf st w = some kvs) (hk : keyOf v = some k) : Sat (pInK v w st) Q = Q (.bl (dget kvs k).isSome) st := by
  have : pInK v w st = .ok (.bl (dget kvs k).isSome) st := by unfold pInK; simp only [h, hk]
  rw [this, sat_ok]
theorem o_notInK {v w : PV} {kvs : List (Key × PV)} {k : Key} {st : Store} {Q : PV → Store → Prop} (h : dicOf st w = some kvs) (hk : keyOf v = some k) : Sat (pNotInK v w st) Q = Q (.bl (!(dget kvs k).isSome)) st := by
  have : pNotInK v w st = .ok (.bl (!(dget kvs k).isSome)) st := by unfold pNotInK; simp only [h, hk]
  rw [this, sat_ok]
theorem inK_seq {v w : PV} {q : Bool × List PV} {st : Store} (h : seqOf st w = some q) : pInK v w st = pIn v w st ∧ pNotInK v w st = pNotIn v w st := by
  have : dicOf st w = none := by
    unfold dicOf
    cases w with
    | loc l =>
      unfold seqOf at h
      simp only at h ⊢
      split at h
      · rename_i e; simp only [e]
      · cases h
    | _ => rfl
  unfold pInK pNotInK
  rw [this]
  exact ⟨rfl, rfl⟩
theorem dput_new {kvs : List (Key × PV)} {k : Key} {x : PV} (h : ∀ p ∈ kvs, p.1 ≠ k) : dput kvs k x = kvs ++ [(k, x)] := by
  induction kvs with
  | nil => rfl
  | cons p r ih =>
    obtain ⟨j, y⟩ := p
    unfold dput
    rw [if_neg (h (j, y) List.mem_cons_self), ih fun p m => h p (List.mem_cons_of_mem _ m)]
    rfl
theorem dget_at : ∀ {kvs : List (Key × PV)} {i : Nat} {p : Key × PV}, (kvs.map (·.1)).Nodup → kvs[i]? = some p → dget kvs p.1 = some p.2
  | [], i, p, _, h => by simp at h
  | (j, y) :: r, 0, p, _, h => by
    simp only [List.getElem?_cons_zero, Option.some.injEq] at h
    subst h
    show (if j = j then some y else _) = _
    rw [if_pos rfl]
  | (j, y) :: r, i + 1, p, nd, h => by
    simp only [List.getElem?_cons_succ] at h
    rw [List.map_cons, List.nodup_cons] at nd
    have : j ≠ p.1 := fun e => nd.1 (by show j ∈ _; rw [e]; exact List.mem_map.mpr ⟨p, List.mem_of_getElem? h, rfl⟩)
    show (if j = p.1 then some y else dget r p.1) = _
    rw [if_neg this]
    exact dget_at nd.2 h
theorem dget_mem {kvs : List (Key × PV)} {p : Key × PV} (nd : (kvs.map (·.1)).Nodup) (m : p ∈ kvs) : dget kvs p.1 = some p.2 := by
  obtain ⟨i, hi, e⟩ := List.getElem_of_mem m
  exact dget_at nd (by rw [List.getElem?_eq_getElem hi, e])
theorem dget_none {kvs : List (Key × PV)} {k : Key} (h : ∀ p ∈ kvs, p.1 ≠ k) : dget kvs k = none := by
  induction kvs with
  | nil => rfl
  | cons p r ih =>
    obtain ⟨j, y⟩ := p
    unfold dget
    rw [if_neg (h (j, y) List.mem_cons_self), ih fun p m => h p (List.mem_cons_of_mem _ m)]
theorem dmerge_nd : ∀ (more kvs : List (Key × PV)), ((kvs ++ more).map (·.1)).Nodup → dmerge kvs more = kvs ++ more
  | [], kvs, _ => by unfold dmerge; simp
  | (k, x) :: more, kvs, nd => by
    have h1 : dput kvs k x = kvs ++ [(k, x)] := dput_new fun p m e => by
      rw [List.map_append, List.nodup_append] at nd
      exact nd.2.2 p.1 (List.mem_map.mpr ⟨p, m, rfl⟩) k (by simp) e
    show dmerge (dput kvs k x) more = _
    rw [h1, dmerge_nd more (kvs ++ [(k, x)]) (by rw [List.append_assoc]; exact nd), List.append_assoc]
    rfl
/-! ### instances -/
section
variable {env : PEnv} {st : Store} {C l : Nat} {f : Str} {fs : List (Str × PV)} {v : PV} {Q : PV → Store → Prop}
theorem sat_fldv {fo : EM} : Sat (eFld C f fo env st) Q = Sat (fo env st) fun v s => match insOf C s v with
    | some (_, fs) => match fs.lookup f with
      | some y => Q y s
      | none => False
    | none => False := by
  unfold eFld
  rw [sat_bind]
  congr 1
  funext v s
  cases insOf C s v with
  | none => exact sat_stuck
  | some q =>
    obtain ⟨l, fs⟩ := q
    show Sat (match fs.lookup f with | some y => Res.ok y s | none => .stuck) Q = match fs.lookup f with | some y => Q y s | none => False
    cases fs.lookup f with
    | none => exact sat_stuck
    | some y => exact sat_ok
/-- the field of an instance at a place that is known -/
theorem sat_fld {fo : EM} {y : PV} (h : fo env st = .ok (.loc l) st) (hi : st[l]? = some (.ins C fs)) (hf : fs.lookup f = some y) : Sat (eFld C f fo env st) Q = Q y st := by
  rw [sat_fldv, h, sat_ok, insOf_at hi]
  simp only [hf]
theorem sat_fldi {i : Nat} {y : PV} (h : env[i]? = some (some (.loc l))) (hi : st[l]? = some (.ins C fs)) (hf : fs.lookup f = some y) : Sat (eFld C f (eVar i) env st) Q = Q y st :=
  sat_fld (by unfold eVar; simp only [h]) hi hf
theorem eq_fldi {i : Nat} {y : PV} (h : env[i]? = some (some (.loc l))) (hi : st[l]? = some (.ins C fs)) (hf : fs.lookup f = some y) : eFld C f (eVar i) env st = .ok y st := by
  unfold eFld eVar
  simp only [h, Res.bind, insOf_at hi, hf]
theorem eq_fld {fo : EM} {y : PV} (h : fo env st = .ok (.loc l) st) (hi : st[l]? = some (.ins C fs)) (hf : fs.lookup f = some y) : eFld C f fo env st = .ok y st := by
  unfold eFld
  rw [h]
  simp only [Res.bind, insOf_at hi, hf]
theorem ss_fld {fo fv : EM} {N : PEnv → Store → Prop} {R : PV → Store → Prop} : SatS (sFldM C f fo fv env st) N R = Sat (fv env st) fun y s => Sat (fo env s) fun v s => match insOf C s v with
    | some (l, fs) => fs.length < 1000 ∧ N env (s.set l (.ins C (putFP f y fs)))
    | none => False := by
  unfold sFldM
  rw [ss_of]
  congr 1
  funext y s
  rw [ss_of]
  congr 1
  funext v s
  cases insOf C s v with
  | none => exact ss_stuck
  | some q =>
    obtain ⟨l, fs⟩ := q
    show SatS (if fs.length < 1000 then SR.nx env (s.set l (.ins C (putFP f y fs))) else .stuck) N R = (fs.length < 1000 ∧ N env (s.set l (.ins C (putFP f y fs))))
    by_cases h : fs.length < 1000
    · rw [if_pos h, ss_nx, eq_iff_iff]; simp [h]
    · rw [if_neg h, ss_stuck, eq_iff_iff]; simp [h]
theorem sat_methv {m : Str} {n : Nat} {ev : List PV → Store → Res PV} {fo : EM} {as : AM} : Sat (eMethO C m n ev fo as env st) Q = Sat (fo env st) fun v s => match insOf C s v with
    | some (_, fl) => (fl.lookup m).isNone = true ∧ Sat (as env s) fun vs s => (v :: vs).length = n ∧ Sat (ev (v :: vs) s) Q
    | none => False := by
  unfold eMethO
  rw [sat_bind]
  congr 1
  funext v s
  cases insOf C s v with
  | none => exact sat_stuck
  | some q =>
    obtain ⟨l, fl⟩ := q
    show Sat (if (fl.lookup m).isNone = true then (as env s).bind fun vs s2 => guardN n (nE ev) (v :: vs) s2 else .stuck) Q = _
    by_cases h : (fl.lookup m).isNone = true
    · rw [if_pos h, sat_bind, eq_iff_iff]
      constructor
      · intro q
        refine ⟨h, q.mono fun vs s q => ?_⟩
        unfold guardN at q
        by_cases hn : (v :: vs).length = n
        · rw [if_pos hn] at q; exact ⟨hn, by rw [← sat_noErr]; exact q⟩
        · rw [if_neg hn, sat_stuck] at q; exact q.elim
      · rintro ⟨_, q⟩
        refine q.mono fun vs s q => ?_
        unfold guardN
        rw [if_pos q.1]
        show Sat (noErr (ev (v :: vs) s)) Q
        rw [sat_noErr]; exact q.2
    · rw [if_neg h, sat_stuck, eq_iff_iff]
      exact ⟨False.elim, fun q => absurd q.1 h⟩
theorem sat_meth_at {m : Str} {n : Nat} {ev : List PV → Store → Res PV} {fo : EM} {as : AM} (h : fo env st = .ok (.loc l) st) (hi : st[l]? = some (.ins C fs)) (hf : (fs.lookup m).isNone = true) :
    Sat (eMethO C m n ev fo as env st) Q = Sat (as env st) fun vs s => (PV.loc l :: vs).length = n ∧ Sat (ev (.loc l :: vs) s) Q := by
  rw [sat_methv, h, sat_ok, insOf_at hi, eq_iff_iff]
  exact ⟨fun q => q.2, fun q => ⟨hf, q⟩⟩
theorem guard_sat {n : Nat} {ev : List PV → Store → Res PV} {vs : List PV} {s : Store} (hn : vs.length = n) : Sat (guardN n (nE ev) vs s) Q = Sat (ev vs s) Q := by
  unfold guardN
  rw [if_pos hn]
  exact sat_noErr
theorem sat_prop_at {ev : List PV → Store → Res PV} {fo : EM} (h : fo env st = .ok (.loc l) st) (hi : st[l]? = some (.ins C fs)) : Sat (ePropO C ev fo env st) Q = Sat (ev [.loc l] st) Q := by
  unfold ePropO
  rw [sat_bind, h, sat_ok, insOf_at hi]
  exact guard_sat rfl
theorem sat_callO {n : Nat} {ev : List PV → Store → Res PV} {fo : EM} {as : AM} (h : fo env st = .ok (.loc l) st) : Sat (eCallO C n ev fo as env st) Q = Sat (as env st) fun vs s => match insOf C s (.loc l) with
    | some _ => Sat (guardN n (nE ev) (.loc l :: vs) s) Q
    | none => False := by
  unfold eCallO
  rw [sat_bind, h, sat_ok]
  show Sat ((as env st).bind _) Q = _
  rw [sat_bind]
  congr 1
  funext vs s
  cases insOf C s (.loc l) with
  | none => exact sat_stuck
  | some q => rfl
theorem sat_make {n : Nat} {ev : List PV → Store → Res PV} {as : AM} : Sat (eMake C n ev as env st) Q = Sat (as env st) fun vs s => (PV.loc s.length :: vs).length = n ∧ Sat (ev (.loc s.length :: vs) (s ++ [.ins C []])) fun v s2 => v = .non ∧ Q (.loc s.length) s2 := by
  unfold eMake
  rw [sat_bind]
  congr 1
  funext vs s
  rw [sat_bind, eq_iff_iff]
  constructor
  · intro q
    unfold guardN at q
    by_cases hn : (PV.loc s.length :: vs).length = n
    · rw [if_pos hn] at q
      refine ⟨hn, ?_⟩
      have q : Sat (noErr (ev (.loc s.length :: vs) (s ++ [.ins C []]))) _ := q
      rw [sat_noErr] at q
      refine q.mono fun v s2 q => ?_
      cases v with
      | non => rw [sat_ok] at q; exact ⟨rfl, q⟩
      | _ => exact (sat_stuck.mp q).elim
    · rw [if_neg hn, sat_stuck] at q; exact q.elim
  · rintro ⟨hn, q⟩
    unfold guardN
    rw [if_pos hn]
    show Sat (noErr (ev (.loc s.length :: vs) (s ++ [.ins C []]))) _
    rw [sat_noErr]
    refine q.mono fun v s2 q => ?_
    obtain ⟨rfl, q⟩ := q
    exact sat_ok.mpr q
end
/-! ### while -/
theorem ss_while {c : TM} {b : SM} {m : Nat} {env : PEnv} {st : Store} {N : PEnv → Store → Prop} {R : PV → Store → Prop} (h : Sat (c env st) fun t s => if t = true then SatS (b env s) (fun e s => SatS (sWhileL c b m e s) N R) R else N env s) : SatS (sWhileL c b (m + 1) env st) N R := by
  show SatS (sOf (c env st) env _) N R
  rw [ss_of]
  refine h.mono fun t s q => ?_
  by_cases h : t = true
  · rw [if_pos h] at q ⊢
    rcases q with ⟨e, s', r, q⟩ | ⟨v, s', r, q⟩
    · rw [r]; exact q
    · rw [r]; exact ss_rt.mpr q
  · rw [if_neg h] at q ⊢
    exact ss_nx.mpr q
end PL
/-! PL, part MD: plans, the choice. -/
namespace PL
open PySem PySem.Spec PyProof.Rows L2
def own (o : Int) (rs : List Row) : List Row := rs.filter fun r => decide (r.o = o)
theorem own_app (o : Int) (a b : List Row) : own o (a ++ b) = own o a ++ own o b := List.filter_append ..
theorem own_one (o : Int) (r : Row) : own o [r] = if r.o = o then [r] else [] := by
  unfold own
  by_cases h : r.o = o <;> simp [h]
structure PlanOk (o : Int) (rs : List Row) (p : List Int) : Prop where
  len : p.length = (own o rs).length
  ok : ∀ (q : Nat) (r : Row) (m : Int), (own o rs)[q]? = some r → p[q]? = some m → 0 ≤ m ∧ m < r.ws.length
theorem PlanOk.nil {o : Int} : PlanOk o [] [] := ⟨rfl, fun q r m h => by simp [own] at h⟩
theorem PlanOk.skip {o : Int} {rs : List Row} {p : List Int} {r : Row} (h : PlanOk o rs p) (n : r.o ≠ o) : PlanOk o (rs ++ [r]) p := by
  have e : own o (rs ++ [r]) = own o rs := by rw [own_app, own_one, if_neg n, List.append_nil]
  exact ⟨by rw [e]; exact h.len, by rw [e]; exact h.ok⟩
theorem PlanOk.add {o : Int} {rs : List Row} {p : List Int} {r : Row} {m : Int} (h : PlanOk o rs p) (n : r.o = o) (h0 : 0 ≤ m) (h1 : m < r.ws.length) : PlanOk o (rs ++ [r]) (p ++ [m]) := by
  have e : own o (rs ++ [r]) = own o rs ++ [r] := by rw [own_app, own_one, if_pos n]
  refine ⟨by rw [e, List.length_append, List.length_append, h.len]; rfl, fun q x y h2 h3 => ?_⟩
  rw [e] at h2
  rcases Nat.lt_or_ge q (own o rs).length with hq | hq
  · rw [List.getElem?_append_left hq] at h2
    rw [List.getElem?_append_left (by rw [h.len]; exact hq)] at h3
    exact h.ok q x y h2 h3
  · rw [List.getElem?_append_right hq] at h2
    rw [List.getElem?_append_right (by rw [h.len]; exact hq), h.len] at h3
    cases hz : q - (own o rs).length with
    | zero =>
      rw [hz] at h2 h3
      simp only [List.getElem?_cons_zero, Option.some.injEq] at h2 h3
      subst h2; subst h3
      exact ⟨h0, h1⟩
    | succ z => rw [hz] at h2; simp at h2
theorem plan_ok {ns : List Int} {l : Nat} {rs : List Row} {o : Int} {st : Store} {Q : PV → Store → Prop} (hs : SrcAt st l) (hok : ∀ r ∈ rs, r.Ok) (hl : rs.length ≤ 1000)
    (k : ∀ p s, PlanOk o rs p → SrcAt s l → Gr [l] st s → Q (.tup (ints' p)) s) : Sat (m_law_plan [scr ns, .loc l, .tup (rs.map Row.pv), .int o] st) Q := by
  refine sat_body ?_
  unfold f_law_plan
  simp only [List.map_cons, List.map_nil, List.length_cons, List.length_nil, Nat.reduceAdd, Nat.reduceSub, List.reduceReplicate, List.cons_append, List.nil_append]
  rw [ss_ret, sat_args, sat_cons, sat_comp, sat_iVal, sat_var rfl, o_itT]
  refine comp_inv (k := 0) (fun i acc s => ∃ p, acc = ints' p ∧ PlanOk o (rs.take i) p ∧ SrcAt s l ∧ Gr [l] st s) ⟨[], rfl, .nil, hs, .refl⟩ ?_ ?_
  · rintro i v s acc hv ⟨p, rfl, hp, hs1, g1⟩
    rw [Nat.zero_add] at hp ⊢
    have hi : i < rs.length := by
      have := (List.getElem?_eq_some_iff.mp hv).1
      rwa [List.length_map] at this
    have e : v = (rs[i]).pv := by
      rw [List.getElem?_map, List.getElem?_eq_getElem hi] at hv
      exact (Option.some.inj hv).symm
    subst e
    have ht : rs.take (i + 1) = rs.take i ++ [rs[i]] := by rw [List.take_add_one, List.getElem?_eq_getElem hi]; rfl
    have hlp : p.length ≤ rs.length := by
      rw [hp.len]
      exact Nat.le_trans (List.length_filter_le ..) (by rw [List.length_take]; omega)
    refine ⟨_, rfl, ?_⟩
    rw [sat_test, sat_bin, sat_bin, sat_var (v := (rs[i]).pv) (by simp [wipeP]), sat_c, row_ix1, sat_var (v := .int o) (by simp [wipeP]), o_eqI, sat_truth]
    by_cases h : (rs[i]).o = o
    · rw [decide_eq_true h, if_pos rfl, sat_call, sat_cons, sat_var (v := scr ns) (by simp [wipeP]), sat_cons, sat_var (v := .loc l) (by simp [wipeP]), sat_cons, sat_args, sat_cons, sat_bin, sat_var (v := (rs[i]).pv) (by simp [wipeP]), sat_c, row_ix2, sat_nil, sat_one, o_lenT, sat_nil]
      have hr := hok _ (List.getElem_mem hi)
      have hw1 := hr.w1
      have hw2 := hr.w2
      have hwl : ((ints' (rs[i]).ws).length : Int) = ((rs[i]).ws.length : Int) := by rw [List.length_map]
      rw [hwl]
      refine ⟨rfl, draw' hs1 (by omega) (log2_k (n := 64) (by omega) (by omega)) fun r t h0 h1 ht2 g2 => ?_⟩
      refine ⟨by rw [sizeLine_eq, List.length_map]; omega, p ++ [r], (show ints' (p ++ [r]) = ints' p ++ [.int r] from List.map_append ..).symm, ?_, ht2, g1.trans g2⟩
      rw [ht]
      exact hp.add h h0 h1
    · rw [decide_eq_false h, if_neg (by simp)]
      refine ⟨p, rfl, ?_, hs1, g1⟩
      rw [ht]
      exact hp.skip h
  · rintro acc s ⟨p, rfl, hp, hs1, g1⟩
    rw [Nat.zero_add, List.length_map, List.take_length] at hp
    rw [o_finF, sat_nil, sat_one, o_tupL]
    exact k p s hp hs1 g1
/-! ### the choice -/
/-- rows with their moves -/
abbrev RM := List (Row × Int)
def rmKv (x : Row × Int) : Key × PV := (.inr x.1.n, .int x.2)
def ownM (o : Int) (L : RM) : RM := L.filter fun x => decide (x.1.o = o)
structure ChOk (rs : List Row) (pl : Int → List Int) (L : RM) : Prop where
  rows : L.map (·.1) = rs
  mv : ∀ o, ((ownM o L).map (·.2)) = (pl o).take (ownM o L).length
theorem ownM_rows (o : Int) (L : RM) : (ownM o L).map (·.1) = own o (L.map (·.1)) := by
  unfold ownM own
  rw [List.filter_map]
  rfl
theorem ownM_len {o : Int} {L : RM} {rs : List Row} (h : L.map (·.1) = rs) : (ownM o L).length = (own o rs).length := by
  rw [← h, ← ownM_rows, List.length_map]
theorem ownM_add (o : Int) (L : RM) (x : Row × Int) : ownM o (L ++ [x]) = ownM o L ++ if x.1.o = o then [x] else [] := by
  unfold ownM
  rw [List.filter_append]
  by_cases h : x.1.o = o <;> simp [h]
theorem ch_step {rs : List Row} {r : Row} {pl : Int → List Int} {L : RM} {m : Int} (h : ChOk rs pl L) (hm : (pl r.o)[(ownM r.o L).length]? = some m) : ChOk (rs ++ [r]) pl (L ++ [(r, m)]) := by
  refine ⟨by rw [List.map_append, h.rows]; rfl, fun o => ?_⟩
  rw [ownM_add]
  by_cases e : r.o = o
  · rw [if_pos e]
    subst e
    rw [List.map_append, h.mv, List.length_append, List.length_singleton, List.take_add_one, hm]
    rfl
  · rw [if_neg e, List.append_nil]
    exact h.mv o
theorem kv_keys (L : RM) : (L.map rmKv).map (·.1) = L.map fun x => Sum.inr x.1.n := by rw [List.map_map]; rfl
theorem kv_nd {L : RM} (nd : ((L.map (·.1)).map (·.n)).Nodup) : ((L.map rmKv).map (·.1)).Nodup := by
  rw [kv_keys]
  have e : (L.map fun x => (Sum.inr x.1.n : Key)) = ((L.map (·.1)).map (·.n)).map Sum.inr := by rw [List.map_map, List.map_map]; rfl
  rw [e]
  exact List.Pairwise.map _ (fun a b h e => h (by injection e)) nd
theorem ix3 {a b c : PV} {o : Int} {st : Store} {Q : PV → Store → Prop} (h : 0 ≤ o ∧ o ≤ 2) (k : ∀ y, (o = 0 → y = a) → (o = 1 → y = b) → (o = 2 → y = c) → Q y st) : Sat (pIx (.tup [a, b, c]) (.int o) st) Q := by
  rw [o_ixT]
  rcases (show o = 0 ∨ o = 1 ∨ o = 2 by omega) with rfl | rfl | rfl
  · rw [ixW_0]; exact k a (fun _ => rfl) (fun e => by cases e) (fun e => by cases e)
  · rw [ixW_1]; exact k b (fun e => by cases e) (fun _ => rfl) (fun e => by cases e)
  · rw [ixW_2]; exact k c (fun e => by cases e) (fun e => by cases e) (fun _ => rfl)
theorem ixN3 {o : Int} (h : 0 ≤ o ∧ o ≤ 2) : ixN 3 o = some o.toNat := by
  rcases (show o = 0 ∨ o = 1 ∨ o = 2 by omega) with rfl | rfl | rfl <;> rfl
theorem choice_ok {rs : List Row} {pl : Int → List Int} {st : Store} {Q : PV → Store → Prop} (hG : Gen rs) (hl : rs.length ≤ 1000) (hp : ∀ o, 0 ≤ o → o ≤ 2 → PlanOk o rs (pl o))
    (k : ∀ L s, ChOk rs pl L → s[st.length]? = some (.dic (L.map rmKv)) → Gr [] st s → Q (.loc st.length) s) :
    Sat (m_law_choice [.tup (rs.map Row.pv), .tup [.tup (ints' (pl 0)), .tup (ints' (pl 1)), .tup (ints' (pl 2))]] st) Q := by
  refine sat_body ?_
  unfold f_law_choice
  simp only [List.map_cons, List.map_nil, List.length_cons, List.length_nil, Nat.reduceAdd, Nat.reduceSub, List.reduceReplicate, List.cons_append, List.nil_append]
  rw [ss_seq, ss_set]
  show Sat (Res.ok (PV.loc st.length) (st ++ [.dic []])) _
  rw [sat_ok, ss_seq, ss_set, sat_args, sat_cons, sat_c, sat_cons, sat_c, sat_cons, sat_c, sat_nil, sat_loc]
  refine ⟨sl3, ?_⟩
  have hc0 : (st ++ [PO.dic []] ++ [PO.lst [.int 0, .int 0, .int 0]])[st.length]? = some (.dic (([] : RM).map rmKv)) := by simp
  have hp0 : (st ++ [PO.dic []] ++ [PO.lst [.int 0, .int 0, .int 0]])[st.length + 1]? = some (.lst [.int 0, .int 0, .int 0]) := by simp
  have g0 : Gr [] st (st ++ [PO.dic []] ++ [PO.lst [.int 0, .int 0, .int 0]]) := by rw [List.append_assoc]; exact .app
  have hlen : (st ++ [PO.dic []]).length = st.length + 1 := by simp
  rw [hlen]
  generalize st ++ [PO.dic []] ++ [PO.lst [.int 0, .int 0, .int 0]] = s0 at *
  rw [ss_seq, ss_for, sat_iVal, sat_var rfl, o_itT]
  refine for_invN (k := 0) (fun i e s => ∃ (L : RM) (kk : Option PV), e = ([some (.tup (rs.map Row.pv)), some (.tup [.tup (ints' (pl 0)), .tup (ints' (pl 1)), .tup (ints' (pl 2))]), some (.loc st.length), some (.loc (st.length + 1)), kk] : PEnv) ∧ ChOk (rs.take i) pl L ∧ s[st.length]? = some (.dic (L.map rmKv)) ∧
      s[st.length + 1]? = some (.lst [.int (ownM 0 L).length, .int (ownM 1 L).length, .int (ownM 2 L).length]) ∧ Gr [st.length, st.length + 1] s0 s)
    ⟨[], none, rfl, ⟨rfl, fun o => rfl⟩, hc0, hp0, .refl⟩ ?_ ?_
  · rintro i v e s hv ⟨L, kk, rfl, hC, hd, hq, g1⟩
    rw [Nat.zero_add] at hC ⊢
    have hi : i < rs.length := by
      have := (List.getElem?_eq_some_iff.mp hv).1
      rwa [List.length_map] at this
    have e : v = (rs[i]).pv := by
      rw [List.getElem?_map, List.getElem?_eq_getElem hi] at hv
      exact (Option.some.inj hv).symm
    subst e
    have mr := List.getElem_mem hi
    generalize hr : rs[i] = r at *
    have ht : rs.take (i + 1) = rs.take i ++ [r] := by rw [List.take_add_one, List.getElem?_eq_getElem hi, hr]; rfl
    have ho := hG.ow r mr
    have hP := hp r.o ho.1 ho.2
    have hcnt : (ownM r.o L).length = (own r.o (rs.take i)).length := ownM_len hC.rows
    have hsp : own r.o rs = own r.o (rs.take i) ++ (r :: own r.o (rs.drop (i + 1))) := by
      have e1 : rs = rs.take i ++ ([r] ++ rs.drop (i + 1)) := by
        have e2 : rs.drop i = rs[i] :: rs.drop (i + 1) := List.drop_eq_getElem_cons hi
        rw [hr] at e2
        rw [List.singleton_append, ← e2, List.take_append_drop]
      have e3 : own r.o rs = own r.o (rs.take i ++ ([r] ++ rs.drop (i + 1))) := congrArg _ e1
      rw [e3, own_app, own_app, own_one, if_pos rfl]
      rfl
    have hlt : (ownM r.o L).length < (pl r.o).length := by rw [hP.len, hcnt, hsp]; simp
    obtain ⟨m, hm⟩ : ∃ m, (pl r.o)[(ownM r.o L).length]? = some m := ⟨_, List.getElem?_eq_getElem hlt⟩
    have hLn : L.length = i := by
      have := congrArg List.length hC.rows
      rw [List.length_map, List.length_take] at this
      omega
    have hix0 : ∀ (env : PEnv) (s : Store) (Q : PV → Store → Prop), env[4]? = some (some r.pv) → Sat (eBin pIxD (eVar 4) (eC (.int 0)) env s) Q = Q (.str r.n) s := fun env s Q h => by
      rw [sat_bin, sat_var h, sat_c]; exact row_ix0
    have hix1 : ∀ (env : PEnv) (s : Store) (Q : PV → Store → Prop), env[4]? = some (some r.pv) → Sat (eBin pIxD (eVar 4) (eC (.int 1)) env s) Q = Q (.int r.o) s := fun env s Q h => by
      rw [sat_bin, sat_var h, sat_c]; exact row_ix1
    have hplace : ∀ (s : Store) (Q : PV → Store → Prop), s[st.length + 1]? = some (.lst [.int (ownM 0 L).length, .int (ownM 1 L).length, .int (ownM 2 L).length]) → Sat (pIxD (.loc (st.length + 1)) (.int r.o) s) Q = Q (.int ((ownM r.o L).length : Nat)) s := fun s Q h => by
      rw [ixd_seq (q := (false, _)) (by unfold seqOf; simp only [h]; rfl), o_ixP h]
      rcases (show r.o = 0 ∨ r.o = 1 ∨ r.o = 2 by omega) with e | e | e <;> rw [e]
      · rw [ixW_0]
      · rw [ixW_1]
      · rw [ixW_2]
    refine ⟨_, rfl, ?_⟩
    rw [ss_seq, ss_sub, sat_bin, sat_bin, sat_var rfl, hix1 _ _ _ rfl]
    rw [o_ixDT]
    refine ix3 ho fun y h0 h1 h2 => ?_
    have hy : y = .tup (ints' (pl r.o)) := by
      rcases (show r.o = 0 ∨ r.o = 1 ∨ r.o = 2 by omega) with e | e | e <;> rw [e]
      · exact h0 e
      · exact h1 e
      · exact h2 e
    subst hy
    rw [sat_bin, sat_var rfl, hix1 _ _ _ rfl, hplace s _ hq]
    rw [o_ixDT, o_ixT]
    refine ixW_of (y := .int m) (by rw [List.getElem?_map, hm]; rfl) ?_
    rw [sat_var rfl, hix0 _ _ _ rfl, o_setD hd (k := .inr r.n) rfl (by rw [List.length_map]; omega)]
    have hput : dput (L.map rmKv) (.inr r.n) (.int m) = (L ++ [(r, m)]).map rmKv := by
      rw [dput_new, List.map_append]
      · rfl
      · intro p mp e
        obtain ⟨x, mx, rfl⟩ := List.mem_map.mp mp
        have e : (Sum.inr x.1.n : Key) = .inr r.n := e
        injection e with e
        have mx1 : x.1 ∈ rs.take i := by rw [← hC.rows]; exact List.mem_map.mpr ⟨x, mx, rfl⟩
        have nd : ((rs.take (i + 1)).map (·.n)).Nodup := by
          have := hG.nd
          rw [← List.take_append_drop (i + 1) rs, List.map_append, List.nodup_append] at this
          exact this.1
        rw [ht, List.map_append, List.nodup_append] at nd
        exact nd.2.2 x.1.n (List.mem_map.mpr ⟨_, mx1, rfl⟩) r.n (by simp) e
    rw [hput]
    have g2 : Gr [st.length] s (s.set st.length (.dic ((L ++ [(r, m)]).map rmKv))) := .set (by simp)
    have hd2 : (s.set st.length (.dic ((L ++ [(r, m)]).map rmKv)))[st.length]? = some (.dic ((L ++ [(r, m)]).map rmKv)) := List.getElem?_set_self (lt_of_some hd)
    have hq2 := g2.at' hq (by simp)
    generalize s.set st.length (.dic ((L ++ [(r, m)]).map rmKv)) = s2 at *
    rw [ss_sub, sat_bin, sat_bin, sat_var rfl, hix1 _ _ _ rfl, hplace s2 _ hq2, sat_c, o_addI, sat_var rfl, hix1 _ _ _ rfl, o_setDL hq2]
    show match ixN 3 r.o with
      | some j => _
      | none => False
    rw [ixN3 ho]
    have g3 : ∀ o, Gr [st.length + 1] s2 (s2.set (st.length + 1) o) := fun o => .set (by simp)
    refine ⟨L ++ [(r, m)], _, rfl, by rw [ht]; exact ch_step hC hm, (g3 _).at' hd2 (by simp), ?_, g1.trans ((g2.mono (by simp)).trans ((g3 _).mono (by simp)))⟩
    rw [List.getElem?_set_self (lt_of_some hq2)]
    congr 2
    rw [ownM_add, ownM_add, ownM_add]
    rcases (show r.o = 0 ∨ r.o = 1 ∨ r.o = 2 by omega) with e | e | e <;> simp [e]
  · rintro e s ⟨L, kk, rfl, hC, hd, hq, g1⟩
    rw [Nat.zero_add, List.length_map, List.take_length] at hC
    rw [ss_ret, sat_var rfl]
    refine k L s hC hd ?_
    refine ((g0.mono (L' := [st.length, st.length + 1]) (by simp)).trans g1).cut ?_
    intro j hj hlt
    simp only [List.mem_cons, List.not_mem_nil, or_false] at hj
    omega
end PL
/-! PL, part MF: the way of a profile. -/
namespace PL
open PySem PySem.Spec PyProof.Rows L2
abbrev Pr := Str × Int
def prPV (p : Pr) : PV := .tup [.str p.1, .int p.2]
def rowP (nm : Str) (r : Row) : Bool := decide (r.n = nm)
theorem nd_inj {rs : List Row} (h : (rs.map (·.n)).Nodup) {a b : Row} (ha : a ∈ rs) (hb : b ∈ rs) (e : a.n = b.n) : a = b := by
  induction rs with
  | nil => cases ha
  | cons r rs ih =>
    rw [List.map_cons, List.nodup_cons] at h
    rcases List.mem_cons.mp ha with e1 | h1
    · rcases List.mem_cons.mp hb with e2 | h2
      · rw [e1, e2]
      · exact (h.1 (List.mem_map.mpr ⟨b, h2, by rw [← e, e1]⟩)).elim
    · rcases List.mem_cons.mp hb with e2 | h2
      · exact (h.1 (List.mem_map.mpr ⟨a, h1, by rw [e, e2]⟩)).elim
      · exact ih h.2 h1 h2
inductive Way (ch : Str → Int) : T → List Pr → Str → Prop
  | leaf {z : Str} : Way ch (.leaf z) [] z
  | node {n : Str} {cs : List T} {c : T} {w : List Pr} {z : Str} : 0 ≤ ch n → cs[(ch n).toNat]? = some c → Way ch c w z → Way ch (.node n cs) ((n, ch n) :: w) z
theorem way_ex {ch : Str → Int} : ∀ (k : Nat) {free : List Row} {t : T}, free.length ≤ k → (∀ r ∈ free, 0 ≤ ch r.n ∧ ch r.n < r.ws.length) → Grow free t →
    ∃ w z, Way ch t w z ∧ w.length ≤ free.length ∧ (w.map (·.1)).Nodup ∧ ∀ p ∈ w, ∃ r ∈ free, r.n = p.1
  | k, free, _, hl, hf, .leaf (z := z) hz => ⟨[], z, .leaf, Nat.zero_le _, List.nodup_nil, nofun⟩
  | 0, free, _, hl, hf, .node (r := r) hr _ _ => by
    have := List.length_pos_of_mem hr
    omega
  | k + 1, free, _, hl, hf, .node (r := r) (cs := cs) hr hc hk => by
    have h1 := hf r hr
    have hi : (ch r.n).toNat < cs.length := by rw [hc]; omega
    have hlt : (free.filter fun q => !decide (q.n = r.n)).length < free.length := List.length_filter_lt_length_iff_exists.mpr ⟨r, hr, by simp⟩
    obtain ⟨w, z, hw, h2, h3, h4⟩ := way_ex (ch := ch) k (free := free.filter fun q => !decide (q.n = r.n)) (t := cs[(ch r.n).toNat]) (by omega) (fun q mq => hf q (List.mem_filter.mp mq).1) (hk _ (List.getElem_mem hi))
    refine ⟨(r.n, ch r.n) :: w, z, .node h1.1 (List.getElem?_eq_getElem hi) hw, by simp only [List.length_cons]; omega, ?_, fun p m => ?_⟩
    · rw [List.map_cons, List.nodup_cons]
      refine ⟨fun m => ?_, h3⟩
      obtain ⟨p, mp, e⟩ := List.mem_map.mp m
      obtain ⟨q, mq, e2⟩ := h4 p mp
      have := (List.mem_filter.mp mq).2
      rw [e2, e] at this
      simp at this
    · rcases List.mem_cons.mp m with rfl | m
      · exact ⟨r, hr, rfl⟩
      · obtain ⟨q, mq, e⟩ := h4 p m
        exact ⟨q, (List.mem_filter.mp mq).1, e⟩
def down : T → List Pr → T
  | t, [] => t
  | .node _ cs, p :: a => down ((cs[p.2.toNat]?).getD (.leaf "")) a
  | .leaf z, _ :: _ => .leaf z
theorem Way.down {ch : Str → Int} : ∀ {a b : List Pr} {t : T} {z : Str}, Way ch t (a ++ b) z → Way ch (PL.down t a) b z
  | [], b, t, z, h => by cases t <;> exact h
  | p :: a, b, _, z, h => by
    rw [List.cons_append] at h
    cases h with
    | node h1 h2 h3 =>
      show Way ch (PL.down ((_)[_]?.getD _) a) b z
      rw [h2]
      exact h3.down
theorem down_snoc : ∀ {a : List Pr} {p : Pr} {t : T}, PL.down t (a ++ [p]) = PL.down (PL.down t a) [p]
  | [], p, t => by cases t <;> rfl
  | q :: a, p, .node n cs => by
    show PL.down ((cs[q.2.toNat]?).getD (.leaf "")) (a ++ [p]) = PL.down (PL.down ((cs[q.2.toNat]?).getD (.leaf "")) a) [p]
    exact down_snoc
  | q :: a, p, .leaf z => rfl
theorem Way.step {ch : Str → Int} {p : Pr} {b : List Pr} {x : T} {z : Str} (h : Way ch x (p :: b) z) : ∃ cs c, x = .node p.1 cs ∧ p.2 = ch p.1 ∧ 0 ≤ p.2 ∧ cs[p.2.toNat]? = some c ∧ PL.down x [p] = c := by
  cases h with
  | @node n cs c w z h1 h2 h3 =>
    refine ⟨cs, c, rfl, rfl, h1, h2, ?_⟩
    show PL.down ((cs[(ch n).toNat]?).getD (.leaf "")) [] = _
    rw [h2]
    cases c <;> rfl
theorem Way.nil {ch : Str → Int} {x : T} {z : Str} (h : Way ch x [] z) : x = .leaf z := by cases h; rfl
/-- a game, its choice, its way -/
structure Gm where
  rs : List Row
  t : T
  L : RM
  w : List Pr
  z : Str
def findN (L : RM) (n : Str) : Option (Row × Int) := L.find? fun x => decide (x.1.n = n)
def chL (L : RM) (n : Str) : Int := ((findN L n).map (·.2)).getD 0
def Gm.ch (G : Gm) (n : Str) : Int := chL G.L n
def Gm.ow (G : Gm) (n : Str) : Int := ((findN G.L n).map (·.1.o)).getD 0
def Gm.pv (G : Gm) : PV := .tup [.tup (G.rs.map Row.pv), G.t.pv]
structure Gm.Ok (G : Gm) : Prop where
  gen : Gen G.rs
  len : G.rs.length ≤ 5
  rows : G.L.map (·.1) = G.rs
  bd : ∀ x ∈ G.L, 0 ≤ x.2 ∧ x.2 < x.1.ws.length
  way : Way G.ch G.t G.w G.z
  wn : (G.w.map (·.1)).Nodup
  wr : ∀ p ∈ G.w, ∃ x ∈ G.L, x.1.n = p.1
  wl : G.w.length ≤ 5
theorem find_L {L : RM} (nd : ((L.map (·.1)).map (·.n)).Nodup) {x : Row × Int} (m : x ∈ L) : findN L x.1.n = some x := by
  unfold findN
  induction L with
  | nil => cases m
  | cons y L ih =>
    rw [List.map_cons, List.map_cons, List.nodup_cons] at nd
    rw [List.find?_cons]
    rcases List.mem_cons.mp m with rfl | m
    · simp
    · have : y.1.n ≠ x.1.n := fun e => nd.1 (by rw [e]; exact List.mem_map.mpr ⟨x.1, List.mem_map.mpr ⟨x, m, rfl⟩, rfl⟩)
      simp only [decide_eq_false this]
      exact ih nd.2 m
section
variable {G : Gm}
theorem Gm.Ok.nd (h : G.Ok) : ((G.L.map (·.1)).map (·.n)).Nodup := by rw [h.rows]; exact h.gen.nd
theorem Gm.Ok.ch_at (h : G.Ok) {x : Row × Int} (m : x ∈ G.L) : G.ch x.1.n = x.2 := by
  unfold Gm.ch chL
  rw [find_L h.nd m]; rfl
theorem Gm.Ok.ow_at (h : G.Ok) {x : Row × Int} (m : x ∈ G.L) : G.ow x.1.n = x.1.o := by
  unfold Gm.ow
  rw [find_L h.nd m]; rfl
theorem Gm.Ok.wp (h : G.Ok) : ∀ p ∈ G.w, p.2 = G.ch p.1 := by
  have key : ∀ {t : T} {w : List Pr} {z : Str}, Way G.ch t w z → ∀ p ∈ w, p.2 = G.ch p.1 := by
    intro t w z hw
    induction hw with
    | leaf => exact nofun
    | node h1 h2 h3 ih =>
      intro p m
      rcases List.mem_cons.mp m with rfl | m
      · rfl
      · exact ih p m
  exact key h.way
theorem Gm.Ok.mem_rs (h : G.Ok) {x : Row × Int} (m : x ∈ G.L) : x.1 ∈ G.rs := by rw [← h.rows]; exact List.mem_map.mpr ⟨x, m, rfl⟩
theorem Gm.Ok.ow3 (h : G.Ok) {n : Str} (m : ∃ x ∈ G.L, x.1.n = n) : 0 ≤ G.ow n ∧ G.ow n ≤ 2 := by
  obtain ⟨x, mx, rfl⟩ := m
  rw [h.ow_at mx]
  exact h.gen.ow _ (h.mem_rs mx)
theorem Gm.Ok.at' (h : G.Ok) {k : Nat} (hk : k ≤ G.w.length) : Way G.ch (down G.t (G.w.take k)) (G.w.drop k) G.z := Way.down (by rw [List.take_append_drop]; exact h.way)
/-- the node behind k moves -/
theorem Gm.Ok.end_at (h : G.Ok) : down G.t G.w = .leaf G.z := by
  have := h.at' (Nat.le_refl _)
  rw [List.take_length, List.drop_length] at this
  exact this.nil
theorem Gm.Ok.node_at (h : G.Ok) {k : Nat} {p : Pr} (hp : G.w[k]? = some p) : ∃ cs c, down G.t (G.w.take k) = .node p.1 cs ∧ 0 ≤ p.2 ∧ cs[p.2.toNat]? = some c ∧ down G.t (G.w.take (k + 1)) = c := by
  have hk : k < G.w.length := (List.getElem?_eq_some_iff.mp hp).1
  have e := h.at' (Nat.le_of_lt hk)
  have e2 : G.w.drop k = p :: G.w.drop (k + 1) := by
    rw [List.drop_eq_getElem_cons hk]
    rw [List.getElem?_eq_getElem hk] at hp
    rw [Option.some.inj hp]
  rw [e2] at e
  obtain ⟨cs, c, h1, h2, h3, h4, h5⟩ := e.step
  refine ⟨cs, c, h1, h3, h4, ?_⟩
  rw [List.take_add_one, hp]
  show down G.t (G.w.take k ++ [p]) = c
  rw [down_snoc]
  exact h5
theorem t_node {n : Str} {cs : List T} : (T.node n cs).pv = .tup [.str n, .tup (T.pvs cs)] := rfl
theorem t_leaf {z : Str} : (T.leaf z).pv = .str z := rfl
/-- node[1][move] -/
theorem kid_ok {n : Str} {cs : List T} {c : T} {m : Int} {st : Store} {Q : PV → Store → Prop} (h0 : 0 ≤ m) (h : cs[m.toNat]? = some c) (k : Q c.pv st) : Sat (pIx (.tup (T.pvs cs)) (.int m) st) Q := by
  obtain ⟨j, rfl⟩ := Int.eq_ofNat_of_zero_le h0
  rw [o_ixT]
  exact ixW_of (T.pvs_at (by simpa using h)) k
/-- the journal's moves -/
def movesPV (w : List Pr) : PV := .tup (w.map fun p => .int p.2)
theorem node_at_eq (h : G.Ok) {k : Nat} (hk : k ≤ G.w.length) {st : Store} : m_node_at [G.t.pv, movesPV (G.w.take k)] st = .ok (down G.t (G.w.take k)).pv st := by
  refine det fun Q q => sat_body ?_
  unfold f_node_at
  simp only [List.map_cons, List.map_nil, List.length_cons, List.length_nil, Nat.reduceAdd, Nat.reduceSub, List.reduceReplicate, List.cons_append, List.nil_append]
  rw [ss_seq, ss_set, sat_var rfl, ss_seq, ss_for, sat_iVal, sat_var rfl]
  unfold movesPV
  rw [o_itT]
  refine for_invN (k := 0) (fun i e s => s = st ∧ ∃ a, e = [some G.t.pv, some (.tup ((G.w.take k).map fun p => .int p.2)), some (down G.t (G.w.take i)).pv, a]) ⟨rfl, none, by cases G.t <;> rfl⟩ ?_ ?_
  · rintro i v e s hv ⟨rfl, a, rfl⟩
    rw [Nat.zero_add]
    have hi : i < k := by
      have := (List.getElem?_eq_some_iff.mp hv).1
      rw [List.length_map, List.length_take] at this
      omega
    have hi2 : i < G.w.length := by omega
    obtain ⟨p, hp⟩ : ∃ p, G.w[i]? = some p := ⟨_, List.getElem?_eq_getElem hi2⟩
    obtain rfl : v = .int p.2 := by
      rw [List.getElem?_map, List.getElem?_take_of_lt hi, hp] at hv
      exact (Option.some.inj hv).symm
    obtain ⟨cs, c, h1, h2, h3, h4⟩ := h.node_at hp
    have hlt : p.2.toNat < cs.length := (List.getElem?_eq_some_iff.mp h3).1
    rw [h1, h4]
    refine ⟨_, rfl, ?_⟩
    rw [ss_seq, ss_if, sat_or, sat_test, sat_args, sat_cons, sat_var rfl, sat_cons, sat_c, sat_nil, t_node, isi_t, sat_truth, if_neg (by simp), sat_not, sat_test, sat_chain, sat_c, sat_var rfl, o_leI]
    rw [show (!decide (p.2 < 0)) = true by simpa using h2]
    simp only
    rw [sat_args, sat_cons, sat_bin, sat_var rfl, sat_c, o_ixT, ixW_1, sat_nil, sat_one, o_lenT, o_ltI, sat_truth, T.pvs_len, decide_eq_true (show p.2 < (cs.length : Int) by omega), Bool.not_true, if_neg (by simp), ss_nil]
    rw [ss_set, sat_bin, sat_bin, sat_var rfl, sat_c, o_ixT, ixW_1, sat_var rfl]
    exact kid_ok (n := p.1) h2 h3 ⟨rfl, _, rfl⟩
  · rintro e s ⟨rfl, a, rfl⟩
    rw [ss_ret, sat_var rfl, List.length_map, List.length_take, Nat.zero_add, Nat.min_eq_left hk]
    exact q
theorem filter_name : ∀ {rs : List Row} {r : Row}, (rs.map (·.n)).Nodup → r ∈ rs → rs.filter (fun q => decide (q.n = r.n)) = [r]
  | [], r, _, m => by cases m
  | q :: rs, r, nd, m => by
    rw [List.map_cons, List.nodup_cons] at nd
    rcases List.mem_cons.mp m with e | m
    · subst e
      rw [List.filter_cons_of_pos (by simp)]
      have : rs.filter (fun q => decide (q.n = r.n)) = [] := List.filter_eq_nil_iff.mpr fun x mx e => nd.1 (List.mem_map.mpr ⟨x, mx, by simpa using e⟩)
      rw [this]
    · have : q.n ≠ r.n := fun e => nd.1 (by rw [e]; exact List.mem_map.mpr ⟨_, m, rfl⟩)
      rw [List.filter_cons_of_neg (by simpa using this)]
      exact filter_name nd.2 m
theorem owner_eq (h : G.Ok) {n : Str} (m : ∃ x ∈ G.L, x.1.n = n) {st : Store} : m_law_owner [.tup (G.rs.map Row.pv), .str n] st = .ok (.int (G.ow n)) st := by
  obtain ⟨x, mx, rfl⟩ := m
  have mr := h.mem_rs mx
  rw [h.ow_at mx]
  refine det fun Q q => sat_body ?_
  unfold f_law_owner
  simp only [List.map_cons, List.map_nil, List.length_cons, List.length_nil, Nat.reduceAdd, Nat.reduceSub, List.reduceReplicate, List.cons_append, List.nil_append]
  rw [ss_ret, sat_bin, sat_comp, sat_iVal, sat_var rfl, o_itT]
  have hlen := h.len
  refine comp_filt (as := G.rs) (f := Row.pv) (g := fun r => .int r.o) (p := fun r => decide (r.n = x.1.n)) (by simp [wipeP]) (by omega) (fun r _ => det fun Q k => by
    rw [sat_test, sat_bin, sat_bin, sat_var (v := r.pv) (by simp [wipeP]), sat_c, row_ix0, sat_var (v := .str x.1.n) (by simp [wipeP]), o_eqS, sat_truth]; exact k) (fun r _ _ => det fun Q k => by
    rw [sat_bin, sat_var (v := r.pv) (by simp [wipeP]), sat_c, row_ix1]; exact k) ?_ _ trivial
  have ef : G.rs.filter (fun r => decide (r.n = x.1.n)) = [x.1] := filter_name h.gen.nd mr
  rw [ef, o_finF, sat_c]
  show Sat (pIx (.lst [.int x.1.o]) (.int 0) st) Q
  rw [o_ixL, ixW_0]
  exact q
/-- letters -/
inductive Lt where
  | ask (o : Int) (n : Str)
  | ans (o : Int) (n : Str) (m : Int)
def Lt.pv : Lt → PV
  | .ask o n => .tup [.str "ask", .int o, .str n]
  | .ans o n m => .tup [.str "answer", .int o, .str n, .int m]
def Gm.asks (G : Gm) (k : Nat) : List Lt := match G.w[k]? with
  | some p => [.ask (G.ow p.1) p.1]
  | none => []
theorem law_ask_ok (h : G.Ok) {k : Nat} (hk : k ≤ G.w.length) {jl : Nat} {st : Store} {Q : PV → Store → Prop} (hj : st[jl]? = some (.lst ((G.w.take k).map prPV))) (q : Q (.loc st.length) (st ++ [.lst ((G.asks k).map Lt.pv)])) :
    Sat (m_law_ask [G.pv, .loc jl] st) Q := by
  refine sat_body ?_
  unfold f_law_ask Gm.pv
  simp only [List.map_cons, List.map_nil, List.length_cons, List.length_nil, Nat.reduceAdd, Nat.reduceSub, List.reduceReplicate, List.cons_append, List.nil_append]
  rw [ss_seq, ss_set, sat_bin, sat_var rfl, sat_c, o_ixT, ixW_1, ss_seq, ss_for, sat_iVal, sat_var rfl, o_itP hj]
  refine for_invN (k := 0) (fun i e s => s = st ∧ ∃ a b, e = [some (.tup [.tup (G.rs.map Row.pv), G.t.pv]), some (.loc jl), some (down G.t (G.w.take i)).pv, a, b]) ⟨rfl, none, none, by cases G.t <;> rfl⟩ ?_ ?_ ?_
  · rintro i v e s hv ⟨rfl, a, b, rfl⟩
    rw [Nat.zero_add]
    have hi : i < k := by
      have := (List.getElem?_eq_some_iff.mp hv).1
      rw [List.length_map, List.length_take] at this
      omega
    have hi2 : i < G.w.length := by omega
    obtain ⟨p, hp⟩ : ∃ p, G.w[i]? = some p := ⟨_, List.getElem?_eq_getElem hi2⟩
    obtain rfl : v = prPV p := by
      rw [List.getElem?_map, List.getElem?_take_of_lt hi, hp] at hv
      exact (Option.some.inj hv).symm
    obtain ⟨cs, c, h1, h2, h3, h4⟩ := h.node_at hp
    rw [h1, h4]
    refine ⟨_, rfl, ?_⟩
    rw [ss_set, sat_bin, sat_bin, sat_var rfl, sat_c, t_node, o_ixT, ixW_1, sat_var rfl]
    exact kid_ok (n := p.1) h2 h3 ⟨rfl, _, _, rfl⟩
  · rintro e s ⟨rfl, a, b, rfl⟩
    rw [List.length_map, List.length_take, Nat.zero_add, Nat.min_eq_left hk]
    cases hp : G.w[k]? with
    | none =>
      have hkk : k = G.w.length := by have := List.getElem?_eq_none_iff.mp hp; omega
      rw [hkk, List.take_length, h.end_at, t_leaf, ss_seq, ss_if, sat_test, sat_args, sat_cons, sat_var rfl, sat_cons, sat_c, sat_nil, isi_s, sat_truth, if_pos rfl, ss_ret, sat_args, sat_nil, sat_loc]
      refine ⟨sl0, ?_⟩
      unfold Gm.asks at q
      rw [hp] at q
      exact q
    | some p =>
      obtain ⟨cs, c, h1, h2, h3, h4⟩ := h.node_at hp
      rw [h1, t_node, ss_seq, ss_if, sat_test, sat_args, sat_cons, sat_var rfl, sat_cons, sat_c, sat_nil, isi_t, sat_truth, if_neg (by simp), ss_nil, ss_ret, sat_args, sat_cons, sat_args, sat_cons, sat_c, sat_cons, sat_call, sat_cons, sat_bin, sat_var rfl, sat_c, o_ixT, ixW_0, sat_cons, sat_bin, sat_var rfl, sat_c, o_ixT, ixW_0, sat_nil, owner_eq h (h.wr p (List.mem_of_getElem? hp)), sat_ok]
      refine ⟨rfl, ?_⟩
      rw [sat_cons, sat_bin, sat_var rfl, sat_c, o_ixT, ixW_0, sat_nil, sat_tup]
      refine ⟨sl3, ?_⟩
      rw [sat_nil, sat_loc]
      refine ⟨sl1, ?_⟩
      unfold Gm.asks at q
      rw [hp] at q
      exact q
  · rintro i e s ⟨rfl, _⟩
    exact hj
theorem way_ok (h : G.Ok) {c : Nat} {st : Store} {Q : PV → Store → Prop} (hc : st[c]? = some (.dic (G.L.map rmKv))) (q : Q (.tup [.tup (G.w.map prPV), .str G.z]) st) : Sat (m_law_way [G.t.pv, .loc c] st) Q := by
  refine sat_body ?_
  unfold f_law_way
  simp only [List.map_cons, List.map_nil, List.length_cons, List.length_nil, Nat.reduceAdd, Nat.reduceSub, List.reduceReplicate, List.cons_append, List.nil_append]
  rw [ss_seq, ss_set, sat_args, sat_nil, sat_tup]
  refine ⟨sl0, ?_⟩
  rw [ss_seq, ss_for, sat_iRange1, sat_c, o_rng]
  refine ⟨by decide, ?_⟩
  refine for_invN (k := 0) (fun i e s => s = st ∧ i ≤ G.w.length ∧ ∃ a, e = [some (down G.t (G.w.take i)).pv, some (.loc c), some (.tup ((G.w.take i).map prPV)), a]) ⟨rfl, Nat.zero_le _, none, by cases G.t <;> rfl⟩ ?_ ?_
  · rintro i v e s hv ⟨rfl, hi, a, rfl⟩
    rw [Nat.zero_add] at hi ⊢
    refine ⟨_, rfl, ?_⟩
    cases hp : G.w[i]? with
    | none =>
      have hkk : i = G.w.length := by have := List.getElem?_eq_none_iff.mp hp; omega
      rw [hkk, List.take_length, h.end_at, t_leaf, ss_seq, ss_if, sat_test, sat_args, sat_cons, sat_var rfl, sat_cons, sat_c, sat_nil, isi_s, sat_truth, if_pos rfl, ss_ret, sat_args, sat_cons, sat_var rfl, sat_cons, sat_var rfl, sat_nil, sat_tup]
      exact ⟨sl2, q⟩
    | some p =>
      obtain ⟨cs, d, h1, h2, h3, h4⟩ := h.node_at hp
      have hi2 : i < G.w.length := (List.getElem?_eq_some_iff.mp hp).1
      obtain ⟨x, mx, ex⟩ := h.wr p (List.mem_of_getElem? hp)
      have hg : dget (G.L.map rmKv) (.inr p.1) = some (.int p.2) := by
        have := dget_mem (kv_nd h.nd) (List.mem_map.mpr ⟨x, mx, rfl⟩)
        rw [show (rmKv x).1 = .inr x.1.n from rfl, show (rmKv x).2 = .int x.2 from rfl, ex, ← h.ch_at mx, ex, ← h.wp p (List.mem_of_getElem? hp)] at this
        exact this
      have lk : ∀ Q : PV → Store → Prop, Sat (pIxD (.loc c) (.str p.1) s) Q = Q (.int p.2) s := fun Q => o_getD (k := .inr p.1) (dic_at hc) hg
      have hw5 := h.wl
      rw [h1, t_node, ss_seq, ss_if, sat_test, sat_args, sat_cons, sat_var rfl, sat_cons, sat_c, sat_nil, isi_t, sat_truth, if_neg (by simp), ss_nil, ss_seq, ss_set, sat_bin, sat_var rfl, sat_args, sat_cons, sat_args, sat_cons, sat_bin, sat_var rfl, sat_c, o_ixDT, o_ixT, ixW_0, sat_cons, sat_bin, sat_var rfl, sat_bin, sat_var rfl, sat_c, o_ixDT, o_ixT, ixW_0, lk, sat_nil, sat_tup]
      refine ⟨sl2, ?_⟩
      rw [sat_nil, sat_tup]
      refine ⟨sl1, ?_⟩
      rw [o_addT]
      refine ⟨by rw [sizeLine_eq, List.length_map, List.length_take]; simp only [List.length_singleton]; omega, ?_⟩
      rw [ss_set, sat_bin, sat_bin, sat_var rfl, sat_c, o_ixDT, o_ixT, ixW_1, sat_bin, sat_var rfl, sat_bin, sat_var rfl, sat_c, o_ixDT, o_ixT, ixW_0, lk, o_ixDT]
      refine kid_ok (n := p.1) h2 h3 ?_
      refine ⟨rfl, hi2, some v, ?_⟩
      rw [h4, List.take_add_one, hp]
      show _ = [some d.pv, some (PV.loc c), some (PV.tup ((G.w.take i ++ [p]).map prPV)), some v]
      rw [List.map_append]
      rfl
  · rintro e s ⟨rfl, hi, _⟩
    have := h.wl
    simp only [rngs_len, Nat.zero_add] at hi
    have h60 : (60 : Int).toNat = 60 := rfl
    omega
end
end PL
/-! PL, part MG: referees and agents. -/
namespace PL
open PySem PySem.Spec PyProof.Rows L2
section
variable {V : Fv} {G : Gm}
abbrev jPV (w : List Pr) : PV := .tup (w.map prPV)
abbrev refO (V : Fv) (G : Gm) (n : Nat) : PO := .ins V.c_Referee [("_game", G.pv), ("journal", jPV (G.w.take n))]
abbrev agO (V : Fv) (i : Int) (d : Nat) (a : List Pr) : PO := .ins V.c_Agent [("_owner", .int i), ("_moves", .loc d), ("journal", jPV a)]
theorem place_eq (h : G.Ok) {n f : Nat} {st : Store} (hf : st[f]? = some (refO V G n)) : m_Referee_place V [.loc f] st = .ok (movesPV (G.w.take n)) st := by
  refine det fun Q q => sat_body ?_
  unfold f_Referee_place
  simp only [List.map_cons, List.map_nil, List.length_cons, List.length_nil, Nat.reduceAdd, Nat.reduceSub, List.reduceReplicate, List.cons_append, List.nil_append]
  have hw := h.wl
  rw [ss_ret, sat_args, sat_cons, sat_comp, sat_iVal, sat_fldi rfl hf rfl, o_itT]
  refine comp_map (as := G.w.take n) (f := prPV) (g := fun p => .int p.2) (by simp [wipeP]) (by rw [List.length_take]; omega) (fun p _ => det fun Q k => by
    rw [sat_bin, sat_var (v := prPV p) (by simp [wipeP]), sat_c]
    show Sat (pIx (.tup [.str p.1, .int p.2]) (.int 1) st) Q
    rw [o_ixT, ixW_1]; exact k) ?_ _ trivial
  rw [o_finF, sat_nil, sat_one, o_tupL]
  exact q
/-- the node at the place -/
theorem at_place (h : G.Ok) {n f : Nat} {st : Store} {env : PEnv} {Q : PV → Store → Prop} (hn : n ≤ G.w.length) (hf : st[f]? = some (refO V G n)) (he : env[0]? = some (some (.loc f))) (k : Q (down G.t (G.w.take n)).pv st) :
    Sat (eCall 2 m_node_at (aCons (eBin pIx (eFld V.c_Referee "_game" (eVar 0)) (eC (.int 1))) (aCons (ePropO V.c_Referee (m_Referee_place V) (eVar 0)) aNil)) env st) Q := by
  have hv : eVar 0 env st = .ok (.loc f) st := by unfold eVar; simp only [he]
  rw [sat_call, sat_cons, sat_bin, sat_fldi he hf rfl, sat_c]
  unfold Gm.pv
  rw [o_ixT, ixW_1, sat_cons, sat_prop_at hv hf, place_eq h hf, sat_ok, sat_nil]
  refine ⟨rfl, ?_⟩
  rw [node_at_eq h hn, sat_ok]
  exact k
def endPV (G : Gm) (n : Nat) : PV := if n = G.w.length then .str G.z else .non
theorem ref_ending_eq (h : G.Ok) {n f : Nat} {st : Store} (hn : n ≤ G.w.length) (hf : st[f]? = some (refO V G n)) : m_Referee_ending V [.loc f] st = .ok (endPV G n) st := by
  refine det fun Q q => sat_body ?_
  unfold f_Referee_ending
  simp only [List.map_cons, List.map_nil, List.length_cons, List.length_nil, Nat.reduceAdd, Nat.reduceSub, List.reduceReplicate, List.cons_append, List.nil_append]
  rw [ss_seq, ss_set]
  refine at_place h hn hf rfl ?_
  unfold endPV at q
  cases hp : G.w[n]? with
  | none =>
    have hkk : n = G.w.length := by have := List.getElem?_eq_none_iff.mp hp; omega
    rw [if_pos hkk] at q
    rw [hkk, List.take_length, h.end_at, t_leaf, ss_seq, ss_if, sat_test, sat_args, sat_cons, sat_var rfl, sat_cons, sat_c, sat_nil, isi_s, sat_truth, if_pos rfl, ss_ret, sat_var rfl]
    exact q
  | some p =>
    have hlt : n < G.w.length := (List.getElem?_eq_some_iff.mp hp).1
    rw [if_neg (by omega)] at q
    obtain ⟨cs, c, h1, h2, h3, h4⟩ := h.node_at hp
    rw [h1, t_node, ss_seq, ss_if, sat_test, sat_args, sat_cons, sat_var rfl, sat_cons, sat_c, sat_nil, isi_t, sat_truth, if_neg (by simp), ss_nil, ss_ret, sat_c]
    exact q
/-- the loop that looks for a row -/
theorem row_of_eq (h : G.Ok) {x : Row × Int} (m : x ∈ G.L) {st : Store} : m_row_of [G.pv, .str x.1.n] st = .ok x.1.pv st := by
  have mr := h.mem_rs m
  have nd := h.gen.nd
  refine det fun Q q => sat_body ?_
  unfold f_row_of Gm.pv
  simp only [List.map_cons, List.map_nil, List.length_cons, List.length_nil, Nat.reduceAdd, Nat.reduceSub, List.reduceReplicate, List.cons_append, List.nil_append]
  rw [ss_seq, ss_for, sat_iVal, sat_bin, sat_var rfl, sat_c, o_ixT, ixW_0, o_itT]
  have key : ∀ (rs : List Row) (a : Option PV), x.1 ∈ rs → (rs.map (·.n)).Nodup →
      SatS (sForL (.one 2) (sIf (eTest (eBin pEq (eBin pIx (eVar 2) (eC (.int 0))) (eVar 1))) (sRet (eVar 2)) sNil) (fun _ => True) (rs.map Row.pv) [some (.tup [.tup (G.rs.map Row.pv), G.t.pv]), some (.str x.1.n), a] st)
        (fun e s => SatS (sRet (eC .non) e s) (fun _ s => Q .non s) Q) Q := by
    intro rs
    induction rs with
    | nil => intro a ha _; cases ha
    | cons r rs ih =>
      intro a ha nd
      rw [List.map_cons, List.nodup_cons] at nd
      rw [List.map_cons]
      refine ss_forL_cons trivial ⟨[some (.tup [.tup (G.rs.map Row.pv), G.t.pv]), some (.str x.1.n), some r.pv], rfl, ?_⟩
      rw [ss_if, sat_test, sat_bin, sat_bin, sat_var rfl, sat_c, row_ix0, sat_var rfl, o_eqS, sat_truth]
      by_cases e : r.n = x.1.n
      · have : r = x.1 := by
          rcases List.mem_cons.mp ha with e2 | h2
          · exact e2.symm
          · exact (nd.1 (by rw [e]; exact List.mem_map.mpr ⟨_, h2, rfl⟩)).elim
        subst this
        rw [decide_eq_true rfl, if_pos rfl, ss_ret, sat_var rfl]
        exact q
      · rw [decide_eq_false e, if_neg (by simp), ss_nil]
        rcases List.mem_cons.mp ha with e2 | h2
        · exact (e (by rw [e2])).elim
        · exact ih _ h2 nd.2
  exact key G.rs none mr nd
def askPV (G : Gm) (n : Nat) : PV := match G.w[n]? with
  | some p => (Lt.ask (G.ow p.1) p.1).pv
  | none => .non
theorem ref_ask_eq (h : G.Ok) {n f : Nat} {st : Store} (hn : n ≤ G.w.length) (hf : st[f]? = some (refO V G n)) : m_Referee_ask V [.loc f] st = .ok (askPV G n) st := by
  refine det fun Q q => sat_body ?_
  unfold f_Referee_ask
  simp only [List.map_cons, List.map_nil, List.length_cons, List.length_nil, Nat.reduceAdd, Nat.reduceSub, List.reduceReplicate, List.cons_append, List.nil_append]
  rw [ss_seq, ss_set]
  refine at_place h hn hf rfl ?_
  unfold askPV at q
  cases hp : G.w[n]? with
  | none =>
    rw [hp] at q
    have hkk : n = G.w.length := by have := List.getElem?_eq_none_iff.mp hp; omega
    rw [hkk, List.take_length, h.end_at, t_leaf, ss_seq, ss_if, sat_test, sat_args, sat_cons, sat_var rfl, sat_cons, sat_c, sat_nil, isi_s, sat_truth, if_pos rfl, ss_ret, sat_c]
    exact q
  | some p =>
    rw [hp] at q
    obtain ⟨cs, c, h1, h2, h3, h4⟩ := h.node_at hp
    obtain ⟨x, mx, ex⟩ := h.wr p (List.mem_of_getElem? hp)
    rw [h1, t_node, ss_seq, ss_if, sat_test, sat_args, sat_cons, sat_var rfl, sat_cons, sat_c, sat_nil, isi_t, sat_truth, if_neg (by simp), ss_nil, ss_ret, sat_args, sat_cons, sat_c, sat_cons, sat_bin, sat_call, sat_cons, sat_fldi rfl hf rfl, sat_cons, sat_bin, sat_var rfl, sat_c, o_ixT, ixW_0, sat_nil]
    refine ⟨rfl, ?_⟩
    rw [← ex, row_of_eq h mx, sat_ok, sat_c, row_ix1, sat_cons, sat_bin, sat_var rfl, sat_c, o_ixT, ixW_0, sat_nil, sat_tup]
    refine ⟨sl3, ?_⟩
    have eo := h.ow_at mx
    rw [ex] at eo
    have q : Q (Lt.ask (G.ow p.1) p.1).pv st := q
    rw [eo] at q
    rw [ex]
    exact q
/-- whether an answer fits the place -/
def Gm.fits (G : Gm) (n : Nat) (m : Str) : Bool := match G.w[n]? with
  | some p => decide (p.1 = m)
  | none => false
theorem o_neI' {i j : Int} {st : Store} {Q : PV → Store → Prop} (h : i = j) : Sat (pNe (.int i) (.int j) st) Q = Q (.bl false) st := by rw [o_neI, decide_eq_true h]; rfl
theorem ref_hear_eq (h : G.Ok) {n f : Nat} {st : Store} {m : Str} {Q : PV → Store → Prop} (hn : n ≤ G.w.length) (hf : st[f]? = some (refO V G n)) (hm : ∃ x ∈ G.L, x.1.n = m)
    (k1 : G.fits n m = true → Q (.bl true) (st.set f (refO V G (n + 1)))) (k2 : G.fits n m = false → Q (.bl false) st) : Sat (m_Referee_hear V [.loc f, (Lt.ans (G.ow m) m (G.ch m)).pv] st) Q := by
  refine sat_body ?_
  unfold f_Referee_hear Lt.pv
  simp only [List.map_cons, List.map_nil, List.length_cons, List.length_nil, Nat.reduceAdd, Nat.reduceSub, List.reduceReplicate, List.cons_append, List.nil_append]
  rw [ss_seq, ss_set]
  refine at_place h hn hf rfl ?_
  have hw := h.wl
  cases hp : G.w[n]? with
  | none =>
    have hfit : G.fits n m = false := by unfold Gm.fits; rw [hp]
    have hkk : n = G.w.length := by have := List.getElem?_eq_none_iff.mp hp; omega
    have k2 := k2 hfit
    rw [hkk, List.take_length, h.end_at, t_leaf, ss_seq, ss_if, sat_or, sat_test, sat_args, sat_cons, sat_var rfl, sat_cons, sat_c, sat_nil, isi_s, sat_truth, if_pos rfl, if_pos rfl, ss_ret, sat_c]
    exact k2
  | some p =>
    have hfit : G.fits n m = decide (p.1 = m) := by unfold Gm.fits; rw [hp]
    obtain ⟨cs, c, h1, h2, h3, h4⟩ := h.node_at hp
    obtain ⟨x, mx, ex⟩ := h.wr p (List.mem_of_getElem? hp)
    have hpc := h.wp p (List.mem_of_getElem? hp)
    rw [h1, t_node, ss_seq, ss_if, sat_or, sat_test, sat_args, sat_cons, sat_var rfl, sat_cons, sat_c, sat_nil, isi_t, sat_truth, if_neg (by simp), sat_or, sat_test, sat_bin, sat_bin, sat_var rfl, sat_c, o_ixT, ixW_0, sat_c, o_neS, sat_truth,
      show (!decide (("answer" : Str) = "answer")) = false by simp, if_neg (by simp), sat_test, sat_bin, sat_bin, sat_var rfl, sat_c, o_ixT, ixW_2, sat_bin, sat_var rfl, sat_c, o_ixT, ixW_0, o_neS, sat_truth]
    by_cases e : p.1 = m
    · rw [decide_eq_true e] at hfit
      have kk := k1 hfit
      clear k1 k2
      subst e
      rw [show (!decide (p.1 = p.1)) = false by simp, if_neg (by simp), ss_nil, ss_seq, ss_tg, sat_call, sat_cons, sat_fldi rfl hf rfl, sat_cons, sat_bin, sat_var rfl, sat_c, o_ixT, ixW_0, sat_nil]
      refine ⟨rfl, ?_⟩
      have hro : m_row_of [G.pv, .str p.1] st = .ok x.1.pv st := by rw [← ex]; exact row_of_eq h mx
      rw [hro, sat_ok]
      have eo : G.ow p.1 = x.1.o := by rw [← ex]; exact h.ow_at mx
      have ec : G.ch p.1 = x.2 := by rw [← ex]; exact h.ch_at mx
      have bd := h.bd x mx
      refine ⟨_, rfl, ?_⟩
      rw [ss_seq, ss_if, sat_or, sat_test, sat_bin, sat_bin, sat_var rfl, sat_c, o_ixT, ixW_1, sat_var rfl, o_neI' eo, sat_truth, if_neg (by simp), sat_not, sat_test, sat_chain, sat_c, sat_bin, sat_var rfl, sat_c, o_ixT]
      refine ixW_of (k := 3) rfl ?_
      rw [o_leI, show (!decide (G.ch p.1 < 0)) = true by rw [ec]; simpa using bd.1]
      simp only
      rw [sat_args, sat_cons, sat_var rfl, sat_nil, sat_one, o_lenT, o_ltI, sat_truth, List.length_map, decide_eq_true (show G.ch p.1 < (x.1.ws.length : Int) by rw [ec]; exact bd.2), Bool.not_true, if_neg (by simp), ss_nil]
      rw [ss_seq, ss_fld, sat_bin, sat_fldi rfl hf rfl, sat_args, sat_cons, sat_args, sat_cons, sat_var rfl, sat_cons, sat_bin, sat_var rfl, sat_c, o_ixT]
      refine ixW_of (k := 3) rfl ?_
      rw [sat_nil, sat_tup]
      refine ⟨sl2, ?_⟩
      rw [sat_nil, sat_tup]
      refine ⟨sl1, ?_⟩
      rw [o_addT]
      refine ⟨by rw [sizeLine_eq, List.length_map, List.length_take]; simp only [List.length_singleton]; omega, ?_⟩
      rw [sat_var rfl, insOf_at hf]
      refine ⟨by simp, ?_⟩
      rw [ss_ret, sat_c]
      have e1 : (G.w.take n).map prPV ++ [PV.tup [.str x.1.n, .int (G.ch p.1)]] = (G.w.take (n + 1)).map prPV := by
        rw [List.take_add_one, hp, List.map_append, ← hpc, ex]
        rfl
      rw [e1]
      exact kk
    · rw [decide_eq_false e] at hfit
      have k2 := k2 hfit
      rw [show (!decide (m = p.1)) = true by simpa using fun z : m = p.1 => e z.symm, if_pos rfl, ss_ret, sat_c]
      exact k2
/-- the journal behind an ask -/
def putJ (a : List Pr) (p : Pr) : List Pr := if p ∈ a then a else a ++ [p]
theorem names_in {a : List Pr} {st : Store} {m : Str} {Q : PV → Store → Prop} (hl : a.length ≤ 1000) : Sat (pNotInK (.str m) (.lst (a.map fun p => PV.str p.1)) st) Q = Q (.bl (!decide (m ∈ a.map (·.1)))) st := by
  have e : (a.map fun p => PV.str p.1) = (a.map (·.1)).map PV.str := by rw [List.map_map]; rfl
  rw [e, (inK_seq (q := (false, (a.map (·.1)).map PV.str)) rfl).2]
  have d := isDs_str (a.map (·.1))
  have dp := depth_str (a.map (·.1))
  have hin : inD (.str m) ((a.map (·.1)).map .str) = decide (m ∈ a.map (·.1)) := by
    unfold inD
    rw [List.any_map, Bool.eq_iff_iff]
    simp only [List.any_eq_true, Function.comp, decide_eq_true_eq, toD, PyData.eqv, beq_iff_eq]
    constructor
    · rintro ⟨y, my, e⟩; rw [← e]; exact my
    · exact fun my => ⟨m, my, rfl⟩
  have : pNotIn (.str m) (.lst ((a.map (·.1)).map .str)) st = .ok (.bl (!decide (m ∈ a.map (·.1)))) st := by
    show (if isD (.str m) = true ∧ isDs ((a.map (·.1)).map .str) = true ∧ min (PyData.depthAll (toDs ((a.map (·.1)).map .str))) (toD (.str m)).depth ≤ 60 then Res.ok (PV.bl (!inD (.str m) ((a.map (·.1)).map .str))) st else .stuck) = _
    rw [if_pos ⟨rfl, d, by rw [dp]; omega⟩, hin]
  rw [this, sat_ok]
theorem agent_call_ok (h : G.Ok) {g d : Nat} {a : List Pr} {st : Store} {m : Str} {i : Int} {Q : PV → Store → Prop} (hg : st[g]? = some (agO V i d a)) (hd : st[d]? = some (.dic ((ownM i G.L).map rmKv))) (hm : ∃ x ∈ G.L, x.1.n = m ∧ x.1.o = i) (ha : ∀ p ∈ a, p.2 = G.ch p.1) (hl : a.length ≤ 1000)
    (k : Q (Lt.ans i m (G.ch m)).pv (st.set g (agO V i d (putJ a (m, G.ch m))))) : Sat (m_Agent_call V [.loc g, (Lt.ask i m).pv] st) Q := by
  obtain ⟨x, mx, ex, exo⟩ := hm
  have hget : dget ((ownM i G.L).map rmKv) (.inr m) = some (.int (G.ch m)) := by
    have nd : ((ownM i G.L).map (·.1)).map (·.n) |>.Nodup := by
      refine List.Nodup.sublist ?_ h.nd
      exact ((List.filter_sublist).map _).map _
    have := dget_mem (kv_nd nd) (List.mem_map.mpr ⟨x, List.mem_filter.mpr ⟨mx, by simpa using exo⟩, rfl⟩)
    rw [show (rmKv x).1 = .inr x.1.n from rfl, show (rmKv x).2 = .int x.2 from rfl, ← h.ch_at mx, ex] at this
    exact this
  refine sat_body ?_
  unfold f_Agent_call Lt.pv
  simp only [List.map_cons, List.map_nil, List.length_cons, List.length_nil, Nat.reduceAdd, Nat.reduceSub, List.reduceReplicate, List.cons_append, List.nil_append]
  rw [ss_seq, ss_if, sat_or, sat_test, sat_bin, sat_bin, sat_var rfl, sat_c, o_ixDT, o_ixT, ixW_0, sat_c, o_neS, sat_truth, show (!decide (("ask" : Str) = "ask")) = false by simp, if_neg (by simp), sat_or, sat_test, sat_bin, sat_bin, sat_var rfl, sat_c, o_ixDT, o_ixT, ixW_1, sat_fldi rfl hg rfl, o_neI' rfl, sat_truth, if_neg (by simp),
    sat_test, sat_bin, sat_bin, sat_var rfl, sat_c, o_ixDT, o_ixT, ixW_2, sat_fldi rfl hg rfl, o_notInK (dic_at hd) (k := .inr m) rfl, hget, sat_truth, show (!(some (PV.int (G.ch m))).isSome) = false from rfl, if_neg (by simp), ss_nil]
  rw [ss_seq, ss_set, sat_bin, sat_var rfl, sat_c, o_ixDT, o_ixT, ixW_2, ss_seq, ss_set, sat_bin, sat_fldi rfl hg rfl, sat_var rfl]
  show Sat (pIxD (.loc d) (keyPV (.inr m)) st) _
  rw [o_getD (dic_at hd) hget]
  rw [ss_seq, ss_if, sat_test, sat_bin, sat_var rfl, sat_comp, sat_iVal, sat_fldi rfl hg rfl, o_itT]
  refine comp_map (as := a) (f := prPV) (g := fun p => .str p.1) (by simp [wipeP]) (by omega) (fun p _ => det fun Q k => by
    rw [sat_bin, sat_var (v := prPV p) (by simp [wipeP]), sat_c]
    show Sat (pIx (.tup [.str p.1, .int p.2]) (.int 0) st) Q
    rw [o_ixT, ixW_0]; exact k) ?_ _ trivial
  rw [o_finF, names_in hl, sat_truth]
  have hmem : (m ∈ a.map (·.1)) ↔ (m, G.ch m) ∈ a := by
    constructor
    · intro hmm
      obtain ⟨p, mp, rfl⟩ := List.mem_map.mp hmm
      rw [← ha p mp]; exact mp
    · intro hmm
      exact List.mem_map.mpr ⟨_, hmm, rfl⟩
  have fin : ∀ s, s[g]? = some (agO V i d (putJ a (m, G.ch m))) → s = st.set g (agO V i d (putJ a (m, G.ch m))) →
      SatS (sRet (eArgs mkTup (aCons (eC (.str "answer")) (aCons (eFld V.c_Agent "_owner" (eVar 0)) (aCons (eVar 2) (aCons (eVar 3) aNil))))) [some (.loc g), some (.tup [.str "ask", .int i, .str m]), some (.str m), some (.int (G.ch m)), none] s) (fun _ s => Q .non s) Q := fun s h1 h2 => by
    rw [ss_ret, sat_args, sat_cons, sat_c, sat_cons, sat_fldi rfl h1 rfl, sat_cons, sat_var rfl, sat_cons, sat_var rfl, sat_nil, sat_tup]
    refine ⟨by rw [sizeLine_eq]; simp, ?_⟩
    subst h2
    exact k
  by_cases hin : (m, G.ch m) ∈ a
  · rw [decide_eq_true (hmem.mpr hin), Bool.not_true, if_neg (by simp), ss_nil]
    have e1 : putJ a (m, G.ch m) = a := if_pos hin
    exact fin st (by rw [e1]; exact hg) (by rw [e1]; exact (set_self hg).symm)
  · rw [decide_eq_false (fun z => hin (hmem.mp z)), Bool.not_false, if_pos rfl, ss_fld, sat_bin, sat_fldi rfl hg rfl, sat_args, sat_cons, sat_args, sat_cons, sat_var rfl, sat_cons, sat_var rfl, sat_nil, sat_tup]
    refine ⟨sl2, ?_⟩
    rw [sat_nil, sat_tup]
    refine ⟨sl1, ?_⟩
    rw [o_addT]
    refine ⟨by rw [sizeLine_eq, List.length_map]; simp only [List.length_singleton]; omega, ?_⟩
    rw [sat_var rfl, insOf_at hg]
    refine ⟨by simp, ?_⟩
    have e1 : putJ a (m, G.ch m) = a ++ [(m, G.ch m)] := if_neg hin
    have e2 : a.map prPV ++ [PV.tup [.str m, .int (G.ch m)]] = (putJ a (m, G.ch m)).map prPV := by rw [e1, List.map_append]; rfl
    rw [e2]
    exact fin _ (List.getElem?_set_self (lt_of_some hg)) rfl
end
end PL
/-! PL, part MH: a run's state, and what events make of it. -/
namespace PL
open PySem PySem.Spec PyProof.Rows L2
/-- n: so many moves are in the record; a: the agents' journals; bag: the letters -/
structure RS where
  n : Nat
  a : Int → List Pr
  bag : List Lt
def Gm.F (G : Gm) (i : Int) (k : Nat) : List Pr := (G.w.take k).filter fun p => decide (G.ow p.1 = i)
def LtOk (G : Gm) (S : RS) : Lt → Prop
  | .ask o m => ∃ k p, k ≤ S.n ∧ G.w[k]? = some p ∧ m = p.1 ∧ o = G.ow p.1
  | .ans o m v => ∃ k p, k ≤ S.n ∧ G.w[k]? = some p ∧ m = p.1 ∧ v = p.2 ∧ o = G.ow p.1 ∧ p ∈ S.a o
structure Iv (G : Gm) (S : RS) (B : Nat) : Prop where
  n : S.n ≤ G.w.length
  a : ∀ i, S.a i = G.F i S.n ∨ S.a i = G.F i (S.n + 1)
  b : ∀ l ∈ S.bag, LtOk G S l
  sz : S.bag.length ≤ B
def Gm.dl (G : Gm) (S : RS) : Lt → RS
  | .ask o m => { n := S.n, a := fun i => if i = o then putJ (S.a o) (m, G.ch m) else S.a i, bag := S.bag ++ [.ans o m (G.ch m)] }
  | .ans _ m _ => if G.fits S.n m = true then { n := S.n + 1, a := S.a, bag := S.bag ++ G.asks (S.n + 1) } else S
theorem dl_ask {G : Gm} {S : RS} {o : Int} {m : Str} : G.dl S (.ask o m) = { n := S.n, a := fun i => if i = o then putJ (S.a o) (m, G.ch m) else S.a i, bag := S.bag ++ [.ans o m (G.ch m)] } := rfl
theorem dl_ans {G : Gm} {S : RS} {o v : Int} {m : Str} : G.dl S (.ans o m v) = if G.fits S.n m = true then { n := S.n + 1, a := S.a, bag := S.bag ++ G.asks (S.n + 1) } else S := rfl
inductive Ev where
  | restart
  | ev (kind : Str) (at' : Int)
def Ev.pv : Ev → PV
  | .restart => .tup [.str "restart"]
  | .ev k i => .tup [.str k, .int i]
def Ev.Ok : Ev → Prop
  | .restart => True
  | .ev k i => k = "deliver" ∨ k = "copy" ∨ k = "lose"
def Gm.cutB (S : RS) (kind : Str) (i : Nat) : RS := if kind = "copy" then S else { S with bag := S.bag.eraseIdx i }
def Gm.hp (G : Gm) (S : RS) : Ev → RS × Bool
  | .restart => ({ S with bag := S.bag ++ G.asks S.n }, true)
  | .ev kind i => match (if 0 ≤ i then S.bag[i.toNat]? else none) with
    | some l => (if kind = "lose" then Gm.cutB S kind i.toNat else G.dl (Gm.cutB S kind i.toNat) l, true)
    | none => (S, false)
section
variable {G : Gm} {S : RS} {B : Nat}
theorem F_succ {i : Int} {k : Nat} : G.F i (k + 1) = G.F i k ++ (match G.w[k]? with
    | some p => if G.ow p.1 = i then [p] else []
    | none => []) := by
  unfold Gm.F
  rw [List.take_add_one, List.filter_append]
  cases G.w[k]? with
  | none => rfl
  | some p =>
    by_cases h : G.ow p.1 = i
    · simp [h]
    · simp [h]
theorem mem_F {p : Pr} {k n : Nat} (hp : G.w[k]? = some p) (h : k < n) : p ∈ G.F (G.ow p.1) n := by
  unfold Gm.F
  refine List.mem_filter.mpr ⟨?_, by simp⟩
  exact List.mem_of_getElem? (i := k) (by rw [List.getElem?_take_of_lt h]; exact hp)
theorem F_mem_w {p : Pr} {i : Int} {n : Nat} (h : p ∈ G.F i n) : p ∈ G.w := List.mem_of_mem_take (List.mem_filter.mp h).1
theorem F_len (h : G.Ok) {i : Int} {n : Nat} : (G.F i n).length ≤ 5 := by
  have := h.wl
  have h1 := List.length_filter_le (fun p : Pr => decide (G.ow p.1 = i)) (G.w.take n)
  rw [List.length_take] at h1
  unfold Gm.F
  omega
theorem Iv.mem_w (iv : Iv G S B) {i : Int} {p : Pr} (m : p ∈ S.a i) : p ∈ G.w := by
  rcases iv.a i with e | e <;> rw [e] at m <;> exact F_mem_w m
theorem Iv.len (h : G.Ok) (iv : Iv G S B) {i : Int} : (S.a i).length ≤ 5 := by
  rcases iv.a i with e | e <;> rw [e] <;> exact F_len h
theorem Iv.ch (h : G.Ok) (iv : Iv G S B) {i : Int} : ∀ p ∈ S.a i, p.2 = G.ch p.1 := fun p m => h.wp p (iv.mem_w m)
/-- what is asked for before the place is answered -/
theorem Iv.old (iv : Iv G S B) {k : Nat} {p : Pr} (hp : G.w[k]? = some p) (hk : k < S.n) : p ∈ S.a (G.ow p.1) := by
  rcases iv.a (G.ow p.1) with e | e <;> rw [e]
  · exact mem_F hp hk
  · exact mem_F hp (by omega)
theorem w_inj (h : G.Ok) {j k : Nat} {p q : Pr} (hp : G.w[j]? = some p) (hq : G.w[k]? = some q) (e : p.1 = q.1) : j = k := by
  have h1 : (G.w.map (·.1))[j]? = some p.1 := by rw [List.getElem?_map, hp]; rfl
  have h2 : (G.w.map (·.1))[k]? = some p.1 := by rw [List.getElem?_map, hq, e]; rfl
  exact (List.getElem?_inj (List.getElem?_eq_some_iff.mp h1).1 h.wn).mp (h1.trans h2.symm)
/-- an ask that is delivered: the agent's journal -/
theorem iv_ask (h : G.Ok) (iv : Iv G S B) {o : Int} {m : Str} (hl : LtOk G S (.ask o m)) : Iv G (G.dl S (.ask o m)) (B + 1) := by
  obtain ⟨k, p, hk, hp, rfl, rfl⟩ := hl
  have hpc : (p.1, G.ch p.1) = p := by rw [← h.wp p (List.mem_of_getElem? hp)]
  have hput : putJ (S.a (G.ow p.1)) p = S.a (G.ow p.1) ∨ (k = S.n ∧ S.a (G.ow p.1) = G.F (G.ow p.1) S.n ∧ putJ (S.a (G.ow p.1)) p = G.F (G.ow p.1) (S.n + 1)) := by
    unfold putJ
    by_cases hm : p ∈ S.a (G.ow p.1)
    · exact .inl (if_pos hm)
    · refine .inr ?_
      have hkn : k = S.n := by
        rcases Nat.lt_or_ge k S.n with z | z
        · exact (hm (iv.old hp z)).elim
        · omega
      subst hkn
      have ha : S.a (G.ow p.1) = G.F (G.ow p.1) S.n := by
        rcases iv.a (G.ow p.1) with e | e
        · exact e
        · exact (hm (by rw [e]; exact mem_F hp (Nat.lt_succ_self _))).elim
      refine ⟨rfl, ha, ?_⟩
      rw [if_neg hm, ha, F_succ, hp]
      simp
  have sub : ∀ q i, q ∈ S.a i → q ∈ (if i = G.ow p.1 then putJ (S.a (G.ow p.1)) p else S.a i) := fun q i mq => by
    by_cases e : i = G.ow p.1
    · rw [if_pos e]
      unfold putJ
      by_cases hm : p ∈ S.a (G.ow p.1)
      · rw [if_pos hm, ← e]; exact mq
      · rw [if_neg hm, ← e]; exact List.mem_append.mpr (.inl mq)
    · rw [if_neg e]; exact mq
  rw [dl_ask, hpc]
  refine ⟨iv.n, fun i => ?_, fun l m => ?_, by show (S.bag ++ _).length ≤ _; rw [List.length_append]; have := iv.sz; simp only [List.length_singleton]; omega⟩
  · show (if i = G.ow p.1 then putJ (S.a (G.ow p.1)) p else S.a i) = _ ∨ (if i = G.ow p.1 then putJ (S.a (G.ow p.1)) p else S.a i) = _
    by_cases e : i = G.ow p.1
    · rw [if_pos e, e]
      rcases hput with z | ⟨_, _, z⟩
      · rw [z]; exact iv.a _
      · exact .inr z
    · rw [if_neg e]; exact iv.a i
  · rcases List.mem_append.mp m with m | m
    · have := iv.b l m
      cases l with
      | ask o' m' => exact this
      | ans o' m' v' =>
        obtain ⟨k', p', a1, a2, a3, a4, a5, a6⟩ := this
        exact ⟨k', p', a1, a2, a3, a4, a5, sub _ _ a6⟩
    · rw [List.mem_singleton.mp m]
      refine ⟨k, p, hk, hp, rfl, (h.wp p (List.mem_of_getElem? hp)).symm, rfl, ?_⟩
      show p ∈ (if G.ow p.1 = G.ow p.1 then putJ (S.a (G.ow p.1)) p else _)
      rw [if_pos rfl]
      unfold putJ
      by_cases hm : p ∈ S.a (G.ow p.1)
      · rw [if_pos hm]; exact hm
      · rw [if_neg hm]; simp
theorem asks_ok {k : Nat} {T : RS} (hk : k ≤ T.n) : ∀ l ∈ G.asks k, LtOk G T l := fun l m => by
  unfold Gm.asks at m
  cases hp : G.w[k]? with
  | none => rw [hp] at m; cases m
  | some p =>
    rw [hp] at m
    rw [List.mem_singleton.mp m]
    exact ⟨k, p, hk, hp, rfl, rfl⟩
theorem asks_len {k : Nat} : (G.asks k).length ≤ 1 := by
  unfold Gm.asks
  cases G.w[k]? <;> simp
theorem iv_ans (h : G.Ok) (iv : Iv G S B) {o : Int} {m : Str} {v : Int} (hl : LtOk G S (.ans o m v)) : Iv G (G.dl S (.ans o m v)) (B + 1) := by
  obtain ⟨k, p, hk, hp, rfl, rfl, rfl, hin⟩ := hl
  rw [dl_ans]
  by_cases hf : G.fits S.n p.1 = true
  · rw [if_pos hf]
    have hkn : k = S.n := by
      unfold Gm.fits at hf
      cases hq : G.w[S.n]? with
      | none => rw [hq] at hf; cases hf
      | some q =>
        rw [hq] at hf
        exact w_inj h hp hq (by simpa using (of_decide_eq_true hf).symm)
    subst hkn
    have hlt : S.n < G.w.length := (List.getElem?_eq_some_iff.mp hp).1
    have step : ∀ i, S.a i = G.F i (S.n + 1) := fun i => by
      rcases iv.a i with e | e
      · by_cases ei : G.ow p.1 = i
        · subst ei
          rw [e] at hin
          -- the pair is not among the former ones
          exfalso
          have hw : p ∈ G.w.take S.n := (List.mem_filter.mp hin).1
          obtain ⟨j, hj⟩ := List.getElem?_of_mem hw
          have hjn : j < S.n := by
            have := (List.getElem?_eq_some_iff.mp hj).1
            rw [List.length_take] at this
            omega
          rw [List.getElem?_take_of_lt hjn] at hj
          have := w_inj h hj hp rfl
          omega
        · rw [e, F_succ, hp]
          simp [ei]
      · exact e
    refine ⟨hlt, fun i => .inl (step i), fun l m => ?_, by show (S.bag ++ _).length ≤ _; rw [List.length_append]; have := iv.sz; have := asks_len (G := G) (k := S.n + 1); omega⟩
    rcases List.mem_append.mp m with m | m
    · have := iv.b l m
      cases l with
      | ask o' m' =>
        obtain ⟨k', p', a1, a2, a3, a4⟩ := this
        exact ⟨k', p', Nat.le_succ_of_le a1, a2, a3, a4⟩
      | ans o' m' v' =>
        obtain ⟨k', p', a1, a2, a3, a4, a5, a6⟩ := this
        exact ⟨k', p', Nat.le_succ_of_le a1, a2, a3, a4, a5, a6⟩
    · exact asks_ok (Nat.le_refl _) l m
  · rw [if_neg hf]
    exact ⟨iv.n, iv.a, iv.b, Nat.le_succ_of_le iv.sz⟩
theorem iv_dl (h : G.Ok) (iv : Iv G S B) {l : Lt} (hl : LtOk G S l) : Iv G (G.dl S l) (B + 1) := by
  cases l with
  | ask o m => exact iv_ask h iv hl
  | ans o m v => exact iv_ans h iv hl
theorem iv_cut (iv : Iv G S B) {kind : Str} {i : Nat} : Iv G (Gm.cutB S kind i) B := by
  unfold Gm.cutB
  by_cases h : kind = "copy"
  · rw [if_pos h]; exact iv
  · rw [if_neg h]
    refine ⟨iv.n, iv.a, fun l m => ?_, Nat.le_trans (List.length_eraseIdx_le ..) iv.sz⟩
    have := iv.b l (List.mem_of_mem_eraseIdx m)
    cases l <;> exact this
theorem ltok_cut {kind : Str} {i : Nat} {l : Lt} (hl : LtOk G S l) : LtOk G (Gm.cutB S kind i) l := by
  unfold Gm.cutB
  by_cases h : kind = "copy"
  · rw [if_pos h]; exact hl
  · rw [if_neg h]; cases l <;> exact hl
theorem iv_hp (h : G.Ok) (iv : Iv G S B) (e : Ev) : Iv G (G.hp S e).1 (B + 1) := by
  cases e with
  | restart =>
    refine ⟨iv.n, iv.a, fun l m => ?_, by show (S.bag ++ _).length ≤ _; rw [List.length_append]; have := iv.sz; have := asks_len (G := G) (k := S.n); omega⟩
    rcases List.mem_append.mp m with m | m
    · have := iv.b l m
      cases l <;> exact this
    · exact asks_ok (Nat.le_refl _) l m
  | ev kind i =>
    unfold Gm.hp
    simp only
    split
    · rename_i l hl
      have hl2 : l ∈ S.bag := by
        split at hl
        · exact List.mem_of_getElem? hl
        · cases hl
      show Iv G (if kind = "lose" then _ else _) (B + 1)
      by_cases hk : kind = "lose"
      · rw [if_pos hk]
        have := iv_cut (kind := kind) (i := i.toNat) iv
        exact ⟨this.n, this.a, this.b, Nat.le_succ_of_le this.sz⟩
      · rw [if_neg hk]
        exact iv_dl h (iv_cut iv) (ltok_cut (iv.b l hl2))
    · exact ⟨iv.n, iv.a, iv.b, Nat.le_succ_of_le iv.sz⟩
/-- the first state -/
def RS.new (G : Gm) : RS := ⟨0, fun _ => [], G.asks 0⟩
theorem iv_new (h : G.Ok) : Iv G (RS.new G) 1 := ⟨Nat.zero_le _, fun i => .inl (by unfold Gm.F RS.new; simp), fun l m => asks_ok (Nat.le_refl _) l m, asks_len⟩
/-- resumed: the ask alone -/
def RS.back (G : Gm) (S : RS) : RS := ⟨S.n, S.a, G.asks S.n⟩
theorem iv_back (h : G.Ok) (iv : Iv G S B) : Iv G (S.back G) 1 := ⟨iv.n, iv.a, fun l m => asks_ok (Nat.le_refl _) l m, asks_len⟩
/-- finished -/
def RS.fin (G : Gm) (S : RS) : RS := ⟨G.w.length, fun i => G.F i G.w.length, S.bag⟩
theorem iv_fin (h : G.Ok) (iv : Iv G S B) : Iv G (S.fin G) B := by
  refine ⟨Nat.le_refl _, fun i => .inl rfl, fun l m => ?_, iv.sz⟩
  have := iv.b l m
  cases l with
  | ask o' m' =>
    obtain ⟨k', p', a1, a2, a3, a4⟩ := this
    exact ⟨k', p', Nat.le_trans a1 iv.n, a2, a3, a4⟩
  | ans o' m' v' =>
    obtain ⟨k', p', a1, a2, a3, a4, a5, a6⟩ := this
    refine ⟨k', p', Nat.le_trans a1 iv.n, a2, a3, a4, a5, ?_⟩
    rw [a5]
    exact mem_F a2 (List.getElem?_eq_some_iff.mp a2).1
end
end PL
/-! PL, part MI: a run, its events. -/
namespace PL
open PySem PySem.Spec PyProof.Rows L2
section
variable {V : Fv} {G : Gm} {S : RS} {B r : Nat} {st s : Store} {Q : PV → Store → Prop}
abbrev bagPV (b : List Lt) : PV := .tup (b.map Lt.pv)
abbrev runO (V : Fv) (r : Nat) (b : List Lt) : PO := .ins V.c_Run [("_referee", .loc (r + 1)), ("_agents", .tup [.loc (r + 2), .loc (r + 4), .loc (r + 6)]), ("bag", bagPV b)]
structure RunAt (V : Fv) (G : Gm) (r : Nat) (S : RS) (s : Store) : Prop where
  run : s[r]? = some (runO V r S.bag)
  ref : s[r + 1]? = some (refO V G S.n)
  ag : ∀ i : Nat, i < 3 → s[r + 2 + 2 * i]? = some (agO V i (r + 3 + 2 * i) (S.a i))
  dc : ∀ i : Nat, i < 3 → s[r + 3 + 2 * i]? = some (.dic ((ownM i G.L).map rmKv))
abbrev FR (r : Nat) : List Nat := [r, r + 1, r + 2, r + 4, r + 6]
theorem fr_ag {i : Nat} (h : i < 3) : r + 2 + 2 * i ∈ FR r := by
  rcases (show i = 0 ∨ i = 1 ∨ i = 2 by omega) with rfl | rfl | rfl <;> simp
theorem RunAt.gr {L : List Nat} (h : RunAt V G r S st) (g : Gr L st s) (n : ∀ k ∈ L, k < r ∨ r + 8 ≤ k) : RunAt V G r S s where
  run := g.at' h.run fun m => by have := n _ m; omega
  ref := g.at' h.ref fun m => by have := n _ m; omega
  ag := fun i hi => g.at' (h.ag i hi) fun m => by have := n _ m; omega
  dc := fun i hi => g.at' (h.dc i hi) fun m => by have := n _ m; omega
theorem RunAt.bag (h : RunAt V G r S st) (b : List Lt) : RunAt V G r { S with bag := b } (st.set r (runO V r b)) where
  run := List.getElem?_set_self (lt_of_some h.run)
  ref := by rw [List.getElem?_set_ne (by omega)]; exact h.ref
  ag := fun i hi => by rw [List.getElem?_set_ne (by omega)]; exact h.ag i hi
  dc := fun i hi => by rw [List.getElem?_set_ne (by omega)]; exact h.dc i hi
theorem RunAt.num (h : RunAt V G r S st) (n : Nat) : RunAt V G r { S with n := n } (st.set (r + 1) (refO V G n)) where
  run := by rw [List.getElem?_set_ne (by omega)]; exact h.run
  ref := List.getElem?_set_self (lt_of_some h.ref)
  ag := fun i hi => by rw [List.getElem?_set_ne (by omega)]; exact h.ag i hi
  dc := fun i hi => by rw [List.getElem?_set_ne (by omega)]; exact h.dc i hi
theorem RunAt.agt (h : RunAt V G r S st) {i : Nat} (hi : i < 3) (x : List Pr) : RunAt V G r { S with a := fun o => if o = (i : Int) then x else S.a o } (st.set (r + 2 + 2 * i) (agO V i (r + 3 + 2 * i) x)) where
  run := by rw [List.getElem?_set_ne (by omega)]; exact h.run
  ref := by rw [List.getElem?_set_ne (by omega)]; exact h.ref
  ag := fun j hj => by
    by_cases e : j = i
    · subst e
      rw [List.getElem?_set_self (lt_of_some (h.ag j hj))]
      show _ = some (agO V j (r + 3 + 2 * j) (if (j : Int) = j then x else S.a j))
      rw [if_pos rfl]
    · rw [List.getElem?_set_ne (by omega), h.ag j hj]
      show _ = some (agO V j (r + 3 + 2 * j) (if (j : Int) = i then x else S.a j))
      rw [if_neg (by omega)]
  dc := fun j hj => by rw [List.getElem?_set_ne (by omega)]; exact h.dc j hj
/-- self._agents[o] -/
theorem agents_ix {o : Int} (h : 0 ≤ o ∧ o ≤ 2) (k : Q (.loc (r + 2 + 2 * o.toNat)) st) : Sat (pIx (.tup [.loc (r + 2), .loc (r + 4), .loc (r + 6)]) (.int o) st) Q := by
  rw [o_ixT]
  rcases (show o = 0 ∨ o = 1 ∨ o = 2 by omega) with rfl | rfl | rfl
  · rw [ixW_0]; exact k
  · rw [ixW_1]; exact k
  · rw [ixW_2]; exact k
theorem lt_ne_non {l : Lt} : isNonP l.pv = some false := by cases l <;> rfl
theorem send_ok {b : List Lt} {l : Lt} (hr : st[r]? = some (runO V r b)) (hb : b.length ≤ 100000) (k : Q .non (st.set r (runO V r (b ++ [l])))) : Sat (m_Run_send V [.loc r, l.pv] st) Q := by
  refine sat_body ?_
  unfold f_Run_send
  simp only [List.map_cons, List.map_nil, List.length_cons, List.length_nil, Nat.reduceAdd, Nat.reduceSub, List.reduceReplicate, List.cons_append, List.nil_append]
  have e1 : pIsNot l.pv .non st = .ok (.bl true) st := by unfold pIsNot; simp only [lt_ne_non]; rfl
  rw [ss_if, sat_test, sat_bin, sat_var rfl, sat_c, e1, sat_ok, sat_truth, if_pos rfl, ss_fld, sat_bin, sat_fldi rfl hr rfl, sat_args, sat_cons, sat_var rfl, sat_nil, sat_tup]
  refine ⟨sl1, ?_⟩
  rw [o_addT]
  refine ⟨by rw [sizeLine_eq, List.length_map]; simp only [List.length_singleton]; omega, ?_⟩
  rw [sat_var rfl, insOf_at hr]
  refine ⟨by simp, ?_⟩
  have e2 : b.map Lt.pv ++ [l.pv] = (b ++ [l]).map Lt.pv := by rw [List.map_append]; rfl
  rw [e2]
  exact k
theorem send_asks {b : List Lt} {n : Nat} (hr : st[r]? = some (runO V r b)) (hb : b.length ≤ 100000) (k : Q .non (st.set r (runO V r (b ++ G.asks n)))) : Sat (m_Run_send V [.loc r, askPV G n] st) Q := by
  unfold askPV
  unfold Gm.asks at k
  cases hp : G.w[n]? with
  | none =>
    rw [hp] at k
    have k : Q .non (st.set r (runO V r (b ++ []))) := k
    rw [List.append_nil, set_self hr] at k
    refine sat_body ?_
    unfold f_Run_send
    simp only [List.map_cons, List.map_nil, List.length_cons, List.length_nil, Nat.reduceAdd, Nat.reduceSub, List.reduceReplicate, List.cons_append, List.nil_append]
    rw [ss_if, sat_test, sat_bin, sat_var rfl, sat_c, o_isNotN, sat_truth, if_neg (by simp), ss_nil]
    exact k
  | some p =>
    rw [hp] at k
    exact send_ok hr hb k
/-- self._send(self._referee.ask()) -/
theorem ask_send (h : G.Ok) (hR : RunAt V G r S st) (hn : S.n ≤ G.w.length) (hb : S.bag.length ≤ 100000) {env : PEnv} (he : env[0]? = some (some (.loc r))) (k : Q .non (st.set r (runO V r (S.bag ++ G.asks S.n)))) :
    Sat ((eMethO V.c_Run "_send" 2 (m_Run_send V) (eVar 0) (aCons (eMethO V.c_Referee "ask" 1 (m_Referee_ask V) (eFld V.c_Run "_referee" (eVar 0)) aNil) aNil)) env st) Q := by
  have hv : eVar 0 env st = .ok (.loc r) st := by unfold eVar; simp only [he]
  rw [sat_meth_at hv hR.run rfl, sat_cons, sat_meth_at (eq_fldi he hR.run rfl) hR.ref rfl, sat_nil]
  refine ⟨rfl, ?_⟩
  rw [ref_ask_eq h hn hR.ref, sat_ok, sat_nil]
  exact ⟨rfl, send_asks hR.run hb k⟩
theorem deliver_ok (h : G.Ok) (iv : Iv G S B) (hB : B ≤ 100000) {l : Lt} (hl : LtOk G S l) (hR : RunAt V G r S st) (k : ∀ s, RunAt V G r (G.dl S l) s → Gr (FR r) st s → Q .non s) : Sat (m_Run_deliver V [.loc r, l.pv] st) Q := by
  have hsz := iv.sz
  refine sat_body ?_
  unfold f_Run_deliver
  simp only [List.map_cons, List.map_nil, List.length_cons, List.length_nil, Nat.reduceAdd, Nat.reduceSub, List.reduceReplicate, List.cons_append, List.nil_append]
  cases l with
  | ask o m =>
    obtain ⟨kk, p, hk, hp, rfl, rfl⟩ := hl
    have hw := h.wr p (List.mem_of_getElem? hp)
    have ho := h.ow3 hw
    obtain ⟨i, hi, ei⟩ : ∃ i : Nat, i < 3 ∧ G.ow p.1 = (i : Int) := ⟨(G.ow p.1).toNat, by omega, by omega⟩
    have hx : ∃ x ∈ G.L, x.1.n = p.1 ∧ x.1.o = (i : Int) := by
      obtain ⟨x, mx, ex⟩ := hw
      exact ⟨x, mx, ex, by rw [← ei, ← ex]; exact (h.ow_at mx).symm⟩
    have et : (G.ow p.1).toNat = i := by omega
    have hag := hR.ag i hi
    unfold Lt.pv
    rw [ss_if, sat_test, sat_bin, sat_bin, sat_var rfl, sat_c, o_ixT, ixW_0, sat_c, o_eqS, sat_truth, decide_eq_true rfl, if_pos rfl, ss_seq, ss_set, sat_bin, sat_fldi rfl hR.run rfl, sat_bin, sat_var rfl, sat_c, o_ixT, ixW_1]
    refine agents_ix ho ?_
    rw [et, ss_expr, sat_meth_at (l := r) rfl hR.run rfl, sat_cons, sat_callO (l := r + 2 + 2 * i) rfl, sat_cons, sat_var rfl, sat_nil, insOf_at hag]
    show Sat (guardN 2 (nE (m_Agent_call V)) [PV.loc (r + 2 + 2 * i), (Lt.ask (G.ow p.1) p.1).pv] st) _
    rw [guard_sat (n := 2) rfl, ei]
    have hlen := iv.len h (i := (i : Int))
    refine agent_call_ok h hag (hR.dc i hi) hx (iv.ch h) (by omega) ?_
    have hR2 := hR.agt hi (putJ (S.a i) (p.1, G.ch p.1))
    have g1 : Gr (FR r) st (st.set (r + 2 + 2 * i) (agO V i (r + 3 + 2 * i) (putJ (S.a i) (p.1, G.ch p.1)))) := .set (fr_ag hi)
    generalize st.set (r + 2 + 2 * i) (agO V i (r + 3 + 2 * i) (putJ (S.a i) (p.1, G.ch p.1))) = s1 at *
    rw [sat_nil]
    refine ⟨rfl, send_ok hR2.run (by show S.bag.length ≤ _; omega) ?_⟩
    have hR3 := hR2.bag (S.bag ++ [.ans i p.1 (G.ch p.1)])
    refine k _ ?_ (g1.trans (.set (by simp)))
    rw [dl_ask, ei]
    exact hR3
  | ans o m v =>
    obtain ⟨kk, p, hk, hp, rfl, rfl, rfl, hin⟩ := hl
    have hw := h.wr p (List.mem_of_getElem? hp)
    have hpc := h.wp p (List.mem_of_getElem? hp)
    rw [dl_ans] at k
    have e0 : (Lt.ans (G.ow p.1) p.1 p.2).pv = (Lt.ans (G.ow p.1) p.1 (G.ch p.1)).pv := by rw [← hpc]
    rw [e0]
    rw [ss_if, sat_test, sat_bin, sat_bin, sat_var rfl, sat_c]
    show Sat (pIx (.tup [.str "answer", .int (G.ow p.1), .str p.1, .int (G.ch p.1)]) (.int 0) st) _
    rw [o_ixT, ixW_0, sat_c, o_eqS, sat_truth, decide_eq_false (by decide +kernel), if_neg (by simp), ss_if, sat_test, sat_meth_at (eq_fldi rfl hR.run rfl) hR.ref rfl, sat_cons, sat_var rfl, sat_nil]
    refine ⟨rfl, ref_hear_eq h iv.n hR.ref hw (fun hf => ?_) fun hf => ?_⟩
    · rw [if_pos hf] at k
      rw [sat_truth, if_pos rfl, ss_expr]
      have hR2 := hR.num (S.n + 1)
      have hlt : S.n < G.w.length := by
        unfold Gm.fits at hf
        cases hq : G.w[S.n]? with
        | none => rw [hq] at hf; cases hf
        | some q => exact (List.getElem?_eq_some_iff.mp hq).1
      have g1 : Gr (FR r) st (st.set (r + 1) (refO V G (S.n + 1))) := .set (by simp)
      generalize st.set (r + 1) (refO V G (S.n + 1)) = s1 at *
      exact ask_send h hR2 hlt (by show S.bag.length ≤ _; omega) rfl (k _ (hR2.bag _) (g1.trans (.set (by simp))))
    · rw [if_neg (by rw [hf]; simp)] at k
      rw [sat_truth, if_neg (by simp), ss_nil]
      exact k st hR .refl
theorem cut_lo' {xs : List PV} {i : Nat} (h : i ≤ xs.length) : cutP xs none (some (i : Int)) = xs.take i := by
  unfold cutP
  have h1 : HT.sIx xs.length 0 none = 0 := by unfold HT.sIx; first | rfl | simp
  have h2 : HT.sIx xs.length xs.length (some (i : Int)) = i := by
    unfold HT.sIx
    simp; split <;> omega
  rw [h1, h2, List.drop_zero, Nat.sub_zero]
theorem cut_hi' {xs : List PV} {i : Nat} (h : i ≤ xs.length) : cutP xs (some (i : Int)) none = xs.drop i := by
  unfold cutP
  have h1 : HT.sIx xs.length 0 (some (i : Int)) = i := by
    unfold HT.sIx
    simp; split <;> omega
  have h2 : HT.sIx xs.length xs.length none = xs.length := by unfold HT.sIx; first | rfl | simp
  rw [h1, h2, List.take_of_length_le (by simp)]
theorem o_slTt {xs : List PV} {lo hi : Option Int} : Sat (pSl (.tup xs) lo hi st) Q = Q (.tup (cutP xs lo hi)) st := sat_of rfl
/-- run.happen(event) -/
theorem happen_ok (h : G.Ok) (iv : Iv G S B) (hB : B ≤ 100000) {e : Ev} (he : e.Ok) (hR : RunAt V G r S st) (k : ∀ s, RunAt V G r (G.hp S e).1 s → Gr (FR r) st s → Q (.bl (G.hp S e).2) s) : Sat (m_Run_happen V [.loc r, e.pv] st) Q := by
  have hsz := iv.sz
  refine sat_body ?_
  unfold f_Run_happen
  simp only [List.map_cons, List.map_nil, List.length_cons, List.length_nil, Nat.reduceAdd, Nat.reduceSub, List.reduceReplicate, List.cons_append, List.nil_append]
  cases e with
  | restart =>
    unfold Ev.pv
    rw [ss_seq, ss_if, sat_test, sat_bin, sat_bin, sat_var rfl, sat_c, o_ixT, ixW_0, sat_c, o_eqS, sat_truth, decide_eq_true rfl, if_pos rfl, ss_seq, ss_expr]
    refine ask_send h hR iv.n (by omega) rfl ?_
    rw [ss_ret, sat_c]
    exact k _ (hR.bag _) (.set (by simp))
  | ev kind i =>
    have hk1 : kind ≠ "restart" := by rcases he with rfl | rfl | rfl <;> decide +kernel
    unfold Ev.pv
    rw [ss_seq, ss_if, sat_test, sat_bin, sat_bin, sat_var rfl, sat_c, o_ixT, ixW_0, sat_c, o_eqS, sat_truth, decide_eq_false hk1, if_neg (by simp), ss_nil, ss_seq, ss_tg, sat_var rfl]
    refine ⟨_, rfl, ?_⟩
    have hbl : (bagPV S.bag, (((S.bag.map Lt.pv).length : Nat) : Int)) = (bagPV S.bag, ((S.bag.length : Nat) : Int)) := by rw [List.length_map]
    have hno : ∀ (Q : Bool → Store → Prop), Sat ((tNotM (eTest (eChain pLe pLt (eC (.int 0)) (eVar 4) (eArgs (one pLen) (aCons (eFld V.c_Run "bag" (eVar 0)) aNil)))))
        [some (.loc r), some (.tup [.str kind, .int i]), none, some (.str kind), some (.int i)] st) Q = Q (!(decide (0 ≤ i) && decide (i < (S.bag.length : Int)))) st := fun Q => by
      rw [sat_not, sat_test, sat_chain, sat_c, sat_var rfl, o_leI]
      by_cases h0 : 0 ≤ i
      · rw [show (!decide (i < 0)) = true by simpa using h0]
        simp only
        rw [sat_args, sat_cons, sat_fldi rfl hR.run rfl, sat_nil, sat_one, o_lenT, o_ltI, sat_truth, List.length_map, decide_eq_true h0, Bool.true_and]
      · rw [show (!decide (i < 0)) = false by simp; omega]
        simp only
        rw [sat_truth, decide_eq_false h0, Bool.false_and]
    rw [ss_seq, ss_if]
    show Sat ((tNotM (eTest (eChain pLe pLt (eC (.int 0)) (eVar 4) (eArgs (one pLen) (aCons (eFld V.c_Run "bag" (eVar 0)) aNil))))) [some (.loc r), some (.tup [.str kind, .int i]), none, some (.str kind), some (.int i)] st) _
    rw [hno]
    by_cases hin : 0 ≤ i ∧ i < (S.bag.length : Int)
    · rw [decide_eq_true hin.1, decide_eq_true hin.2, Bool.and_self, Bool.not_true, if_neg (by simp), ss_nil]
      obtain ⟨j, rfl⟩ := Int.eq_ofNat_of_zero_le hin.1
      have hj : j < S.bag.length := by omega
      have hget : S.bag[j]? = some S.bag[j] := List.getElem?_eq_getElem hj
      have hjt : ((j : Nat) : Int).toNat = j := by simp
      have hlt := iv.b _ (List.getElem_mem hj)
      have ehp : G.hp S (.ev kind j) = (if kind = "lose" then Gm.cutB S kind j else G.dl (Gm.cutB S kind j) S.bag[j], true) := by
        unfold Gm.hp
        simp only [hjt]
        rw [if_pos (by omega), hget]
      rw [ehp] at k
      rw [ss_seq, ss_set, sat_bin, sat_fldi rfl hR.run rfl, sat_var rfl, o_ixT]
      refine ixW_of (y := (S.bag[j]).pv) (by rw [List.getElem?_map, hget]; rfl) ?_
      generalize hl : S.bag[j] = l at *
      -- the letter is taken out
      refine seq_mid (fun e s => e = [some (.loc r), some (.tup [.str kind, .int j]), some l.pv, some (.str kind), some (.int j)] ∧ RunAt V G r (Gm.cutB S kind j) s ∧ Gr (FR r) st s) ?_ ?_
      · rw [ss_if, sat_test, sat_bin, sat_var rfl, sat_c, o_neS, sat_truth]
        by_cases hc : kind = "copy"
        · rw [decide_eq_true hc, Bool.not_true, if_neg (by simp), ss_nil]
          refine ⟨rfl, ?_, .refl⟩
          unfold Gm.cutB
          rw [if_pos hc]
          exact hR
        · rw [decide_eq_false hc, Bool.not_false, if_pos rfl, ss_fld, sat_bin, sat_sl, sat_fldi rfl hR.run rfl, sat_oNone, sat_oSome, sat_var rfl]
          show Sat (pSl (bagPV S.bag) none (some (j : Int)) st) _
          rw [o_slTt, cut_lo' (by rw [List.length_map]; omega), sat_sl, sat_fldi rfl hR.run rfl, sat_oSome, sat_bin, sat_var rfl, sat_c, o_addI]
          show Sat (oNone _ st) _
          rw [sat_oNone]
          show Sat (pSl (bagPV S.bag) (some ((j : Int) + 1)) none st) _
          rw [o_slTt, show ((j : Int) + 1) = ((j + 1 : Nat) : Int) by omega, cut_hi' (by rw [List.length_map]; omega), o_addT]
          refine ⟨by rw [sizeLine_eq, List.length_take, List.length_drop, List.length_map]; omega, ?_⟩
          rw [sat_var rfl, insOf_at hR.run]
          refine ⟨by simp, rfl, ?_, .set (by simp)⟩
          have e1 : (S.bag.map Lt.pv).take j ++ (S.bag.map Lt.pv).drop (j + 1) = (S.bag.eraseIdx j).map Lt.pv := by
            rw [List.eraseIdx_eq_take_drop_succ, List.map_append, List.map_take, List.map_drop]
          rw [e1]
          unfold Gm.cutB
          rw [if_neg hc]
          exact hR.bag _
      rintro e s1 ⟨rfl, hR1, g1⟩
      rw [ss_seq, ss_if, sat_test, sat_bin, sat_var rfl, sat_c, o_neS, sat_truth]
      by_cases hk : kind = "lose"
      · rw [if_pos hk] at k
        rw [decide_eq_true hk, Bool.not_true, if_neg (by simp), ss_nil, ss_ret, sat_c]
        exact k s1 hR1 g1
      · rw [if_neg hk] at k
        rw [decide_eq_false hk, Bool.not_false, if_pos rfl, ss_expr, sat_meth_at (l := r) rfl hR1.run rfl, sat_cons, sat_var rfl, sat_nil]
        refine ⟨rfl, deliver_ok h (iv_cut iv) hB (ltok_cut hlt) hR1 fun s2 hR2 g2 => ?_⟩
        rw [ss_ret, sat_c]
        exact k s2 hR2 (g1.trans g2)
    · have e1 : (decide (0 ≤ i) && decide (i < (S.bag.length : Int))) = false := by
        cases h1 : decide (0 ≤ i) with
        | false => rfl
        | true =>
          cases h2 : decide (i < (S.bag.length : Int)) with
          | false => rfl
          | true => exact (hin ⟨of_decide_eq_true h1, of_decide_eq_true h2⟩).elim
      have ehp : G.hp S (.ev kind i) = (S, false) := by
        unfold Gm.hp
        simp only
        have : (if 0 ≤ i then S.bag[i.toNat]? else none) = none := by
          by_cases h0 : 0 ≤ i
          · rw [if_pos h0]
            exact List.getElem?_eq_none (by
              have : ¬ i < (S.bag.length : Int) := fun z => hin ⟨h0, z⟩
              omega)
          · rw [if_neg h0]
        rw [this]
      rw [ehp] at k
      rw [e1, Bool.not_false, if_pos rfl, ss_ret, sat_c]
      exact k st hR .refl
end
end PL
/-! PL, part MJ: runs made, looked at, finished, saved, played. -/
namespace PL
open PySem PySem.Spec PyProof.Rows L2
section
variable {V : Fv} {G : Gm} {S : RS} {B r : Nat} {st s : Store} {Q : PV → Store → Prop}
theorem record_eq (hR : RunAt V G r S st) : m_Run_record V [.loc r] st = .ok (jPV (G.w.take S.n)) st := by
  refine det fun Q q => sat_body ?_
  unfold f_Run_record
  simp only [List.map_cons, List.map_nil, List.length_cons, List.length_nil, Nat.reduceAdd, Nat.reduceSub, List.reduceReplicate, List.cons_append, List.nil_append]
  rw [ss_ret, sat_fld (eq_fldi rfl hR.run rfl) hR.ref rfl]
  exact q
theorem ending_eq (h : G.Ok) (hn : S.n ≤ G.w.length) (hR : RunAt V G r S st) : m_Run_ending V [.loc r] st = .ok (endPV G S.n) st := by
  refine det fun Q q => sat_body ?_
  unfold f_Run_ending
  simp only [List.map_cons, List.map_nil, List.length_cons, List.length_nil, Nat.reduceAdd, Nat.reduceSub, List.reduceReplicate, List.cons_append, List.nil_append]
  rw [ss_ret, sat_prop_at (eq_fldi rfl hR.run rfl) hR.ref, ref_ending_eq h hn hR.ref, sat_ok]
  exact q
theorem view_eq {i : Nat} (hi : i < 3) (hl : (S.a i).length ≤ 1000) (hR : RunAt V G r S st) : m_Run_view V [.loc r, .int i] st = .ok (.tup ((S.a i).map fun p => .str p.1)) st := by
  refine det fun Q q => sat_body ?_
  unfold f_Run_view
  simp only [List.map_cons, List.map_nil, List.length_cons, List.length_nil, Nat.reduceAdd, Nat.reduceSub, List.reduceReplicate, List.cons_append, List.nil_append]
  rw [ss_seq, ss_set, sat_bin, sat_fldi rfl hR.run rfl, sat_var rfl]
  refine agents_ix (by omega) ?_
  have et : ((i : Nat) : Int).toNat = i := by simp
  rw [et, ss_ret, sat_args, sat_cons, sat_comp, sat_iVal, sat_fldi rfl (hR.ag i hi) rfl, o_itT]
  refine comp_map (as := S.a i) (f := prPV) (g := fun p => .str p.1) (by simp [wipeP]) (by omega) (fun p _ => det fun Q k => by
    rw [sat_bin, sat_var (v := prPV p) (by simp [wipeP]), sat_c]
    show Sat (pIx (.tup [.str p.1, .int p.2]) (.int 0) st) Q
    rw [o_ixT, ixW_0]; exact k) ?_ _ trivial
  rw [o_finF, sat_nil, sat_one, o_tupL]
  exact q
/-- run.saved() -/
def savPV (G : Gm) (S : RS) : PV := .tup [jPV (G.w.take S.n), .tup [jPV (S.a 0), jPV (S.a 1), jPV (S.a 2)]]
theorem saved_eq (hR : RunAt V G r S st) : m_Run_saved V [.loc r] st = .ok (savPV G S) st := by
  refine det fun Q q => sat_body ?_
  unfold f_Run_saved
  simp only [List.map_cons, List.map_nil, List.length_cons, List.length_nil, Nat.reduceAdd, Nat.reduceSub, List.reduceReplicate, List.cons_append, List.nil_append]
  rw [ss_ret, sat_args, sat_cons, sat_fld (eq_fldi rfl hR.run rfl) hR.ref rfl, sat_cons, sat_args, sat_cons, sat_comp, sat_iVal, sat_fldi rfl hR.run rfl, o_itT]
  have e : [PV.loc (r + 2), .loc (r + 4), .loc (r + 6)] = ([0, 1, 2] : List Nat).map fun i => PV.loc (r + 2 + 2 * i) := rfl
  rw [e]
  refine comp_map (as := [0, 1, 2]) (f := fun i => PV.loc (r + 2 + 2 * i)) (g := fun i => jPV (S.a i)) (by simp [wipeP]) (by decide) (fun i mi => ?_) ?_ _ trivial
  · have hi : i < 3 := by simp only [List.mem_cons, List.not_mem_nil, or_false] at mi; omega
    exact eq_fldi (by simp [wipeP]) (hR.ag i hi) rfl
  · rw [o_finF, sat_nil, sat_one, o_tupL, sat_nil, sat_tup]
    exact ⟨sl2, q⟩
/-! ### finish -/
theorem F_stop {i : Int} {n : Nat} (hn : G.w[n]? = none) : G.F i (n + 1) = G.F i n := by rw [F_succ, hn]; simp
theorem fin_at (iv : Iv G S B) (hR : RunAt V G r S st) (e : S.n = G.w.length) : RunAt V G r (S.fin G) st := by
  have ha : ∀ i, S.a i = G.F i G.w.length := fun i => by
    have hnone : G.w[S.n]? = none := List.getElem?_eq_none (by omega)
    rcases iv.a i with z | z
    · rw [z, e]
    · rw [z, F_stop hnone, e]
  refine ⟨hR.run, ?_, fun i hi => ?_, hR.dc⟩
  · have := hR.ref; rw [e] at this; exact this
  · have := hR.ag i hi; rw [ha] at this; exact this
theorem fin_loop (h : G.Ok) {N : PEnv → Store → Prop} {R : PV → Store → Prop} : ∀ (d : Nat) (S : RS) (st : Store) (m : Nat) (x y : Option PV), G.w.length - S.n = d → d < m → Iv G S B → RunAt V G r S st →
    (∀ x y s, RunAt V G r (S.fin G) s → Gr (FR r) st s → N [some (.loc r), x, y] s) →
    SatS ((sWhileL (eTest (eBin pIs (ePropO V.c_Run (m_Run_ending V) (eVar 0)) (eC .non)))
    (sSeq (sSet 1 (eMethO V.c_Referee "ask" 1 (m_Referee_ask V) (eFld V.c_Run "_referee" (eVar 0)) aNil))
    (sSeq (sSet 2 (eBin pIx (eFld V.c_Run "_agents" (eVar 0)) (eBin pIx (eVar 1) (eC (.int 1)))))
    (sExpr (eMethO V.c_Referee "hear" 2 (m_Referee_hear V) (eFld V.c_Run "_referee" (eVar 0)) (aCons (eCallO V.c_Agent 2 (m_Agent_call V) (eVar 2) (aCons (eVar 1) aNil)) aNil))))) m) [some (.loc r), x, y] st) N R := by
  intro d
  induction d with
  | zero =>
    intro S st m x y hd hm iv hR k
    obtain ⟨m, rfl⟩ : ∃ m', m = m' + 1 := ⟨m - 1, by omega⟩
    have en : S.n = G.w.length := by have := iv.n; omega
    refine ss_while ?_
    rw [sat_test, sat_bin, sat_prop_at (l := r) rfl hR.run, ending_eq h iv.n hR, sat_ok, sat_c]
    unfold endPV
    rw [if_pos en, o_isS, sat_truth, if_neg (by simp)]
    exact k _ _ _ (fin_at iv hR en) .refl
  | succ d ih =>
    intro S st m x y hd hm iv hR k
    obtain ⟨m, rfl⟩ : ∃ m', m = m' + 1 := ⟨m - 1, by omega⟩
    have hlt : S.n < G.w.length := by omega
    obtain ⟨p, hp⟩ : ∃ p, G.w[S.n]? = some p := ⟨_, List.getElem?_eq_getElem hlt⟩
    have hpc := h.wp p (List.mem_of_getElem? hp)
    have hw := h.wr p (List.mem_of_getElem? hp)
    have ho := h.ow3 hw
    obtain ⟨i, hi, ei⟩ : ∃ i : Nat, i < 3 ∧ G.ow p.1 = (i : Int) := ⟨(G.ow p.1).toNat, by omega, by omega⟩
    have et : (G.ow p.1).toNat = i := by omega
    have hx : ∃ x ∈ G.L, x.1.n = p.1 ∧ x.1.o = (i : Int) := by
      obtain ⟨x, mx, ex⟩ := hw
      exact ⟨x, mx, ex, by rw [← ei, ← ex]; exact (h.ow_at mx).symm⟩
    have hag := hR.ag i hi
    have eask : askPV G S.n = (Lt.ask (G.ow p.1) p.1).pv := by unfold askPV; rw [hp]
    refine ss_while ?_
    rw [sat_test, sat_bin, sat_prop_at (l := r) rfl hR.run, ending_eq h iv.n hR, sat_ok, sat_c]
    unfold endPV
    rw [if_neg (by omega), o_isN, sat_truth, if_pos rfl]
    rw [ss_seq, ss_set, sat_meth_at (eq_fldi rfl hR.run rfl) hR.ref rfl, sat_nil]
    refine ⟨rfl, ?_⟩
    rw [ref_ask_eq h iv.n hR.ref, sat_ok, eask]
    rw [ss_seq, ss_set, sat_bin, sat_fldi rfl hR.run rfl, sat_bin, sat_var (v := .tup [.str "ask", .int (G.ow p.1), .str p.1]) rfl, sat_c, o_ixT, ixW_1]
    refine agents_ix ho ?_
    rw [et, ss_expr, sat_meth_at (eq_fldi rfl hR.run rfl) hR.ref rfl, sat_cons, sat_callO (l := r + 2 + 2 * i) rfl, sat_cons, sat_var (v := (Lt.ask (G.ow p.1) p.1).pv) rfl, sat_nil, insOf_at hag]
    show Sat (guardN 2 (nE (m_Agent_call V)) [PV.loc (r + 2 + 2 * i), (Lt.ask (G.ow p.1) p.1).pv] st) _
    rw [guard_sat (n := 2) rfl, ei]
    have hlen := iv.len h (i := (i : Int))
    refine agent_call_ok h hag (hR.dc i hi) hx (iv.ch h) (by omega) ?_
    have hR2 := hR.agt hi (putJ (S.a i) (p.1, G.ch p.1))
    have g1 : Gr (FR r) st (st.set (r + 2 + 2 * i) (agO V i (r + 3 + 2 * i) (putJ (S.a i) (p.1, G.ch p.1)))) := .set (fr_ag hi)
    generalize st.set (r + 2 + 2 * i) (agO V i (r + 3 + 2 * i) (putJ (S.a i) (p.1, G.ch p.1))) = s1 at *
    rw [sat_nil]
    refine ⟨rfl, ?_⟩
    rw [← ei]
    have hfit : G.fits S.n p.1 = true := by unfold Gm.fits; rw [hp]; simp
    refine ref_hear_eq h iv.n hR2.ref hw (fun _ => ?_) fun hf => by rw [hfit] at hf; cases hf
    have hR3 := hR2.num (S.n + 1)
    have g2 : Gr (FR r) s1 (s1.set (r + 1) (refO V G (S.n + 1))) := .set (by simp)
    generalize s1.set (r + 1) (refO V G (S.n + 1)) = s2 at *
    -- the state behind the turn
    have iv2 := iv_ask h iv (o := G.ow p.1) (m := p.1) ⟨S.n, p, Nat.le_refl _, hp, rfl, rfl⟩
    have iv3 := iv_ans h iv2 (o := G.ow p.1) (m := p.1) (v := p.2) ⟨S.n, p, Nat.le_refl _, hp, rfl, rfl, rfl, by
      show p ∈ (if G.ow p.1 = G.ow p.1 then putJ (S.a (G.ow p.1)) (p.1, G.ch p.1) else _)
      rw [if_pos rfl, ← hpc]
      unfold putJ
      by_cases hm : (p.1, p.2) ∈ S.a (G.ow p.1)
      · rw [if_pos hm]; exact hm
      · rw [if_neg hm]; simp⟩
    rw [dl_ans] at iv3
    have e4 : (G.dl S (.ask (G.ow p.1) p.1)).n = S.n := rfl
    rw [e4, if_pos hfit] at iv3
    have iv4 : Iv G { n := S.n + 1, a := fun o => if o = (i : Int) then putJ (S.a i) (p.1, G.ch p.1) else S.a o, bag := S.bag } B := by
      refine ⟨iv3.n, fun j => ?_, fun l m => ?_, iv.sz⟩
      · have := iv3.a j
        rw [← ei]
        exact this
      · have := iv3.b l (List.mem_append.mpr (.inl (List.mem_append.mpr (.inl m))))
        cases l with
        | ask o' m' => exact this
        | ans o' m' v' =>
          obtain ⟨k', p', a1, a2, a3, a4, a5, a6⟩ := this
          refine ⟨k', p', a1, a2, a3, a4, a5, ?_⟩
          show p' ∈ (if o' = (i : Int) then putJ (S.a i) (p.1, G.ch p.1) else S.a o')
          rw [← ei]
          exact a6
    exact ih { n := S.n + 1, a := fun o => if o = (i : Int) then putJ (S.a i) (p.1, G.ch p.1) else S.a o, bag := S.bag } s2 m _ _ (by show G.w.length - (S.n + 1) = d; omega) (by omega) iv4 hR3
      fun x y s hRs gs => k x y s hRs ((g1.trans g2).trans gs)
theorem finish_ok (h : G.Ok) (iv : Iv G S B) (hR : RunAt V G r S st) (k : ∀ s, RunAt V G r (S.fin G) s → Gr (FR r) st s → Q (.str G.z) s) : Sat (m_Run_finish V [.loc r] st) Q := by
  have hwl := h.wl
  refine sat_body ?_
  unfold f_Run_finish
  simp only [List.map_cons, List.map_nil, List.length_cons, List.length_nil, Nat.reduceAdd, Nat.reduceSub, List.reduceReplicate, List.cons_append, List.nil_append]
  rw [ss_seq]
  refine fin_loop h (G.w.length - S.n) S st 1000 none none rfl (by omega) iv hR fun x y s hRs gs => ?_
  have iv2 := iv_fin h iv
  rw [ss_ret, sat_prop_at (l := r) rfl hRs.run, ending_eq h iv2.n hRs, sat_ok]
  have : endPV G (S.fin G).n = .str G.z := if_pos rfl
  rw [this]
  exact k s hRs gs
/-! ### a new run -/
structure Gm.P (G : Gm) (pl : Int → List Int) : Prop where
  ch : ChOk G.rs pl G.L
  pk : ∀ o, 0 ≤ o → o ≤ 2 → PlanOk o G.rs (pl o)
abbrev profPV (pl : Int → List Int) : PV := .tup [.tup (ints' (pl 0)), .tup (ints' (pl 1)), .tup (ints' (pl 2))]
theorem sets_of_eq {o : Int} (h : G.Ok) : m_sets_of [G.pv, .int o] st = .ok (.tup ((own o G.rs).map fun r => .str r.n)) st := by
  refine det fun Q q => sat_body ?_
  unfold f_sets_of Gm.pv
  simp only [List.map_cons, List.map_nil, List.length_cons, List.length_nil, Nat.reduceAdd, Nat.reduceSub, List.reduceReplicate, List.cons_append, List.nil_append]
  have hlen := h.len
  rw [ss_ret, sat_args, sat_cons, sat_comp, sat_iVal, sat_bin, sat_var rfl, sat_c, o_ixT, ixW_0, o_itT]
  refine comp_filt (as := G.rs) (f := Row.pv) (g := fun r => .str r.n) (p := fun r => decide (r.o = o)) (by simp [wipeP]) (by omega) (fun r _ => det fun Q k => by
    rw [sat_test, sat_bin, sat_bin, sat_var (v := r.pv) (by simp [wipeP]), sat_c, row_ix1, sat_var (v := .int o) (by simp [wipeP]), o_eqI, sat_truth]; exact k) (fun r _ _ => det fun Q k => by
    rw [sat_bin, sat_var (v := r.pv) (by simp [wipeP]), sat_c, row_ix0]; exact k) ?_ _ trivial
  rw [o_finF, sat_nil, sat_one, o_tupL]
  exact q
theorem keysOf_strs : ∀ us : List Str, keysOf (us.map .str) = some (us.map Sum.inr)
  | [] => rfl
  | u :: us => by
    rw [List.map_cons, keysOf, keysOf_strs us]
    rfl
theorem zip_own {pl : Int → List Int} (h : G.Ok) (hP : G.P pl) {o : Int} (h0 : 0 ≤ o) (h2 : o ≤ 2) : ((own o G.rs).map fun r => (Sum.inr r.n : Key)).zip (ints' (pl o)) = (ownM o G.L).map rmKv := by
  have e1 : (ownM o G.L).map (·.1) = own o G.rs := by rw [ownM_rows, hP.ch.rows]
  have e2 : (ownM o G.L).map (·.2) = pl o := by
    rw [hP.ch.mv, List.take_of_length_le]
    rw [(hP.pk o h0 h2).len, ← e1, List.length_map]
    exact Nat.le_refl _
  rw [← e1, ← e2]
  generalize ownM o G.L = L
  induction L with
  | nil => rfl
  | cons x L ih =>
    show (Sum.inr x.1.n, PV.int x.2) :: (((L.map (·.1)).map fun r => (Sum.inr r.n : Key)).zip (ints' (L.map (·.2)))) = _
    rw [ih]
    rfl
theorem choice_of_ok {pl : Int → List Int} (h : G.Ok) (hP : G.P pl) {o : Int} (h0 : 0 ≤ o) (h2 : o ≤ 2) (q : Q (.loc st.length) (st ++ [.dic ((ownM o G.L).map rmKv)])) : Sat (m_choice_of [G.pv, .int o, .tup (ints' (pl o))] st) Q := by
  refine sat_body ?_
  unfold f_choice_of
  simp only [List.map_cons, List.map_nil, List.length_cons, List.length_nil, Nat.reduceAdd, Nat.reduceSub, List.reduceReplicate, List.cons_append, List.nil_append]
  rw [ss_ret, sat_args, sat_cons, sat_call, sat_cons, sat_var rfl, sat_cons, sat_var rfl, sat_nil, sets_of_eq h, sat_ok]
  refine ⟨rfl, ?_⟩
  rw [sat_cons, sat_var rfl, sat_nil]
  have ek : keysOf ((own o G.rs).map fun r => PV.str r.n) = some ((own o G.rs).map fun r => Sum.inr r.n) := by
    have e1 : ((own o G.rs).map fun r => PV.str r.n) = ((own o G.rs).map (·.n)).map PV.str := by rw [List.map_map]; rfl
    rw [e1, keysOf_strs, List.map_map]; rfl
  have e3 : pDictZip [.tup ((own o G.rs).map fun r => .str r.n), .tup (ints' (pl o))] st = .ok (.loc st.length) (st ++ [.dic ((ownM o G.L).map rmKv)]) := by
    have hnd : (((ownM o G.L).map rmKv).map (·.1)).Nodup := kv_nd (List.Nodup.sublist (((List.filter_sublist).map _).map _) h.nd)
    unfold pDictZip
    simp only [ek]
    rw [zip_own h hP h0 h2, dmerge_nd _ [] (by rw [List.nil_append]; exact hnd), List.nil_append]
  rw [e3, sat_ok]
  exact q
theorem putFP_len {f : Str} {v : PV} : ∀ fs : List (Str × PV), (putFP f v fs).length ≤ fs.length + 1
  | [] => Nat.le_refl _
  | (g, x) :: r => by
    unfold putFP
    have := putFP_len (f := f) (v := v) r
    split <;> simp <;> omega
theorem few1 {f : Str} {v : PV} : (putFP f v []).length < 1000 := Nat.lt_of_le_of_lt (putFP_len []) (by decide)
theorem few2 {f g : Str} {v w : PV} : (putFP g w (putFP f v [])).length < 1000 := by
  have h1 := putFP_len (f := f) (v := v) []
  have h2 := putFP_len (f := g) (v := w) (putFP f v [])
  simp only [List.length_nil] at h1
  omega
theorem agent_init_ok {pl : Int → List Int} (h : G.Ok) (hP : G.P pl) {o : Int} (h0 : 0 ≤ o) (h2 : o ≤ 2) (q : Q .non (st ++ [agO V o (st.length + 1) []] ++ [.dic ((ownM o G.L).map rmKv)])) :
    Sat (m_Agent_init V [.loc st.length, G.pv, .int o, .tup (ints' (pl o))] (st ++ [.ins V.c_Agent []])) Q := by
  refine sat_body ?_
  unfold f_Agent_init
  simp only [List.map_cons, List.map_nil, List.length_cons, List.length_nil, Nat.reduceAdd, Nat.reduceSub, List.reduceReplicate, List.cons_append, List.nil_append]
  have a0 : (st ++ [PO.ins V.c_Agent []])[st.length]? = some (.ins V.c_Agent []) := by simp
  have s1 : ∀ a b : PO, (st ++ [a]).set st.length b = st ++ [b] := fun a b => by rw [List.set_append_right _ _ (Nat.le_refl _)]; simp
  rw [ss_seq, ss_fld, sat_var rfl, sat_var rfl, insOf_at a0]
  refine ⟨by simp, ?_⟩
  rw [s1]
  have a1 : (st ++ [PO.ins V.c_Agent (putFP "_owner" (.int o) [])])[st.length]? = some (.ins V.c_Agent (putFP "_owner" (.int o) [])) := by simp
  rw [ss_seq, ss_fld, sat_call, sat_cons, sat_var rfl, sat_cons, sat_var rfl, sat_cons, sat_var rfl, sat_nil]
  refine ⟨rfl, choice_of_ok h hP h0 h2 ?_⟩
  have e1 : (st ++ [PO.ins V.c_Agent (putFP "_owner" (.int o) [])]).length = st.length + 1 := by simp
  rw [e1, sat_var rfl]
  have a2 : (st ++ [PO.ins V.c_Agent (putFP "_owner" (.int o) [])] ++ [PO.dic ((ownM o G.L).map rmKv)])[st.length]? = some (.ins V.c_Agent (putFP "_owner" (.int o) [])) := by
    rw [List.getElem?_append_left (by simp)]; exact a1
  rw [insOf_at a2]
  refine ⟨few1, ?_⟩
  have s2 : ∀ a b d : PO, (st ++ [a] ++ [d]).set st.length b = st ++ [b] ++ [d] := fun a b d => by
    rw [List.append_assoc, List.set_append_right _ _ (Nat.le_refl _), List.append_assoc]; simp
  rw [s2, ss_fld, sat_args, sat_nil, sat_tup]
  refine ⟨sl0, ?_⟩
  rw [sat_var rfl]
  have a3 : (st ++ [PO.ins V.c_Agent (putFP "_moves" (.loc (st.length + 1)) (putFP "_owner" (.int o) []))] ++ [PO.dic ((ownM o G.L).map rmKv)])[st.length]? = some (.ins V.c_Agent (putFP "_moves" (.loc (st.length + 1)) (putFP "_owner" (.int o) []))) := by
    rw [List.getElem?_append_left (by simp)]; simp
  rw [insOf_at a3]
  refine ⟨few2, ?_⟩
  rw [s2]
  exact q
theorem make_run_ok {pl : Int → List Int} (h : G.Ok) (hP : G.P pl) (k : ∀ s, RunAt V G st.length (RS.new G) s → Gr [] st s → st.length + 8 ≤ s.length → Q (.loc st.length) s) {env : PEnv} {f1 f2 : EM} (e1 : f1 env st = .ok G.pv st) (e2 : f2 env st = .ok (profPV pl) st) :
    Sat (eMake V.c_Run 3 (m_Run_init V) (aCons f1 (aCons f2 aNil)) env st) Q := by
  rw [sat_make, sat_cons, e1, sat_ok, sat_cons, e2, sat_ok, sat_nil]
  refine ⟨rfl, sat_body ?_⟩
  unfold f_Run_init
  simp only [List.map_cons, List.map_nil, List.length_cons, List.length_nil, Nat.reduceAdd, Nat.reduceSub, List.reduceReplicate, List.cons_append, List.nil_append]
  have a0 : (st ++ [PO.ins V.c_Run []])[st.length]? = some (.ins V.c_Run []) := by simp
  have g0 : Gr [] st (st ++ [PO.ins V.c_Run []]) := .app
  have l0 : (st ++ [PO.ins V.c_Run []]).length = st.length + 1 := by simp
  generalize hr : st.length = r at *
  generalize st ++ [PO.ins V.c_Run []] = s0 at *
  -- the referee
  rw [ss_seq, ss_fld, sat_make, sat_cons, sat_var rfl, sat_nil]
  refine ⟨rfl, sat_body ?_⟩
  unfold f_Referee_init
  simp only [List.map_cons, List.map_nil, List.length_cons, List.length_nil, Nat.reduceAdd, Nat.reduceSub, List.reduceReplicate, List.cons_append, List.nil_append]
  have s1 : ∀ a b : PO, (s0 ++ [a]).set s0.length b = s0 ++ [b] := fun a b => by rw [List.set_append_right _ _ (Nat.le_refl _)]; simp
  have b0 : ∀ a : PO, (s0 ++ [a])[s0.length]? = some a := fun a => by simp
  rw [ss_seq, ss_fld, sat_var rfl, sat_var rfl, insOf_at (b0 _)]
  refine ⟨by simp, ?_⟩
  rw [s1, ss_fld, sat_args, sat_nil, sat_tup]
  refine ⟨sl0, ?_⟩
  rw [sat_var rfl, insOf_at (b0 _)]
  refine ⟨few1, ?_⟩
  rw [s1]
  refine ⟨by first | rfl | trivial, ?_⟩
  have e3 : PO.ins V.c_Referee (putFP "journal" (PV.tup []) (putFP "_game" G.pv [])) = refO V G 0 := rfl
  rw [e3, sat_var rfl]
  have g1 : Gr [] s0 (s0 ++ [refO V G 0]) := .app
  have a1 := g1.at' a0 (by simp)
  have b1 : (s0 ++ [refO V G 0])[r + 1]? = some (refO V G 0) := by rw [← l0]; simp
  have l1 : (s0 ++ [refO V G 0]).length = r + 2 := by simp [l0]
  rw [l0]
  generalize s0 ++ [refO V G 0] = s1' at *
  rw [insOf_at a1]
  refine ⟨by simp, ?_⟩
  have g2 : Gr [r] s1' (s1'.set r (.ins V.c_Run [("_referee", .loc (r + 1))])) := .set (by simp)
  have a2 : (s1'.set r (.ins V.c_Run [("_referee", .loc (r + 1))]))[r]? = some (.ins V.c_Run [("_referee", .loc (r + 1))]) := List.getElem?_set_self (by omega)
  have b2 := g2.at' b1 (by simp)
  have l2 : (s1'.set r (.ins V.c_Run [("_referee", .loc (r + 1))])).length = r + 2 := by rw [List.length_set, l1]
  show SatS _ _ _
  rw [show putFP "_referee" (PV.loc (r + 1)) [] = ([("_referee", PV.loc (r + 1))] : List (Str × PV)) from rfl]
  generalize s1'.set r (.ins V.c_Run [("_referee", .loc (r + 1))]) = s2 at *
  -- the agents
  rw [ss_seq, ss_fld, sat_args, sat_cons, sat_comp, sat_iRange1, sat_c, o_rng]
  refine ⟨by decide, ?_⟩
  refine comp_inv (k := 0) (fun i acc s => i ≤ 3 ∧ acc = (List.range i).map (fun j => PV.loc (r + 2 + 2 * j)) ∧ s.length = r + 2 + 2 * i ∧ (∀ j, j < i → s[r + 2 + 2 * j]? = some (agO V j (r + 3 + 2 * j) []) ∧ s[r + 3 + 2 * j]? = some (.dic ((ownM j G.L).map rmKv))) ∧ Gr [] s2 s)
    ⟨by omega, rfl, l2, fun j hj => absurd hj (Nat.not_lt_zero _), .refl⟩ ?_ ?_
  · rintro i v s acc hv ⟨_, rfl, hls, hj, gs⟩
    rw [Nat.zero_add] at hls hj ⊢
    obtain ⟨hi, rfl⟩ := rngs_get hv
    have hi : i < 3 := hi
    refine ⟨_, rfl, ?_⟩
    rw [sat_yes, if_pos rfl, sat_make, sat_cons, sat_var (v := G.pv) (by simp [wipeP]), sat_cons, sat_var (v := .int (0 + (i : Int))) (by simp [wipeP]), sat_cons, sat_bin, sat_var (v := profPV pl) (by simp [wipeP]), sat_var (v := .int (0 + (i : Int))) (by simp [wipeP]), Int.zero_add]
    refine ix3 (by omega) fun y h0 h1 h2 => ?_
    have hy : y = .tup (ints' (pl i)) := by
      rcases (show i = 0 ∨ i = 1 ∨ i = 2 by omega) with e | e | e
      · rw [h0 (by omega), e]; rfl
      · rw [h1 (by omega), e]; rfl
      · rw [h2 (by omega), e]; rfl
    subst hy
    rw [sat_nil]
    refine ⟨rfl, agent_init_ok h hP (by omega) (by omega) ⟨rfl, by rw [sizeLine_eq]; simp; omega, by omega, ?_, by simp [hls]; omega, fun j hj2 => ?_, gs.trans (by rw [List.append_assoc]; exact .app)⟩⟩
    · rw [List.range_succ, List.map_append, hls]; rfl
    · have g4 : Gr [] s (s ++ [agO V i (s.length + 1) []] ++ [PO.dic ((ownM i G.L).map rmKv)]) := by rw [List.append_assoc]; exact .app
      by_cases e : j = i
      · subst e
        refine ⟨?_, ?_⟩
        · rw [← hls, List.getElem?_append_left (by simp)]
          simp [hls]
          omega
        · rw [List.getElem?_append_right (by simp [hls]; omega)]
          simp only [List.length_append, List.length_singleton, hls]
          rw [show r + 3 + 2 * j - (r + 2 + 2 * j + 1) = 0 by omega]
          rfl
      · obtain ⟨z1, z2⟩ := hj j (by omega)
        exact ⟨g4.at' z1 (by simp), g4.at' z2 (by simp)⟩
  · rintro acc s ⟨_, rfl, hls, hj, gs⟩
    rw [Nat.zero_add, rngs_len] at hls hj ⊢
    have h3 : (3 : Int).toNat = 3 := rfl
    rw [h3] at hls hj ⊢
    rw [o_finF, sat_nil, sat_one, o_tupL, sat_var rfl]
    have a3 := gs.at' a2 (by simp)
    have b3 := gs.at' b2 (by simp)
    rw [insOf_at a3]
    refine ⟨by simp, ?_⟩
    have e5 : PO.ins V.c_Run (putFP "_agents" (PV.tup ((List.range 3).map fun j => PV.loc (r + 2 + 2 * j))) [("_referee", PV.loc (r + 1))]) = .ins V.c_Run [("_referee", .loc (r + 1)), ("_agents", .tup [.loc (r + 2), .loc (r + 4), .loc (r + 6)])] := rfl
    rw [e5, ss_seq, ss_fld, sat_args, sat_nil, sat_tup]
    refine ⟨sl0, ?_⟩
    rw [sat_var rfl, insOf_at (List.getElem?_set_self (lt_of_some a3))]
    refine ⟨by simp, ?_⟩
    have e6 : PO.ins V.c_Run (putFP "bag" (PV.tup []) [("_referee", .loc (r + 1)), ("_agents", .tup [.loc (r + 2), .loc (r + 4), .loc (r + 6)])]) = runO V r [] := rfl
    rw [e6, List.set_set]
    have hR : RunAt V G r ⟨0, fun _ => [], []⟩ (s.set r (runO V r [])) := by
      refine ⟨List.getElem?_set_self (lt_of_some a3), ?_, fun i hi => ?_, fun i hi => ?_⟩
      · rw [List.getElem?_set_ne (by omega)]; exact b3
      · rw [List.getElem?_set_ne (by omega)]; exact (hj i hi).1
      · rw [List.getElem?_set_ne (by omega)]; exact (hj i hi).2
    have g5 : Gr [r] s (s.set r (runO V r [])) := .set (by simp)
    have l5 : (s.set r (runO V r [])).length = r + 8 := by rw [List.length_set, hls]
    generalize s.set r (runO V r []) = s5 at *
    rw [ss_expr]
    refine ask_send h hR (Nat.zero_le _) (Nat.zero_le _) rfl ⟨by first | rfl | trivial, k _ (hR.bag _) ?_ (by rw [List.length_set, l5]; exact Nat.le_refl _)⟩
    refine Gr.cut (L := [r]) ((g0.mono (by simp)).trans ((g1.mono (by simp)).trans (g2.trans ((gs.mono (by simp)).trans (g5.trans (.set (by simp))))))) fun j mj hj2 => ?_
    rw [List.mem_singleton.mp mj, hr] at hj2
    exact absurd hj2 (Nat.lt_irrefl _)
end
end PL
/-! PL, part MK: runs resumed, runs played. -/
namespace PL
open PySem PySem.Spec PyProof.Rows L2
section
variable {V : Fv} {G : Gm} {S : RS} {B r : Nat} {st s : Store} {Q : PV → Store → Prop}
/-- a run takes journals over -/
theorem restore_ok (h : G.Ok) {S0 : RS} (hn : S.n ≤ G.w.length) (hR : RunAt V G r S0 st) (k : ∀ s, RunAt V G r (S.back G) s → Gr (FR r) st s → Q .non s) : Sat (m_Run_restore V [.loc r, savPV G S] st) Q := by
  refine sat_body ?_
  unfold f_Run_restore savPV
  simp only [List.map_cons, List.map_nil, List.length_cons, List.length_nil, Nat.reduceAdd, Nat.reduceSub, List.reduceReplicate, List.cons_append, List.nil_append]
  rw [ss_seq, ss_set, sat_fldi rfl hR.run rfl, ss_seq, ss_fld, sat_bin, sat_var rfl, sat_c, o_ixT, ixW_0, sat_var rfl, insOf_at hR.ref]
  refine ⟨by simp, ?_⟩
  have hR1 := hR.num S.n
  have g1 : Gr (FR r) st (st.set (r + 1) (refO V G S.n)) := .set (by simp)
  have e1 : PO.ins V.c_Referee (putFP "journal" (jPV (G.w.take S.n)) [("_game", G.pv), ("journal", jPV (G.w.take S0.n))]) = refO V G S.n := rfl
  rw [e1]
  generalize st.set (r + 1) (refO V G S.n) = s1 at *
  rw [ss_seq, ss_for]
  have ez : iZip (eFld V.c_Run "_agents" (eVar 0)) (eBin pIx (eVar 1) (eC (.int 1))) [some (.loc r), some (.tup [jPV (G.w.take S.n), .tup [jPV (S.a 0), jPV (S.a 1), jPV (S.a 2)]]), some (.loc (r + 1)), none, none] s1 =
      .ok ⟨([0, 1, 2] : List Nat).map fun i => PV.tup [.loc (r + 2 + 2 * i), jPV (S.a i)], none⟩ s1 := by
    refine det fun Q q => ?_
    unfold iZip
    rw [sat_bind, sat_cons, sat_fldi rfl hR1.run rfl, sat_cons, sat_bin, sat_var rfl, sat_c, o_ixT, ixW_1, sat_nil]
    exact (sat_of (show pZip _ s1 = .ok _ s1 from rfl)).mpr q
  rw [show ([some (PV.loc r), some (.tup [jPV (G.w.take S.n), .tup [jPV (S.a 0), jPV (S.a 1), jPV (S.a 2)]]), none, none, none] : PEnv).set 2 (some (.loc (r + 1))) = [some (.loc r), some (.tup [jPV (G.w.take S.n), .tup [jPV (S.a 0), jPV (S.a 1), jPV (S.a 2)]]), some (.loc (r + 1)), none, none] from rfl, ez, sat_ok]
  refine for_invN (k := 0) (fun i e s => ∃ x y : Option PV, e = [some (.loc r), some (.tup [jPV (G.w.take S.n), .tup [jPV (S.a 0), jPV (S.a 1), jPV (S.a 2)]]), some (.loc (r + 1)), x, y] ∧ RunAt V G r { n := S.n, a := fun o => if 0 ≤ o ∧ o < i then S.a o else S0.a o, bag := S0.bag } s ∧ Gr (FR r) st s)
    ⟨none, none, rfl, ⟨hR1.run, hR1.ref, fun i hi => by
      show s1[r + 2 + 2 * i]? = some (agO V i (r + 3 + 2 * i) (if (0 : Int) ≤ (i : Int) ∧ (i : Int) < ((0 : Nat) : Int) then S.a i else S0.a i))
      rw [if_neg (by omega)]
      exact hR1.ag i hi, hR1.dc⟩, g1⟩ ?_ ?_
  · rintro i v e s hv ⟨x, y, rfl, hRi, gi⟩
    rw [Nat.zero_add] at hRi ⊢
    have hi : i < 3 := (List.getElem?_eq_some_iff.mp hv).1
    obtain rfl : v = PV.tup [.loc (r + 2 + 2 * i), jPV (S.a i)] := by
      rcases (show i = 0 ∨ i = 1 ∨ i = 2 by omega) with rfl | rfl | rfl <;> exact (Option.some.inj hv).symm
    refine ⟨_, rfl, ?_⟩
    rw [ss_fld, sat_var rfl, sat_var rfl, insOf_at (hRi.ag i hi)]
    refine ⟨by simp, ?_⟩
    have hR2 := hRi.agt hi (S.a i)
    refine ⟨_, _, rfl, ?_, gi.trans (.set (fr_ag hi))⟩
    refine ⟨hR2.run, hR2.ref, fun j hj => ?_, hR2.dc⟩
    have z := hR2.ag j hj
    have ea : (if (0 : Int) ≤ (j : Int) ∧ (j : Int) < ((i + 1 : Nat) : Int) then S.a j else S0.a j) = (if (j : Int) = (i : Int) then S.a i else if (0 : Int) ≤ (j : Int) ∧ (j : Int) < (i : Int) then S.a j else S0.a j) := by
      by_cases e : j = i
      · subst e
        rw [if_pos (by omega), if_pos rfl]
      · rw [if_neg (show ¬ (j : Int) = i by omega)]
        by_cases z : j < i
        · rw [if_pos (by omega), if_pos (by omega)]
        · rw [if_neg (by omega), if_neg (by omega)]
    show _ = some (agO V j (r + 3 + 2 * j) (if (0 : Int) ≤ (j : Int) ∧ (j : Int) < ((i + 1 : Nat) : Int) then S.a j else S0.a j))
    rw [ea]
    exact z
  · rintro e s ⟨x, y, rfl, hRi, gi⟩
    have hR3 : RunAt V G r { n := S.n, a := S.a, bag := S0.bag } s := by
      refine ⟨hRi.run, hRi.ref, fun j hj => ?_, hRi.dc⟩
      have z : s[r + 2 + 2 * j]? = some (agO V j (r + 3 + 2 * j) (if (0 : Int) ≤ (j : Int) ∧ (j : Int) < ((3 : Nat) : Int) then S.a j else S0.a j)) := hRi.ag j hj
      rw [if_pos (show (0 : Int) ≤ (j : Int) ∧ (j : Int) < ((3 : Nat) : Int) by omega)] at z
      exact z
    rw [ss_seq, ss_fld, sat_args, sat_nil, sat_tup]
    refine ⟨sl0, ?_⟩
    rw [sat_var rfl, insOf_at hR3.run]
    refine ⟨by simp, ?_⟩
    have hR4 := hR3.bag []
    have e4 : PO.ins V.c_Run (putFP "bag" (PV.tup []) [("_referee", PV.loc (r + 1)), ("_agents", .tup [.loc (r + 2), .loc (r + 4), .loc (r + 6)]), ("bag", bagPV S0.bag)]) = runO V r [] := rfl
    rw [e4]
    have g4 : Gr (FR r) st (s.set r (runO V r [])) := gi.trans (.set (by simp))
    generalize s.set r (runO V r []) = s4 at *
    rw [ss_expr, sat_meth_at (l := r) rfl hR4.run rfl, sat_cons, sat_meth_at (l := r + 1) rfl hR4.ref rfl, sat_nil]
    refine ⟨rfl, ?_⟩
    rw [ref_ask_eq h hn hR4.ref, sat_ok, sat_nil]
    exact ⟨rfl, send_asks hR4.run (Nat.zero_le _) (k _ (hR4.bag _) (g4.trans (.set (by simp))))⟩
theorem resumed_ok {pl : Int → List Int} (h : G.Ok) (hP : G.P pl) (hn : S.n ≤ G.w.length) (k : ∀ s, RunAt V G st.length (S.back G) s → Gr [] st s → st.length + 8 ≤ s.length → Q (.loc st.length) s) : Sat (m_resumed V [G.pv, profPV pl, savPV G S] st) Q := by
  refine sat_body ?_
  unfold f_resumed
  simp only [List.map_cons, List.map_nil, List.length_cons, List.length_nil, Nat.reduceAdd, Nat.reduceSub, List.reduceReplicate, List.cons_append, List.nil_append]
  rw [ss_seq, ss_set]
  refine make_run_ok h hP (fun s hR g hl => ?_) rfl rfl
  rw [ss_seq, ss_expr, sat_meth_at (l := st.length) rfl hR.run rfl, sat_cons, sat_var rfl, sat_nil]
  refine ⟨rfl, restore_ok h hn hR fun s2 hR2 g2 => ?_⟩
  rw [ss_ret, sat_var rfl]
  refine k s2 hR2 ?_ (Nat.le_trans hl g2.len)
  refine ((g.mono (L' := FR st.length) (by simp)).trans g2).cut fun j mj hj => ?_
  simp only [List.mem_cons, List.not_mem_nil, or_false] at mj
  omega
/-- events, one after the other -/
def Gm.hps (G : Gm) (S : RS) : List Ev → RS
  | [] => S
  | e :: es => G.hps (G.hp S e).1 es
theorem hps_snoc {es : List Ev} {e : Ev} : G.hps S (es ++ [e]) = (G.hp (G.hps S es) e).1 := by
  induction es generalizing S with
  | nil => rfl
  | cons x es ih => exact ih
theorem iv_hps (h : G.Ok) : ∀ {es : List Ev} {S : RS} {B : Nat}, Iv G S B → Iv G (G.hps S es) (B + es.length)
  | [], S, B, iv => iv
  | e :: es, S, B, iv => by
    have := iv_hps h (es := es) (iv_hp h iv e)
    rw [List.length_cons]
    show Iv G (G.hps (G.hp S e).1 es) _
    rw [show B + (es.length + 1) = B + 1 + es.length by omega]
    exact this
theorem play_ok {pl : Int → List Int} (h : G.Ok) (hP : G.P pl) {es : List Ev} (he : ∀ e ∈ es, e.Ok) (hl : es.length ≤ 2000) {v : PV} (hv : v = .lst (es.map Ev.pv) ∨ v = .tup (es.map Ev.pv)) (k : ∀ s, Gr [] st s → Q (.str G.z) s) : Sat (m_play V [G.pv, profPV pl, v] st) Q := by
  refine sat_body ?_
  unfold f_play
  simp only [List.map_cons, List.map_nil, List.length_cons, List.length_nil, Nat.reduceAdd, Nat.reduceSub, List.reduceReplicate, List.cons_append, List.nil_append]
  rw [ss_seq, ss_set]
  refine make_run_ok h hP (fun s hR g hlen => ?_) rfl rfl
  have hit : ∀ (s : Store) (Qx : Itms → Store → Prop), Sat (pIter v s) Qx = Qx ⟨es.map Ev.pv, none⟩ s := fun s Qx => by
    rcases hv with rfl | rfl
    · exact o_itL
    · exact o_itT
  rw [ss_seq, ss_for, sat_iVal, sat_var rfl, hit]
  refine for_invN (k := 0) (fun i e s => ∃ x : Option PV, e = [some G.pv, some (profPV pl), some v, some (.loc st.length), x] ∧ RunAt V G st.length (G.hps (RS.new G) (es.take i)) s ∧ Gr (FR st.length) st s)
    ⟨none, rfl, hR, g.mono (by simp)⟩ ?_ ?_
  · rintro i u e s hu ⟨x, rfl, hRi, gi⟩
    rw [Nat.zero_add] at hRi ⊢
    have hi : i < es.length := by
      have := (List.getElem?_eq_some_iff.mp hu).1
      rwa [List.length_map] at this
    obtain rfl : u = (es[i]).pv := by
      rw [List.getElem?_map, List.getElem?_eq_getElem hi] at hu
      exact (Option.some.inj hu).symm
    have iv := iv_hps h (es := es.take i) (iv_new h)
    refine ⟨_, rfl, ?_⟩
    rw [ss_expr, sat_meth_at (l := st.length) rfl hRi.run rfl, sat_cons, sat_var rfl, sat_nil]
    refine ⟨rfl, happen_ok h iv (by rw [List.length_take]; omega) (he _ (List.getElem_mem hi)) hRi fun s2 hR2 g2 => ⟨_, rfl, ?_, gi.trans g2⟩⟩
    have et : es.take (i + 1) = es.take i ++ [es[i]] := by rw [List.take_add_one, List.getElem?_eq_getElem hi]; rfl
    rw [et, hps_snoc]
    exact hR2
  · rintro e s ⟨x, rfl, hRi, gi⟩
    rw [Nat.zero_add, List.length_map, List.take_length] at hRi
    have iv := iv_hps h (es := es) (iv_new h)
    rw [ss_ret, sat_meth_at (l := st.length) rfl hRi.run rfl, sat_nil]
    refine ⟨rfl, finish_ok h iv hRi fun s2 _ g2 => k s2 ?_⟩
    refine (gi.trans g2).cut fun j mj hj => ?_
    simp only [List.mem_cons, List.not_mem_nil, or_false] at mj
    omega
end
end PL
/-! PL, part ML: the law's own model of a run. -/
namespace PL
open PySem PySem.Spec PyProof.Rows L2
structure Pl where
  j : Nat
  b0 : Nat
  b1 : Nat
  b2 : Nat
  bl : Nat
def Pl.b (P : Pl) : Nat → Nat
  | 0 => P.b0
  | 1 => P.b1
  | _ => P.b2
structure Pl.Ok (P : Pl) : Prop where
  bj : ∀ i, P.b i ≠ P.j
  bb : ∀ i k, i < 3 → k < 3 → i ≠ k → P.b i ≠ P.b k
  bbl : ∀ i, P.b i ≠ P.bl
  jl : P.j ≠ P.bl
abbrev FL (P : Pl) : List Nat := [P.j, P.b0, P.b1, P.b2, P.bl]
theorem fl_b {P : Pl} (i : Nat) : P.b i ∈ FL P := by
  unfold Pl.b
  split <;> simp
structure LawAt (G : Gm) (c : Nat) (P : Pl) (S : RS) (s : Store) : Prop where
  c : s[c]? = some (.dic (G.L.map rmKv))
  j : s[P.j]? = some (.lst ((G.w.take S.n).map prPV))
  b : ∀ i : Nat, i < 3 → s[P.b i]? = some (.lst ((S.a i).map prPV))
  bl : s[P.bl]? = some (.lst (S.bag.map Lt.pv))
section
variable {V : Fv} {G : Gm} {S : RS} {B r c : Nat} {P : Pl} {st s : Store} {Q : PV → Store → Prop}
abbrev ansPV (P : Pl) : PV := .lst [.loc P.b0, .loc P.b1, .loc P.b2]
theorem LawAt.gr {L : List Nat} (h : LawAt G c P S st) (g : Gr L st s) (n1 : c ∉ L) (n2 : ∀ k ∈ FL P, k ∉ L) : LawAt G c P S s where
  c := g.at' h.c n1
  j := g.at' h.j (n2 _ (by simp))
  b := fun i hi => g.at' (h.b i hi) (n2 _ (fl_b i))
  bl := g.at' h.bl (n2 _ (by simp))
theorem LawAt.ne {k : Nat} {o : PO} (h : LawAt G c P S st) (hk : st[k]? = some o) (hl : ∀ kvs, o ≠ .dic kvs) : c ≠ k := fun e => by
  have := h.c
  rw [e, hk] at this
  exact hl _ (Option.some.inj this)
theorem LawAt.set_bl (h : LawAt G c P S st) (hP : P.Ok) (b : List Lt) : LawAt G c P { S with bag := b } (st.set P.bl (.lst (b.map Lt.pv))) where
  c := by rw [List.getElem?_set_ne (h.ne h.bl (fun _ z => nomatch z)).symm]; exact h.c
  j := by rw [List.getElem?_set_ne hP.jl.symm]; exact h.j
  b := fun i hi => by rw [List.getElem?_set_ne (hP.bbl i).symm]; exact h.b i hi
  bl := List.getElem?_set_self (lt_of_some h.bl)
theorem LawAt.set_j (h : LawAt G c P S st) (hP : P.Ok) (n : Nat) : LawAt G c P { S with n := n } (st.set P.j (.lst ((G.w.take n).map prPV))) where
  c := by rw [List.getElem?_set_ne (h.ne h.j (fun _ z => nomatch z)).symm]; exact h.c
  j := List.getElem?_set_self (lt_of_some h.j)
  b := fun i hi => by rw [List.getElem?_set_ne (hP.bj i).symm]; exact h.b i hi
  bl := by rw [List.getElem?_set_ne hP.jl]; exact h.bl
theorem LawAt.set_b (h : LawAt G c P S st) (hP : P.Ok) {i : Nat} (hi : i < 3) (x : List Pr) : LawAt G c P { S with a := fun o => if o = (i : Int) then x else S.a o } (st.set (P.b i) (.lst (x.map prPV))) where
  c := by rw [List.getElem?_set_ne (h.ne (h.b i hi) (fun _ z => nomatch z)).symm]; exact h.c
  j := by rw [List.getElem?_set_ne (hP.bj i)]; exact h.j
  b := fun k hk => by
    by_cases e : k = i
    · subst e
      rw [List.getElem?_set_self (lt_of_some (h.b k hk))]
      show _ = some (PO.lst ((if (k : Int) = k then x else S.a k).map prPV))
      rw [if_pos rfl]
    · rw [List.getElem?_set_ne (hP.bb i k hi hk (Ne.symm e)), h.b k hk]
      show _ = some (PO.lst ((if (k : Int) = i then x else S.a k).map prPV))
      rw [if_neg (by omega)]
  bl := by rw [List.getElem?_set_ne (hP.bbl i)]; exact h.bl
/-! ### pairs and letters compared -/
theorem isD_pr (p : Pr) : isD (prPV p) = true := rfl
theorem isDs_pr (a : List Pr) : isDs (a.map prPV) = true := by induction a <;> simp_all [isDs, isD_pr]
theorem depth_pr (p : Pr) : (toD (prPV p)).depth ≤ 1 := by unfold prPV; simp [toD, toDs, PyData.depth, PyData.depthAll]
theorem depths_pr (a : List Pr) : PyData.depthAll (toDs (a.map prPV)) ≤ 1 := by
  induction a with
  | nil => simp [toDs, PyData.depthAll]
  | cons p a ih =>
    have := depth_pr p
    simp only [List.map_cons, toDs, PyData.depthAll]
    omega
theorem eqv_pr (p q : Pr) : PyData.eqv (toD (prPV p)) (toD (prPV q)) = decide (p = q) := by
  obtain ⟨a, i⟩ := p
  obtain ⟨b, j⟩ := q
  unfold prPV
  simp only [toD, toDs, PyData.eqv, PyData.eqvAll, Bool.and_true]
  by_cases h : a = b <;> by_cases h' : i = j <;> simp [h, h']
theorem o_notInPr {p : Pr} {a : List Pr} {v : PV} {b : Bool} (h : seqOf st v = some (b, a.map prPV)) : Sat (pNotInK (prPV p) v st) Q = Q (.bl (!decide (p ∈ a))) st := by
  rw [(inK_seq h).2]
  have e : inD (prPV p) (a.map prPV) = decide (p ∈ a) := by
    unfold inD
    rw [List.any_map, Bool.eq_iff_iff]
    simp only [List.any_eq_true, Function.comp, decide_eq_true_eq, eqv_pr]
    constructor
    · rintro ⟨y, my, rfl⟩; exact my
    · exact fun my => ⟨p, my, rfl⟩
  have e2 : pNotIn (prPV p) v st = .ok (.bl (!decide (p ∈ a))) st := by
    have d1 := depth_pr p
    show (match seqOf st v with
      | some (_, xs) => if isD (prPV p) = true ∧ isDs xs = true ∧ min (PyData.depthAll (toDs xs)) (toD (prPV p)).depth ≤ 60 then Res.ok (PV.bl (!inD (prPV p) xs)) st else .stuck
      | none => .stuck) = _
    rw [h]
    show (if isD (prPV p) = true ∧ isDs (a.map prPV) = true ∧ min (PyData.depthAll (toDs (a.map prPV))) (toD (prPV p)).depth ≤ 60 then Res.ok (PV.bl (!inD (prPV p) (a.map prPV))) st else .stuck) = _
    rw [if_pos ⟨isD_pr p, isDs_pr a, by omega⟩, e]
  rw [e2, sat_ok]
theorem o_eqRS {a b : Str} : Sat (pEqR (.str a) (.str b) st) Q = Q (.bl (decide (a = b))) st := o_eqS
theorem o_eqRask {x n : Nat} {m : Str} {o : Int} (hx : st[x]? = some (.lst ((G.asks n).map Lt.pv))) (ho : o = G.ow m) : Sat (pEqR (.loc x) (.lst [.tup [.str "ask", .int o, .str m]]) st) Q = Q (.bl (G.fits n m)) st := by
  have er : resv st (.loc x) = .lst ((G.asks n).map Lt.pv) := by unfold resv; simp only [hx]
  have e : pEqR (.loc x) (.lst [.tup [.str "ask", .int o, .str m]]) st = .ok (.bl (G.fits n m)) st := by
    unfold pEqR
    rw [er]
    show pEq (.lst ((G.asks n).map Lt.pv)) (.lst [.tup [.str "ask", .int o, .str m]]) st = _
    unfold Gm.asks Gm.fits
    cases hp : G.w[n]? with
    | none =>
      show pEq (.lst []) _ st = _
      unfold pEq
      rw [if_pos ⟨rfl, rfl, by simp [toD, toDs, PyData.depth, PyData.depthAll]⟩]
      simp [toD, toDs, PyData.eqv, PyData.eqvAll]
    | some p =>
      show pEq (.lst [.tup [.str "ask", .int (G.ow p.1), .str p.1]]) _ st = _
      unfold pEq
      rw [if_pos ⟨rfl, rfl, by simp [toD, toDs, PyData.depth, PyData.depthAll]⟩]
      simp only [toD, toDs, PyData.eqv, PyData.eqvAll, Bool.and_true]
      congr 2
      by_cases h : p.1 = m
      · subst h; simp [ho]
      · simp [h]
  rw [e, sat_ok]
theorem law_deliver_ok (h : G.Ok) (iv : Iv G S B) (hB : B ≤ 100000) {l : Lt} (hl : LtOk G S l) (hP : P.Ok) (hL : LawAt G c P S st) (k : ∀ s, LawAt G c P (G.dl S l) s → Gr (FL P) st s → Q .non s) :
    Sat (m_law_deliver [G.pv, .loc c, .loc P.j, ansPV P, .loc P.bl, l.pv] st) Q := by
  have hsz := iv.sz
  have hw5 := h.wl
  refine sat_body ?_
  unfold f_law_deliver
  simp only [List.map_cons, List.map_nil, List.length_cons, List.length_nil, Nat.reduceAdd, Nat.reduceSub, List.reduceReplicate, List.cons_append, List.nil_append]
  rw [ss_seq, ss_set, sat_call, sat_cons, sat_var rfl, sat_cons, sat_var rfl, sat_nil]
  refine ⟨rfl, law_ask_ok h iv.n hL.j ?_⟩
  have g0 : Gr (FL P) st (st ++ [PO.lst ((G.asks S.n).map Lt.pv)]) := .app
  have hL0 : LawAt G c P S (st ++ [PO.lst ((G.asks S.n).map Lt.pv)]) := hL.gr (L := []) .app (by simp) (by simp)
  have hx0 : (st ++ [PO.lst ((G.asks S.n).map Lt.pv)])[st.length]? = some (.lst ((G.asks S.n).map Lt.pv)) := by simp
  generalize st ++ [PO.lst ((G.asks S.n).map Lt.pv)] = s0 at *
  generalize st.length = x at *
  cases l with
  | ask o m =>
    obtain ⟨kk, p, hk, hp, rfl, rfl⟩ := hl
    have hw := h.wr p (List.mem_of_getElem? hp)
    have ho := h.ow3 hw
    obtain ⟨i, hi, ei⟩ : ∃ i : Nat, i < 3 ∧ G.ow p.1 = (i : Int) := ⟨(G.ow p.1).toNat, by omega, by omega⟩
    have hget : dget (G.L.map rmKv) (.inr p.1) = some (.int (G.ch p.1)) := by
      obtain ⟨y, my, ey⟩ := hw
      have := dget_mem (kv_nd h.nd) (List.mem_map.mpr ⟨y, my, rfl⟩)
      rw [show (rmKv y).1 = .inr y.1.n from rfl, show (rmKv y).2 = .int y.2 from rfl, ey, ← h.ch_at my, ey] at this
      exact this
    have lk : ∀ Q : PV → Store → Prop, Sat (pIxD (.loc c) (.str p.1) s0) Q = Q (.int (G.ch p.1)) s0 := fun Q => o_getD (k := .inr p.1) (dic_at hL0.c) hget
    unfold Lt.pv
    rw [ss_seq, ss_set, sat_args, sat_cons, sat_bin, sat_var rfl, sat_c, o_ixDT, o_ixT, ixW_2, sat_cons, sat_bin, sat_var rfl, sat_bin, sat_var rfl, sat_c, o_ixDT, o_ixT, ixW_2, lk, sat_nil, sat_tup]
    refine ⟨sl2, ?_⟩
    rw [ss_if, sat_test, sat_bin, sat_bin, sat_var rfl, sat_c, o_ixDT, o_ixT, ixW_0, sat_c, o_eqRS, sat_truth, decide_eq_true rfl, if_pos rfl, ss_seq, ss_set, sat_bin, sat_var rfl, sat_bin, sat_var rfl, sat_c, o_ixDT, o_ixT, ixW_1, o_ixDL, o_ixL]
    have hix : ∀ Pq : PV → Prop, Pq (.loc (P.b i)) → ixW [PV.loc P.b0, .loc P.b1, .loc P.b2] (G.ow p.1) Pq := fun Pq q => by
      rw [ei]
      refine ixW_of (k := i) ?_ q
      rcases (show i = 0 ∨ i = 1 ∨ i = 2 by omega) with rfl | rfl | rfl <;> rfl
    refine hix _ ?_
    have hb := hL0.b i hi
    have hlen := iv.len h (i := (i : Int))
    refine seq_mid (fun e s => (∃ b, e = [some G.pv, some (.loc c), some (.loc P.j), some (ansPV P), some (.loc P.bl), some (.tup [.str "ask", .int (G.ow p.1), .str p.1]), some (.loc x), some (.tup [.str p.1, .int (G.ch p.1)]), some b]) ∧
        LawAt G c P { S with a := fun o => if o = (i : Int) then putJ (S.a i) (p.1, G.ch p.1) else S.a o } s ∧ Gr (FL P) st s) ?_ ?_
    · rw [ss_if, sat_test, sat_bin, sat_var rfl, sat_var rfl]
      show Sat (pNotInK (prPV (p.1, G.ch p.1)) (.loc (P.b i)) s0) _
      rw [o_notInPr (a := S.a i) (b := false) (by unfold seqOf; simp only [hb]), sat_truth]
      by_cases hin : (p.1, G.ch p.1) ∈ S.a i
      · rw [decide_eq_true hin, Bool.not_true, if_neg (by simp), ss_nil]
        refine ⟨⟨_, rfl⟩, ?_, g0⟩
        have e1 : putJ (S.a i) (p.1, G.ch p.1) = S.a i := if_pos hin
        rw [e1]
        refine ⟨hL0.c, hL0.j, fun k hk => ?_, hL0.bl⟩
        have := hL0.b k hk
        show s0[P.b k]? = some (.lst ((if (k : Int) = i then S.a i else S.a k).map prPV))
        by_cases e : k = i
        · subst e; rw [if_pos rfl]; exact this
        · rw [if_neg (by omega)]; exact this
      · rw [decide_eq_false hin, Bool.not_false, if_pos rfl, ss_expr, sat_meth, sat_var rfl]
        refine ⟨o_isL hb, ?_⟩
        rw [sat_cons, sat_var rfl, sat_nil, o_app hb]
        refine ⟨by rw [sizeLine_eq, List.length_map]; omega, ⟨_, rfl⟩, ?_, g0.trans (.set (fl_b i))⟩
        have e1 : putJ (S.a i) (p.1, G.ch p.1) = S.a i ++ [(p.1, G.ch p.1)] := if_neg hin
        have e2 : (S.a i).map prPV ++ [PV.tup [.str p.1, .int (G.ch p.1)]] = (putJ (S.a i) (p.1, G.ch p.1)).map prPV := by rw [e1, List.map_append]; rfl
        rw [e2]
        exact hL0.set_b hP hi _
    rintro e s1 ⟨⟨b, rfl⟩, hL1, g1⟩
    rw [ss_expr, sat_meth, sat_var rfl]
    refine ⟨o_isL hL1.bl, ?_⟩
    rw [sat_cons, sat_args, sat_cons, sat_c, sat_cons, sat_bin, sat_var rfl, sat_c, o_ixDT, o_ixT, ixW_1, sat_cons, sat_bin, sat_var rfl, sat_c, o_ixDT, o_ixT, ixW_2, sat_cons, sat_bin, sat_var rfl, sat_c, o_ixDT, o_ixT, ixW_1, sat_nil, sat_tup]
    refine ⟨by rw [sizeLine_eq]; simp, ?_⟩
    rw [sat_nil, o_app hL1.bl]
    refine ⟨by rw [sizeLine_eq, List.length_map]; show S.bag.length < _; omega, ?_⟩
    have hL2 := hL1.set_bl hP (S.bag ++ [.ans (G.ow p.1) p.1 (G.ch p.1)])
    have e2 : ({ S with a := fun o => if o = (i : Int) then putJ (S.a i) (p.1, G.ch p.1) else S.a o } : RS).bag.map Lt.pv ++ [PV.tup [.str "answer", .int (G.ow p.1), .str p.1, .int (G.ch p.1)]] = (S.bag ++ [Lt.ans (G.ow p.1) p.1 (G.ch p.1)]).map Lt.pv := by rw [List.map_append]; rfl
    rw [e2]
    refine k _ ?_ (g1.trans (.set (by simp)))
    rw [dl_ask]
    have e3 : (fun o => if o = G.ow p.1 then putJ (S.a (G.ow p.1)) (p.1, G.ch p.1) else S.a o) = fun o => if o = (i : Int) then putJ (S.a i) (p.1, G.ch p.1) else S.a o := by rw [ei]
    rw [e3]
    exact hL2
  | ans o m v =>
    obtain ⟨kk, p, hk, hp, rfl, rfl, rfl, hin⟩ := hl
    have hw := h.wr p (List.mem_of_getElem? hp)
    have hpc := h.wp p (List.mem_of_getElem? hp)
    have hget : dget (G.L.map rmKv) (.inr p.1) = some (.int p.2) := by
      obtain ⟨y, my, ey⟩ := hw
      have := dget_mem (kv_nd h.nd) (List.mem_map.mpr ⟨y, my, rfl⟩)
      rw [show (rmKv y).1 = .inr y.1.n from rfl, show (rmKv y).2 = .int y.2 from rfl, ey, ← h.ch_at my, ey, ← hpc] at this
      exact this
    have lk : ∀ Q : PV → Store → Prop, Sat (pIxD (.loc c) (.str p.1) s0) Q = Q (.int p.2) s0 := fun Q => o_getD (k := .inr p.1) (dic_at hL0.c) hget
    rw [dl_ans] at k
    unfold Lt.pv
    rw [ss_seq, ss_set, sat_args, sat_cons, sat_bin, sat_var rfl, sat_c, o_ixDT, o_ixT, ixW_2, sat_cons, sat_bin, sat_var rfl, sat_bin, sat_var rfl, sat_c, o_ixDT, o_ixT, ixW_2, lk, sat_nil, sat_tup]
    refine ⟨sl2, ?_⟩
    rw [ss_if, sat_test, sat_bin, sat_bin, sat_var rfl, sat_c, o_ixDT, o_ixT, ixW_0, sat_c, o_eqRS, sat_truth, decide_eq_false (by decide +kernel), if_neg (by simp), ss_if, sat_test, sat_bin, sat_var rfl, sat_args, sat_cons, sat_args, sat_cons, sat_c, sat_cons, sat_bin, sat_var rfl, sat_c, o_ixDT, o_ixT, ixW_1, sat_cons, sat_bin, sat_var rfl, sat_c, o_ixDT, o_ixT, ixW_2, sat_nil, sat_tup]
    refine ⟨sl3, ?_⟩
    rw [sat_nil, sat_lst]
    refine ⟨sl1, ?_⟩
    rw [o_eqRask hx0 rfl, sat_truth]
    by_cases hf : G.fits S.n p.1 = true
    · rw [if_pos hf] at k
      rw [if_pos hf, ss_seq, ss_expr, sat_meth, sat_var rfl]
      refine ⟨o_isL hL0.j, ?_⟩
      have hkn : G.w[S.n]? = some p := by
        unfold Gm.fits at hf
        cases hq : G.w[S.n]? with
        | none => rw [hq] at hf; cases hf
        | some q =>
          rw [hq] at hf
          have := w_inj h hp hq (by simpa using (of_decide_eq_true hf).symm)
          subst this
          rw [← hq, hp]
      have hlt : S.n < G.w.length := (List.getElem?_eq_some_iff.mp hkn).1
      rw [sat_cons, sat_var rfl, sat_nil, o_app hL0.j]
      refine ⟨by rw [sizeLine_eq, List.length_map, List.length_take]; omega, ?_⟩
      have e2 : (G.w.take S.n).map prPV ++ [PV.tup [.str p.1, .int p.2]] = (G.w.take (S.n + 1)).map prPV := by
        rw [List.take_add_one, hkn, List.map_append]; rfl
      rw [e2]
      have hL1 := hL0.set_j hP (S.n + 1)
      have g1 : Gr (FL P) st (s0.set P.j (.lst ((G.w.take (S.n + 1)).map prPV))) := g0.trans (.set (by simp))
      generalize s0.set P.j (.lst ((G.w.take (S.n + 1)).map prPV)) = s1 at *
      rw [ss_expr, sat_meth, sat_var rfl]
      refine ⟨o_isL hL1.bl, ?_⟩
      rw [sat_cons, sat_call, sat_cons, sat_var rfl, sat_cons, sat_var rfl, sat_nil]
      refine ⟨rfl, law_ask_ok h hlt hL1.j ?_⟩
      have hL2 : LawAt G c P { S with n := S.n + 1 } (s1 ++ [PO.lst ((G.asks (S.n + 1)).map Lt.pv)]) := hL1.gr (L := []) .app (by simp) (by simp)
      have hx2 : (s1 ++ [PO.lst ((G.asks (S.n + 1)).map Lt.pv)])[s1.length]? = some (.lst ((G.asks (S.n + 1)).map Lt.pv)) := by simp
      have g2 : Gr (FL P) st (s1 ++ [PO.lst ((G.asks (S.n + 1)).map Lt.pv)]) := g1.trans .app
      generalize s1 ++ [PO.lst ((G.asks (S.n + 1)).map Lt.pv)] = s2 at *
      generalize s1.length = x2 at *
      have hal := asks_len (G := G) (k := S.n + 1)
      have e4 : pExtend (.loc P.bl) [.loc x2] s2 = .ok .non (s2.set P.bl (.lst (S.bag.map Lt.pv ++ (G.asks (S.n + 1)).map Lt.pv))) := by
        unfold pExtend
        have er : resv s2 (.loc x2) = .lst ((G.asks (S.n + 1)).map Lt.pv) := by unfold resv; simp only [hx2]
        simp only [hL2.bl, er]
        rw [if_pos (by rw [sizeLine_eq, List.length_map, List.length_map]; show S.bag.length + _ ≤ _; omega)]
      rw [sat_nil, e4, sat_ok, ← List.map_append]
      exact k _ (hL2.set_bl hP _) (g2.trans (.set (by simp)))
    · rw [if_neg hf] at k
      rw [if_neg (by simpa using hf), ss_nil]
      exact k s0 hL0 g0
end
end PL
/-! PL, part MM: an event in the law's model; what happen tells. -/
namespace PL
open PySem PySem.Spec PyProof.Rows L2
section
variable {V : Fv} {G : Gm} {S : RS} {B r c : Nat} {P : Pl} {st s : Store} {Q : PV → Store → Prop}
/-- bag.extend(_law_ask(game, journal)) -/
theorem ext_asks (h : G.Ok) (hn : S.n ≤ G.w.length) (hsz : S.bag.length ≤ 200000) (hP : P.Ok) (hL : LawAt G c P S st) {env : PEnv} {ig ij ib : Nat} (h0 : env[ig]? = some (some G.pv)) (h2 : env[ij]? = some (some (.loc P.j))) (h4 : env[ib]? = some (some (.loc P.bl)))
    (k : ∀ s, LawAt G c P { S with bag := S.bag ++ G.asks S.n } s → Gr (FL P) st s → Q .non s) :
    Sat ((eMeth isListP pExtend (eVar ib) (aCons (eCall 2 m_law_ask (aCons (eVar ig) (aCons (eVar ij) aNil))) aNil)) env st) Q := by
  rw [sat_meth, sat_var h4]
  refine ⟨o_isL hL.bl, ?_⟩
  rw [sat_cons, sat_call, sat_cons, sat_var h0, sat_cons, sat_var h2, sat_nil]
  refine ⟨rfl, law_ask_ok h hn hL.j ?_⟩
  have hL2 : LawAt G c P S (st ++ [PO.lst ((G.asks S.n).map Lt.pv)]) := hL.gr (L := []) .app (by simp) (by simp)
  have hx2 : (st ++ [PO.lst ((G.asks S.n).map Lt.pv)])[st.length]? = some (.lst ((G.asks S.n).map Lt.pv)) := by simp
  have g2 : Gr (FL P) st (st ++ [PO.lst ((G.asks S.n).map Lt.pv)]) := .app
  generalize st ++ [PO.lst ((G.asks S.n).map Lt.pv)] = s2 at *
  generalize st.length = x2 at *
  have hal := asks_len (G := G) (k := S.n)
  have e4 : pExtend (.loc P.bl) [.loc x2] s2 = .ok .non (s2.set P.bl (.lst (S.bag.map Lt.pv ++ (G.asks S.n).map Lt.pv))) := by
    unfold pExtend
    have er : resv s2 (.loc x2) = .lst ((G.asks S.n).map Lt.pv) := by unfold resv; simp only [hx2]
    simp only [hL2.bl, er]
    rw [if_pos (by rw [sizeLine_eq, List.length_map, List.length_map]; omega)]
  rw [sat_nil, e4, sat_ok, ← List.map_append]
  exact k _ (hL2.set_bl hP _) (g2.trans (.set (by simp)))
theorem seqIx {j n : Nat} (h : j < n) : seqIndex? (j : Int) n = some j := by
  have := (ixN_seq (n := n) (i := (j : Int)) (j := j) (by unfold ixN; rw [if_pos (by omega), if_pos (by omega)]; simp)).1
  exact this
theorem law_event_ok (h : G.Ok) (iv : Iv G S B) (hB : B ≤ 100000) {e : Ev} (he : e.Ok) (hP : P.Ok) (hL : LawAt G c P S st) (k : ∀ s, LawAt G c P (G.hp S e).1 s → Gr (FL P) st s → Q (.bl (G.hp S e).2) s) :
    Sat (m_law_event [G.pv, .loc c, .loc P.j, ansPV P, .loc P.bl, e.pv] st) Q := by
  have hsz := iv.sz
  refine sat_body ?_
  unfold f_law_event
  simp only [List.map_cons, List.map_nil, List.length_cons, List.length_nil, Nat.reduceAdd, Nat.reduceSub, List.reduceReplicate, List.cons_append, List.nil_append]
  cases e with
  | restart =>
    unfold Ev.pv
    rw [ss_seq, ss_if, sat_test, sat_bin, sat_bin, sat_var rfl, sat_c, o_ixT, ixW_0, sat_c, o_eqS, sat_truth, decide_eq_true rfl, if_pos rfl, ss_seq, ss_expr]
    refine ext_asks h iv.n (by omega) hP hL rfl rfl rfl fun s hs gs => ?_
    rw [ss_ret, sat_c]
    exact k s hs gs
  | ev kind i =>
    have hk1 : kind ≠ "restart" := by rcases he with rfl | rfl | rfl <;> decide +kernel
    unfold Ev.pv
    rw [ss_seq, ss_if, sat_test, sat_bin, sat_bin, sat_var rfl, sat_c, o_ixT, ixW_0, sat_c, o_eqS, sat_truth, decide_eq_false hk1, if_neg (by simp), ss_nil]
    have hno : ∀ (Q : Bool → Store → Prop), Sat ((tOrM (eTest (eBin pLt (eBin pIx (eVar 5) (eC (.int 1))) (eC (.int 0)))) (eTest (eBin pGe (eBin pIx (eVar 5) (eC (.int 1))) (eArgs (one pLen) (aCons (eVar 4) aNil)))))
        [some G.pv, some (.loc c), some (.loc P.j), some (ansPV P), some (.loc P.bl), some (.tup [.str kind, .int i]), none] st) Q = Q (!(decide (0 ≤ i) && decide (i < (S.bag.length : Int)))) st := fun Q => by
      rw [sat_or, sat_test, sat_bin, sat_bin, sat_var rfl, sat_c, o_ixT, ixW_1, sat_c, o_ltI, sat_truth]
      by_cases h0 : 0 ≤ i
      · rw [decide_eq_false (show ¬ i < 0 by omega), if_neg (by simp), sat_test, sat_bin, sat_bin, sat_var rfl, sat_c, o_ixT, ixW_1, sat_args, sat_cons, sat_var rfl, sat_nil, sat_one, o_lenP hL.bl, o_geI, sat_truth, List.length_map, decide_eq_true h0, Bool.true_and]
      · rw [decide_eq_true (show i < 0 by omega), if_pos rfl, decide_eq_false h0, Bool.false_and]
        rfl
    rw [ss_seq, ss_if]
    rw [hno]
    by_cases hin : 0 ≤ i ∧ i < (S.bag.length : Int)
    · rw [decide_eq_true hin.1, decide_eq_true hin.2, Bool.and_self, Bool.not_true, if_neg (by simp), ss_nil]
      obtain ⟨j, rfl⟩ := Int.eq_ofNat_of_zero_le hin.1
      have hj : j < S.bag.length := by omega
      have hget : S.bag[j]? = some S.bag[j] := List.getElem?_eq_getElem hj
      have hjt : ((j : Nat) : Int).toNat = j := by simp
      have hlt := iv.b _ (List.getElem_mem hj)
      have ehp : G.hp S (.ev kind j) = (if kind = "lose" then Gm.cutB S kind j else G.dl (Gm.cutB S kind j) S.bag[j], true) := by
        unfold Gm.hp
        simp only [hjt]
        rw [if_pos (by omega), hget]
      rw [ehp] at k
      rw [ss_seq, ss_set, sat_bin, sat_var rfl, sat_bin, sat_var rfl, sat_c, o_ixT, ixW_1, o_ixP hL.bl]
      refine ixW_of (y := (S.bag[j]).pv) (by rw [List.getElem?_map, hget]; rfl) ?_
      generalize hl : S.bag[j] = l at *
      -- the letter is taken out
      refine seq_mid (fun e s => e = [some G.pv, some (.loc c), some (.loc P.j), some (ansPV P), some (.loc P.bl), some (.tup [.str kind, .int j]), some l.pv] ∧ LawAt G c P (Gm.cutB S kind j) s ∧ Gr (FL P) st s) ?_ ?_
      · rw [ss_if, sat_test, sat_bin, sat_bin, sat_var rfl, sat_c, o_ixT, ixW_0, sat_c, o_neS, sat_truth]
        by_cases hc : kind = "copy"
        · rw [decide_eq_true hc, Bool.not_true, if_neg (by simp), ss_nil]
          refine ⟨rfl, ?_, .refl⟩
          unfold Gm.cutB
          rw [if_pos hc]
          exact hL
        · rw [decide_eq_false hc, Bool.not_false, if_pos rfl, ss_expr, sat_meth, sat_var rfl]
          refine ⟨o_isL hL.bl, ?_⟩
          have e1 : pPopAt (.loc P.bl) [.int (j : Int)] st = .ok l.pv (st.set P.bl (.lst ((S.bag.eraseIdx j).map Lt.pv))) := by
            unfold pPopAt
            simp only [hL.bl]
            rw [if_pos ⟨by omega, by omega⟩]
            have e2 : seqIndex? (j : Int) (S.bag.map Lt.pv).length = some j := seqIx (by rw [List.length_map]; exact hj)
            have e3 : (S.bag.map Lt.pv)[j]? = some l.pv := by rw [List.getElem?_map, hget]; rfl
            simp only [e2, e3]
            congr 2
            rw [List.eraseIdx_eq_take_drop_succ, List.eraseIdx_eq_take_drop_succ, List.map_append, List.map_take, List.map_drop]
          rw [sat_cons, sat_bin, sat_var rfl, sat_c, o_ixT, ixW_1, sat_nil, e1, sat_ok]
          refine ⟨rfl, ?_, .set (by simp)⟩
          unfold Gm.cutB
          rw [if_neg hc]
          exact hL.set_bl hP _
      rintro e s1 ⟨rfl, hL1, g1⟩
      rw [ss_seq, ss_if, sat_test, sat_bin, sat_bin, sat_var rfl, sat_c, o_ixT, ixW_0, sat_c, o_neS, sat_truth]
      by_cases hk : kind = "lose"
      · rw [if_pos hk] at k
        rw [decide_eq_true hk, Bool.not_true, if_neg (by simp), ss_nil, ss_ret, sat_c]
        exact k s1 hL1 g1
      · rw [if_neg hk] at k
        rw [decide_eq_false hk, Bool.not_false, if_pos rfl, ss_expr, sat_call, sat_cons, sat_var rfl, sat_cons, sat_var rfl, sat_cons, sat_var rfl, sat_cons, sat_var rfl, sat_cons, sat_var rfl, sat_cons, sat_var rfl, sat_nil]
        refine ⟨rfl, law_deliver_ok h (iv_cut iv) hB (ltok_cut hlt) hP hL1 fun s2 hL2 g2 => ?_⟩
        rw [ss_ret, sat_c]
        exact k s2 hL2 (g1.trans g2)
    · have e1 : (decide (0 ≤ i) && decide (i < (S.bag.length : Int))) = false := by
        cases h1 : decide (0 ≤ i) with
        | false => rfl
        | true =>
          cases h2 : decide (i < (S.bag.length : Int)) with
          | false => rfl
          | true => exact (hin ⟨of_decide_eq_true h1, of_decide_eq_true h2⟩).elim
      have ehp : G.hp S (.ev kind i) = (S, false) := by
        unfold Gm.hp
        simp only
        have : (if 0 ≤ i then S.bag[i.toNat]? else none) = none := by
          by_cases h0 : 0 ≤ i
          · rw [if_pos h0]
            exact List.getElem?_eq_none (by
              have : ¬ i < (S.bag.length : Int) := fun z => hin ⟨h0, z⟩
              omega)
          · rw [if_neg h0]
        rw [this]
      rw [ehp] at k
      rw [e1, Bool.not_false, if_pos rfl, ss_ret, sat_c]
      exact k st hL .refl
/-- the run's places and the model's lie apart -/
structure Apart (r c : Nat) (P : Pl) : Prop where
  c : c < r ∨ r + 8 ≤ c
  p : ∀ k ∈ FL P, k < r ∨ r + 8 ≤ k
theorem Apart.fr {k : Nat} (a : k < r ∨ r + 8 ≤ k) : k ∉ FR r := by
  simp only [List.mem_cons, List.not_mem_nil, or_false]
  omega
theorem RunAt.law (hA : Apart r c P) (hR : RunAt V G r S st) (g : Gr (FL P) st s) : RunAt V G r S s := hR.gr g hA.p
theorem LawAt.run (hA : Apart r c P) (hL : LawAt G c P S st) (g : Gr (FR r) st s) : LawAt G c P S s := hL.gr g (Apart.fr hA.c) fun k m => Apart.fr (hA.p k m)
theorem o_eqB {a b : Bool} : Sat (pEq (.bl a) (.bl b) st) Q = Q (.bl (a == b)) st := by
  unfold pEq
  rw [if_pos (by simp [isD, toD, PyData.depth])]
  simp only [toD, PyData.eqv, sat_ok]
theorem law_told_ok (h : G.Ok) (iv : Iv G S B) (hB : B ≤ 100000) {e : Ev} (he : e.Ok) (hP : P.Ok) (hA : Apart r c P) (hR : RunAt V G r S st) (hL : LawAt G c P S st)
    (k : ∀ s, RunAt V G r (G.hp S e).1 s → LawAt G c P (G.hp S e).1 s → Gr (FR r ++ FL P) st s → Q (.bl true) s) :
    Sat (m_law_told V [G.pv, .loc c, .loc r, .loc P.j, ansPV P, .loc P.bl, e.pv] st) Q := by
  refine sat_body ?_
  unfold f_law_told
  simp only [List.map_cons, List.map_nil, List.length_cons, List.length_nil, Nat.reduceAdd, Nat.reduceSub, List.reduceReplicate, List.cons_append, List.nil_append]
  rw [ss_seq, ss_set, sat_meth_at (l := r) rfl hR.run rfl, sat_cons, sat_var rfl, sat_nil]
  refine ⟨rfl, happen_ok h iv hB he hR fun s1 hR1 g1 => ?_⟩
  have hL1 := hL.run hA g1
  rw [ss_ret, sat_andv, sat_args, sat_cons, sat_var rfl, sat_cons, sat_c, sat_nil, isi_of rfl kit_bb]
  simp only
  rw [sat_bin, sat_var rfl, sat_call, sat_cons, sat_var rfl, sat_cons, sat_var rfl, sat_cons, sat_var rfl, sat_cons, sat_var rfl, sat_cons, sat_var rfl, sat_cons, sat_var rfl, sat_nil]
  refine ⟨rfl, law_event_ok h iv hB he hP hL1 fun s2 hL2 g2 => ?_⟩
  rw [o_eqB, show ((G.hp S e).2 == (G.hp S e).2) = true by simp]
  exact k s2 (hR1.law hA g2) hL2 ((g1.mono (by simp)).trans (g2.mono (by simp)))
end
end PL
/-! PL, part MN: what is plain; what the law looks at. -/
namespace PL
open PySem PySem.Spec PyProof.Rows L2
/-! ### plain data: strs, ints, tuples of such, by depth -/
def plainN : Nat → PV → Bool
  | _, .str _ => true
  | _, .int _ => true
  | n + 1, .tup xs => decide (xs.length ≤ 1000000) && xs.all (plainN n)
  | _, _ => false
theorem plain_tup {n : Nat} {xs : List PV} (h : plainN (n + 1) (.tup xs) = true) : xs.length ≤ 1000000 ∧ ∀ x ∈ xs, plainN n x = true := by
  unfold plainN at h
  rw [Bool.and_eq_true] at h
  exact ⟨of_decide_eq_true h.1, List.all_eq_true.mp h.2⟩
theorem plain_of {n : Nat} {xs : List PV} (h : xs.length ≤ 1000000) (h2 : ∀ x ∈ xs, plainN n x = true) : plainN (n + 1) (.tup xs) = true := by
  unfold plainN
  rw [Bool.and_eq_true]
  exact ⟨decide_eq_true h, List.all_eq_true.mpr h2⟩
theorem plain_data : ∀ (n : Nat) (v : PV), plainN n v = true → isD v = true ∧ (toD v).depth ≤ n ∧ PyData.eqv (toD v) (toD v) = true
  | n, v, h => by
    have base : ∀ z, isD (.str z) = true ∧ (toD (.str z)).depth ≤ n ∧ PyData.eqv (toD (.str z)) (toD (.str z)) = true := fun z => by
      refine ⟨rfl, ?_, ?_⟩ <;> simp [toD, PyData.depth, PyData.eqv]
    have basi : ∀ z, isD (.int z) = true ∧ (toD (.int z)).depth ≤ n ∧ PyData.eqv (toD (.int z)) (toD (.int z)) = true := fun z => by
      refine ⟨rfl, ?_, ?_⟩ <;> simp [toD, PyData.depth, PyData.eqv]
    cases v with
    | str z => exact base z
    | int z => exact basi z
    | tup xs =>
      cases n with
      | zero => cases h
      | succ n =>
        obtain ⟨hl, hx⟩ := plain_tup h
        have key : ∀ ys : List PV, (∀ y ∈ ys, plainN n y = true) → isDs ys = true ∧ PyData.depthAll (toDs ys) ≤ n ∧ PyData.eqvAll (toDs ys) (toDs ys) = true := by
          intro ys
          induction ys with
          | nil => intro _; exact ⟨rfl, by simp [toDs, PyData.depthAll], by simp [toDs, PyData.eqvAll]⟩
          | cons y ys ih =>
            intro hy
            obtain ⟨a1, a2, a3⟩ := plain_data n y (hy y List.mem_cons_self)
            obtain ⟨b1, b2, b3⟩ := ih fun z m => hy z (List.mem_cons_of_mem _ m)
            refine ⟨?_, ?_, ?_⟩
            · simp only [isDs, a1, b1, Bool.and_self]
            · simp only [toDs, PyData.depthAll]; omega
            · simp only [toDs, PyData.eqvAll, a3, b3, Bool.and_self]
        obtain ⟨k1, k2, k3⟩ := key xs hx
        refine ⟨by simpa only [isD] using k1, ?_, ?_⟩
        · simp only [toD, PyData.depth]; omega
        · simp only [toD, PyData.eqv, k3]
    | _ => cases n <;> cases h
section
variable {st s : Store} {Q : PV → Store → Prop}
theorem o_neP {n : Nat} {v : PV} (h : plainN n v = true) (hn : n ≤ 60) : Sat (pNe v v st) Q = Q (.bl false) st := by
  obtain ⟨h1, h2, h3⟩ := plain_data n v h
  unfold pNe
  rw [if_pos ⟨h1, h1, by omega⟩, sat_ok, h3]
  rfl
theorem o_eqP {n : Nat} {v : PV} (h : plainN n v = true) (hn : n ≤ 60) : Sat (pEq v v st) Q = Q (.bl true) st := by
  obtain ⟨h1, h2, h3⟩ := plain_data n v h
  unfold pEq
  rw [if_pos ⟨h1, h1, by omega⟩, sat_ok, h3]
/-- a comprehension that picks, any target -/
theorem comp_filtT {α : Type} {tg : Tg} {test : TM} {elt : EM} {env : PEnv} {as : List α} {f : α → PV} {g : α → PV} {p : α → Bool} {Q : List PV → Store → Prop} (hn : as.length ≤ 1000000)
    (hs : ∀ a ∈ as, ∃ e, setTg tg (f a) env = some e ∧ test e st = .ok (p a) st ∧ (p a = true → elt e st = .ok (g a) st)) (hd : Q ((as.filter p).map g) st) (ok : Store → Prop) (hok : ok st) :
    Sat (compL tg test elt ok (as.map f) env st []) Q := by
  refine comp_inv (fun j acc t => t = st ∧ acc = ((as.take j).filter p).map g) (k := 0) ⟨rfl, rfl⟩ ?_ ?_ (by rintro i a t ⟨rfl, _⟩; exact hok)
  · rintro j v t acc hv ⟨rfl, rfl⟩
    rw [List.getElem?_map] at hv
    cases e : as[j]? with
    | none => rw [e] at hv; cases hv
    | some a =>
      rw [e] at hv
      cases hv
      have ma := List.mem_of_getElem? e
      obtain ⟨en, h1, h2, h3⟩ := hs a ma
      refine ⟨en, h1, ?_⟩
      rw [h2, sat_ok, Nat.zero_add]
      have hj : j < as.length := (List.getElem?_eq_some_iff.mp e).1
      have e1 : as.take (j + 1) = as.take j ++ [a] := by rw [List.take_add_one, e]; rfl
      cases hp : p a with
      | true =>
        rw [if_pos rfl, h3 hp, sat_ok]
        refine ⟨?_, rfl, by rw [e1, List.filter_append]; simp [hp]⟩
        have h1 := List.length_filter_le p (as.take j)
        have h2 : (as.take j).length ≤ as.length := by rw [List.length_take]; omega
        rw [sizeLine_eq, List.length_map]
        omega
      | false =>
        rw [if_neg (by simp)]
        exact ⟨rfl, by rw [e1, List.filter_append]; simp [hp]⟩
  · rintro acc t ⟨rfl, rfl⟩
    rw [Nat.zero_add, List.length_map, List.take_length]
    exact hd
theorem comp_mapT {α : Type} {tg : Tg} {elt : EM} {env : PEnv} {as : List α} {f : α → PV} {g : α → PV} {Q : List PV → Store → Prop} (hn : as.length ≤ 1000000)
    (hs : ∀ a ∈ as, ∃ e, setTg tg (f a) env = some e ∧ elt e st = .ok (g a) st) (hd : Q (as.map g) st) (ok : Store → Prop) (hok : ok st) :
    Sat (compL tg tYesM elt ok (as.map f) env st []) Q :=
  comp_filtT (p := fun _ => true) hn (fun a m => let ⟨e, h1, h2⟩ := hs a m; ⟨e, h1, rfl, fun _ => h2⟩) (by rw [List.filter_eq_self.mpr (by simp)]; exact hd) ok hok
theorem isi_si {v : PV} {t : String} (h1 : tyName st v = some t) (h2 : kitAll t [.con (.ty "str"), .con (.ty "int")] = some true) : Sat (pIsi [v, .tup [.con (.ty "str"), .con (.ty "int")]] st) Q = Q (.bl true) st := by
  unfold pIsi
  simp only [h1, h2]
  rw [if_pos (show allTys [PV.con (V.ty "str"), PV.con (V.ty "int")] = true from rfl), sat_ok]
theorem plain_eq : ∀ (n m : Nat) (v : PV), plainN n v = true → n < m → fuelF 2 f_law_plain m [v] st = .ok (.bl true) st
  | n, 0, v, h, hm => by omega
  | n, m + 1, v, h, hm => by
    refine det fun Q q => ?_
    show Sat (runBody 2 (f_law_plain (fuelF 2 f_law_plain m)) [v] st) Q
    refine sat_body ?_
    unfold f_law_plain
    simp only [List.map_cons, List.map_nil, List.length_cons, List.length_nil, Nat.reduceAdd, Nat.reduceSub, List.reduceReplicate, List.cons_append, List.nil_append]
    cases v with
    | str z =>
      rw [ss_seq, ss_if, sat_test, sat_args, sat_cons, sat_var rfl, sat_cons, sat_c, sat_nil, isi_of rfl (show kitB "str" "tuple" = some false by decide +kernel), sat_truth, if_neg (by simp), ss_nil, ss_ret, sat_andv, sat_notv, sat_args, sat_cons, sat_var rfl, sat_cons, sat_c, sat_nil, isi_of rfl kit_sb]
      simp only [Bool.not_false]
      rw [sat_args, sat_cons, sat_var rfl, sat_cons, sat_args, sat_cons, sat_c, sat_cons, sat_c, sat_nil, sat_tup]
      refine ⟨sl2, ?_⟩
      rw [sat_nil, isi_si rfl (by decide +kernel)]
      exact q
    | int z =>
      rw [ss_seq, ss_if, sat_test, sat_args, sat_cons, sat_var rfl, sat_cons, sat_c, sat_nil, isi_of rfl (show kitB "int" "tuple" = some false by decide +kernel), sat_truth, if_neg (by simp), ss_nil, ss_ret, sat_andv, sat_notv, sat_args, sat_cons, sat_var rfl, sat_cons, sat_c, sat_nil, isi_of rfl kit_ib]
      simp only [Bool.not_false]
      rw [sat_args, sat_cons, sat_var rfl, sat_cons, sat_args, sat_cons, sat_c, sat_cons, sat_c, sat_nil, sat_tup]
      refine ⟨sl2, ?_⟩
      rw [sat_nil, isi_si rfl (by decide +kernel)]
      exact q
    | tup xs =>
      cases n with
      | zero => cases h
      | succ n =>
        obtain ⟨hl, hx⟩ := plain_tup h
        rw [ss_seq, ss_if, sat_test, sat_args, sat_cons, sat_var rfl, sat_cons, sat_c, sat_nil, isi_of rfl kit_tt, sat_truth, if_pos rfl, ss_ret, sat_bin, sat_args, sat_cons, sat_comp, sat_iVal, sat_var rfl, o_itT]
        have := comp_filtT (st := st) (tg := .one 1) (test := tNotM (eTest (eCall 1 (fuelF 2 f_law_plain m) (aCons (eVar 1) aNil)))) (elt := eVar 1) (env := wipeP [some (.tup xs), none] [1]) (as := xs) (f := id) (g := id) (p := fun _ => false) (Q := fun ys s => ys = [] ∧ s = st) hl
          (fun x mx => ⟨_, rfl, det fun Q q => by
            rw [sat_not, sat_test, sat_call, sat_cons, sat_var (v := x) (by simp [wipeP]), sat_nil]
            refine ⟨rfl, ?_⟩
            rw [plain_eq n m x (hx x mx) (by omega), sat_ok, sat_truth]
            exact q, fun z => by cases z⟩) (by simp) (fun _ => True) trivial
        rw [List.map_id] at this
        refine this.mono ?_
        rintro ys t ⟨rfl, rfl⟩
        rw [o_finF, sat_nil, sat_one, o_lenL, sat_c, o_eqI]
        exact q
    | _ => cases n <;> cases h
theorem law_plain_eq {n : Nat} {v : PV} (h : plainN n v = true) (hn : n < 60) : m_law_plain [v] st = .ok (.bl true) st := plain_eq n 60 v h hn
theorem Walks.len {v : PV} {xs : List PV} (h : Walks st v xs) : Sat (pLen v st) Q = Q (.int xs.length) st := by
  rcases h with (rfl | rfl | rfl) | ⟨l, rfl, h⟩
  · exact o_lenT
  · exact o_lenL
  · exact o_lenF
  · exact o_lenP h
theorem Walks.gr {L : List Nat} {v : PV} {xs : List PV} (h : Walks st v xs) (g : Gr L st s) (hL : ∀ l, v = .loc l → l ∉ L) : Walks s v xs := by
  rcases h with h | ⟨l, rfl, h⟩
  · exact .inl h
  · exact .inr ⟨l, rfl, g.at' h (hL l rfl)⟩
theorem plain_lt {l : Lt} : plainN 1 l.pv = true := by
  cases l <;> refine plain_of (by simp) ?_ <;> simp [plainN]
theorem plain_bag {b : List Lt} (h : b.length ≤ 1000000) : plainN 2 (bagPV b) = true := by
  refine plain_of (by simpa using h) fun x m => ?_
  obtain ⟨l, _, rfl⟩ := List.mem_map.mp m
  exact plain_lt
theorem plain_pr {p : Pr} : plainN 1 (prPV p) = true := by
  refine plain_of (by simp) ?_
  simp [plainN]
theorem plain_j {w : List Pr} (h : w.length ≤ 1000000) : plainN 2 (jPV w) = true := by
  refine plain_of (by simpa using h) fun x m => ?_
  obtain ⟨l, _, rfl⟩ := List.mem_map.mp m
  exact plain_pr
theorem plain_names {w : List Pr} (h : w.length ≤ 1000000) : plainN 1 (.tup (w.map fun p => .str p.1)) = true := by
  refine plain_of (by simpa using h) fun x m => ?_
  obtain ⟨l, _, rfl⟩ := List.mem_map.mp m
  rfl
end
section
variable {V : Fv} {G : Gm} {S : RS} {B r : Nat} {st s : Store} {Q : PV → Store → Prop}
theorem plain_sav (h1 : (G.w.take S.n).length ≤ 1000) (h2 : ∀ i, (S.a i).length ≤ 1000) : plainN 4 (savPV G S) = true := by
  have up : ∀ {n : Nat} {w : List Pr}, w.length ≤ 1000 → plainN (n + 2) (jPV w) = true := fun {n w} h => by
    refine plain_of (by simp; omega) fun x m => ?_
    obtain ⟨l, _, rfl⟩ := List.mem_map.mp m
    refine plain_of (by simp) ?_
    cases n <;> simp [plainN]
  refine plain_of (by simp) fun x m => ?_
  simp only [List.mem_cons, List.not_mem_nil, or_false] at m
  rcases m with rfl | rfl
  · exact up (n := 1) h1
  · refine plain_of (by simp) fun x m => ?_
    simp only [List.mem_cons, List.not_mem_nil, or_false] at m
    rcases m with rfl | rfl | rfl <;> exact up (n := 0) (h2 _)
/-- what the law's model keeps, wherever it stands -/
structure Seen (G : Gm) (S : RS) (st : Store) (j A b : PV) : Prop where
  j : Walks st j ((G.w.take S.n).map prPV)
  a : ∀ i : Nat, i < 3 → ∃ v, pIx A (.int i) st = .ok v st ∧ Walks st v ((S.a i).map prPV)
  b : Walks st b (S.bag.map Lt.pv)
theorem F_pre {i : Int} {n : Nat} : ((G.w.filter fun p => decide (G.ow p.1 = i)).map fun p => PV.str p.1).take (G.F i n).length = (G.F i n).map fun p => PV.str p.1 := by
  rw [← List.map_take]
  congr 1
  exact (List.prefix_iff_eq_take.mp (List.IsPrefix.filter _ (List.take_prefix n G.w))).symm
theorem law_is_eq (h : G.Ok) (iv : Iv G S B) (hB : B ≤ 100000) (hR : RunAt V G r S st) {j A b : PV} (hS : Seen G S st j A b) :
    m_law_is V [G.pv, .loc r, jPV G.w, .str G.z, j, A, b] st = .ok (.bl true) st := by
  have hsz := iv.sz
  have hw5 := h.wl
  have hn := iv.n
  have htl : (G.w.take S.n).length = S.n := by rw [List.length_take]; omega
  refine det fun Q q => sat_body ?_
  unfold f_law_is
  simp only [List.map_cons, List.map_nil, List.length_cons, List.length_nil, Nat.reduceAdd, Nat.reduceSub, List.reduceReplicate, List.cons_append, List.nil_append]
  have pb := plain_bag (b := S.bag) (by omega)
  rw [ss_seq, ss_if, sat_or, sat_not, sat_test, sat_call, sat_cons, sat_fldi rfl hR.run rfl, sat_nil]
  refine ⟨rfl, ?_⟩
  rw [law_plain_eq pb (by omega), sat_ok, sat_truth, if_neg (by simp), sat_test, sat_bin, sat_fldi rfl hR.run rfl, sat_args, sat_cons, sat_var rfl, sat_nil, sat_one, hS.b.tup, o_neP pb (by omega), sat_truth, if_neg (by simp), ss_nil]
  have pj := plain_j (w := G.w.take S.n) (by omega)
  rw [ss_seq, ss_if, sat_or, sat_not, sat_test, sat_call, sat_cons, sat_prop_at rfl hR.run, record_eq hR, sat_ok, sat_nil]
  refine ⟨rfl, ?_⟩
  rw [law_plain_eq pj (by omega), sat_ok, sat_truth, if_neg (by simp), sat_or, sat_test, sat_bin, sat_prop_at rfl hR.run, record_eq hR, sat_ok, sat_args, sat_cons, sat_var rfl, sat_nil, sat_one, hS.j.tup, o_neP pj (by omega), sat_truth, if_neg (by simp),
    sat_test, sat_bin, sat_prop_at rfl hR.run, record_eq hR, sat_ok, sat_sl, sat_var rfl, sat_oNone, sat_oSome, sat_args, sat_cons, sat_var rfl, sat_nil, sat_one, hS.j.len]
  simp only
  rw [o_slTt, List.length_map, htl, cut_lo' (by rw [List.length_map]; exact hn), ← List.map_take, o_neP pj (by omega), sat_truth, if_neg (by simp), ss_nil]
  rw [ss_seq, ss_for, sat_iRange1, sat_c, o_rng]
  refine ⟨by decide, ?_⟩
  refine for_invN (k := 0) (fun i e s => s = st ∧ ∃ x y z : Option PV, e = [some G.pv, some (.loc r), some (jPV G.w), some (.str G.z), some j, some A, some b, x, y, z, none, none]) ⟨rfl, none, none, none, rfl⟩ ?_ ?_
  · rintro i v e s hv ⟨rfl, x, y, z, rfl⟩
    obtain ⟨hi, rfl⟩ := rngs_get hv
    rw [show ((0 : Int) + (i : Int)) = (i : Int) by omega]
    have hi3 : i < 3 := hi
    have hla := iv.len h (i := (i : Int))
    have pv := plain_names (w := S.a i) (by omega)
    refine ⟨_, rfl, ?_⟩
    rw [ss_seq, ss_set, sat_meth_at (l := r) rfl hR.run rfl, sat_cons, sat_var rfl, sat_nil]
    refine ⟨rfl, ?_⟩
    rw [view_eq hi3 (by omega) hR, sat_ok, ss_seq, ss_set, sat_args, sat_cons, sat_comp, sat_iVal, sat_var rfl, o_itT]
    refine comp_filtT (as := G.w) (f := prPV) (g := fun p => .str p.1) (p := fun p => decide (G.ow p.1 = i)) (by omega) (fun p mp => ⟨_, rfl, det fun Q q => by
      rw [sat_test, sat_bin, sat_call, sat_cons, sat_bin, sat_var (v := G.pv) (by simp [wipeP, setTgs]), sat_c]
      unfold Gm.pv
      rw [o_ixT, ixW_0, sat_cons, sat_var (v := .str p.1) (by simp [wipeP, setTgs]), sat_nil]
      refine ⟨rfl, ?_⟩
      rw [owner_eq h (h.wr p mp), sat_ok, sat_var (v := .int i) (by simp [wipeP, setTgs]), o_eqI, sat_truth]
      exact q, fun _ => det fun Q q => by rw [sat_var (v := .str p.1) (by simp [wipeP, setTgs])]; exact q⟩) ?_ _ trivial
    rw [o_finF, sat_nil, sat_one, o_tupL]
    obtain ⟨va, hva, hwa⟩ := hS.a i hi3
    obtain ⟨pit, hp1, hp2, hp3⟩ := hwa.iter
    rw [ss_seq, ss_if, sat_or, sat_not, sat_test, sat_call, sat_cons, sat_var rfl, sat_nil]
    refine ⟨rfl, ?_⟩
    rw [law_plain_eq pv (by omega), sat_ok, sat_truth, if_neg (by simp), sat_test, sat_bin, sat_var rfl, sat_args, sat_cons, sat_comp, sat_iVal, sat_bin, sat_var rfl, sat_var rfl, hva, sat_ok, hp1, sat_ok, hp2]
    refine comp_mapT (as := S.a i) (f := prPV) (g := fun p => .str p.1) (by omega) (fun p mp => ⟨_, rfl, det fun Q q => by rw [sat_var (v := .str p.1) (by simp [wipeP, setTgs])]; exact q⟩) ?_ _ hp3
    rw [o_finF, sat_nil, sat_one, o_tupL, o_neP pv (by omega), sat_truth, if_neg (by simp), ss_nil]
    rw [ss_if, sat_test, sat_bin, sat_var rfl, sat_sl, sat_var rfl, sat_oNone, sat_oSome, sat_args, sat_cons, sat_var rfl, sat_nil, sat_one, o_lenT]
    simp only
    have hpre : ((G.w.filter fun p => decide (G.ow p.1 = i)).map fun p => PV.str p.1).take (S.a i).length = (S.a i).map fun p => PV.str p.1 := by
      rcases iv.a i with e | e <;> rw [e] <;> exact F_pre
    have hle : (S.a i).length ≤ ((G.w.filter fun p => decide (G.ow p.1 = i)).map fun p => PV.str p.1).length := by
      have := congrArg List.length hpre
      simp only [List.length_take, List.length_map] at this ⊢
      omega
    rw [o_slTt, List.length_map, cut_lo' hle, hpre, o_neP pv (by omega), sat_truth, if_neg (by simp), ss_nil]
    exact ⟨rfl, _, _, _, rfl⟩
  · rintro e s ⟨rfl, x, y, z, rfl⟩
    rw [ss_seq, ss_if, sat_test, sat_bin, sat_args, sat_cons, sat_var rfl, sat_nil, sat_one, hS.j.len, sat_args, sat_cons, sat_var rfl, sat_nil, sat_one, o_lenT, o_ltI, sat_truth, List.length_map, List.length_map, htl]
    by_cases e : S.n = G.w.length
    · rw [decide_eq_false (by omega), if_neg (by simp), ss_nil, ss_ret, sat_andv, sat_args, sat_cons, sat_prop_at rfl hR.run, ending_eq h hn hR, sat_ok, sat_cons, sat_c, sat_nil]
      unfold endPV
      rw [if_pos e, isi_s]
      simp only
      rw [sat_bin, sat_prop_at rfl hR.run, ending_eq h hn hR, sat_ok, sat_var rfl]
      unfold endPV
      rw [if_pos e, o_eqS, decide_eq_true rfl]
      exact q
    · rw [decide_eq_true (by omega), if_pos rfl, ss_ret, sat_bin, sat_prop_at rfl hR.run, ending_eq h hn hR, sat_ok, sat_c]
      unfold endPV
      rw [if_neg e, o_isN]
      exact q
end
end PL
/-! PL, part MO: saved, finished, drawn events. -/
namespace PL
open PySem PySem.Spec PyProof.Rows L2
section
variable {V : Fv} {G : Gm} {S : RS} {B r c : Nat} {P : Pl} {st s : Store} {Q : PV → Store → Prop}
theorem ansPV_ix {i : Nat} (hi : i < 3) : pIx (ansPV P) (.int i) st = .ok (.loc (P.b i)) st := by
  refine det fun Q q => ?_
  rw [o_ixL]
  refine ixW_of ?_ q
  rcases (show i = 0 ∨ i = 1 ∨ i = 2 by omega) with rfl | rfl | rfl <;> rfl
theorem LawAt.seen (hL : LawAt G c P S st) : Seen G S st (.loc P.j) (ansPV P) (.loc P.bl) where
  j := .inr ⟨_, rfl, hL.j⟩
  a := fun i hi => ⟨_, ansPV_ix hi, .inr ⟨_, rfl, hL.b i hi⟩⟩
  b := .inr ⟨_, rfl, hL.bl⟩
/-- [tuple(own) for own in answers] -/
theorem tups_ok {i : Nat} {env : PEnv} {as : List (PV × List PV)} (hi : i < env.length) (hn : as.length ≤ 1000) (hw : ∀ a ∈ as, Walks st a.1 a.2) {Q : List PV → Store → Prop} (hd : Q (as.map fun a => .tup a.2) st) (ok : Store → Prop) (hok : ok st) :
    Sat (compL (.one i) tYesM (eArgs (one pTuple) (aCons (eVar i) aNil)) ok (as.map (·.1)) env st []) Q :=
  comp_map hi (by omega) (fun a ma => det fun Q q => by
    rw [sat_args, sat_cons, sat_var (v := a.1) (by simp [hi]), sat_nil, sat_one, (hw a ma).tup]
    exact q) hd ok hok
theorem law_saved_ok {pl : Int → List Int} (h : G.Ok) (hP : G.P pl) (iv : Iv G S B) (hB : B ≤ 100000) (hR : RunAt V G r S st) (hL : LawAt G c P S st)
    (k : ∀ s, RunAt V G st.length (S.back G) s → Gr [] st s → st.length + 8 ≤ s.length → Q (.loc st.length) s) :
    Sat (m_law_saved V [G.pv, profPV pl, .loc r, jPV G.w, .str G.z, .loc P.j, ansPV P, .loc P.bl] st) Q := by
  have hsz := iv.sz
  have hw5 := h.wl
  have hn := iv.n
  have htl : (G.w.take S.n).length = S.n := by rw [List.length_take]; omega
  have ps : plainN 4 (savPV G S) = true := plain_sav (by omega) fun i => by have := iv.len h (i := i); omega
  refine sat_body ?_
  unfold f_law_saved
  simp only [List.map_cons, List.map_nil, List.length_cons, List.length_nil, Nat.reduceAdd, Nat.reduceSub, List.reduceReplicate, List.cons_append, List.nil_append]
  rw [ss_seq, ss_set, sat_meth_at (l := r) rfl hR.run rfl, sat_nil]
  refine ⟨rfl, ?_⟩
  rw [saved_eq hR, sat_ok, ss_seq, ss_set, sat_args, sat_cons, sat_args, sat_cons, sat_var rfl, sat_nil, sat_one, hL.seen.j.tup, sat_cons, sat_args, sat_cons, sat_comp, sat_iVal, sat_var rfl, o_itL]
  have e : [PV.loc P.b0, .loc P.b1, .loc P.b2] = ([0, 1, 2].map fun i : Nat => (PV.loc (P.b i), (S.a i).map prPV)).map (·.1) := rfl
  rw [e]
  refine tups_ok (by simp [wipeP]) (by simp) (fun a ma => ?_) ?_ _ trivial
  · obtain ⟨i, mi, rfl⟩ := List.mem_map.mp ma
    have hi : i < 3 := by simp only [List.mem_cons, List.not_mem_nil, or_false] at mi; omega
    exact .inr ⟨_, rfl, hL.b i hi⟩
  rw [o_finF, sat_nil, sat_one, o_tupL, sat_nil, sat_tup]
  refine ⟨sl2, ?_⟩
  have ed : PV.tup [.tup ((G.w.take S.n).map prPV), .tup (([0, 1, 2].map fun i : Nat => (PV.loc (P.b i), (S.a i).map prPV)).map fun a => .tup a.2)] = savPV G S := rfl
  rw [ed]
  rw [ss_seq, ss_if, sat_or, sat_not, sat_test, sat_call, sat_cons, sat_var rfl, sat_nil]
  refine ⟨rfl, ?_⟩
  rw [law_plain_eq ps (by omega), sat_ok, sat_truth, if_neg (by simp), sat_test, sat_bin, sat_var rfl, sat_var rfl, o_neP ps (by omega), sat_truth, if_neg (by simp), ss_nil]
  rw [ss_seq, ss_set, sat_call, sat_cons, sat_var rfl, sat_cons, sat_var rfl, sat_cons, sat_var rfl, sat_nil]
  refine ⟨rfl, resumed_ok h hP hn fun s1 hR1 g1 l1 => ?_⟩
  have hL1 : LawAt G c P S s1 := hL.gr g1 (by simp) (by simp)
  have hRa : RunAt V G r S s1 := hR.gr g1 (by simp)
  rw [ss_seq, ss_if, sat_not, sat_test, sat_call, sat_cons, sat_var rfl, sat_cons, sat_var rfl, sat_cons, sat_var rfl, sat_cons, sat_var rfl, sat_cons, sat_var rfl, sat_cons, sat_var rfl, sat_cons, sat_call, sat_cons, sat_var rfl, sat_cons, sat_var rfl, sat_nil]
  refine ⟨rfl, law_ask_ok h hn hL1.j ?_⟩
  have g2 : Gr [] s1 (s1 ++ [PO.lst ((G.asks S.n).map Lt.pv)]) := .app
  have hL2 : LawAt G c P S (s1 ++ [PO.lst ((G.asks S.n).map Lt.pv)]) := hL1.gr g2 (by simp) (by simp)
  have hR2 := hR1.gr g2 (by simp)
  have hRb := hRa.gr g2 (by simp)
  have hx2 : (s1 ++ [PO.lst ((G.asks S.n).map Lt.pv)])[s1.length]? = some (.lst ((G.asks S.n).map Lt.pv)) := by simp
  have l2 : st.length + 8 ≤ (s1 ++ [PO.lst ((G.asks S.n).map Lt.pv)]).length := by simp; omega
  generalize s1 ++ [PO.lst ((G.asks S.n).map Lt.pv)] = s2 at *
  generalize s1.length = x2 at *
  rw [sat_nil]
  refine ⟨rfl, ?_⟩
  have hs2 : Seen G (S.back G) s2 (.loc P.j) (ansPV P) (.loc x2) := ⟨hL2.seen.j, hL2.seen.a, .inr ⟨_, rfl, hx2⟩⟩
  rw [law_is_eq h (iv_back h iv) (by decide) hR2 hs2, sat_ok, sat_truth, if_neg (by simp), ss_nil]
  rw [ss_seq, ss_if, sat_not, sat_test, sat_call, sat_cons, sat_var rfl, sat_cons, sat_var rfl, sat_cons, sat_var rfl, sat_cons, sat_var rfl, sat_cons, sat_var rfl, sat_cons, sat_var rfl, sat_cons, sat_var rfl, sat_nil]
  refine ⟨rfl, ?_⟩
  rw [law_is_eq h iv hB hRb hL2.seen, sat_ok, sat_truth, if_neg (by simp), ss_nil, ss_ret, sat_var rfl]
  exact k s2 hR2 (g1.trans g2) l2
theorem F_all {i : Int} : G.F i G.w.length = G.w.filter fun p => decide (G.ow p.1 = i) := by unfold Gm.F; rw [List.take_length]
theorem law_finished_ok (h : G.Ok) (iv : Iv G S B) (hB : B ≤ 100000) (hR : RunAt V G r S st) {b : PV} (hb : Walks st b (S.bag.map Lt.pv)) (hbl : ∀ l, b = .loc l → l ∉ FR r)
    (k : ∀ s, RunAt V G r (S.fin G) s → Gr (FR r) st s → Q (.bl true) s) :
    Sat (m_law_finished V [G.pv, .loc r, jPV G.w, .str G.z, b] st) Q := by
  have hsz := iv.sz
  have hw5 := h.wl
  have ivf := iv_fin h iv
  refine sat_body ?_
  unfold f_law_finished
  simp only [List.map_cons, List.map_nil, List.length_cons, List.length_nil, Nat.reduceAdd, Nat.reduceSub, List.reduceReplicate, List.cons_append, List.nil_append]
  rw [ss_seq, ss_set, sat_meth_at (l := r) rfl hR.run rfl, sat_nil]
  refine ⟨rfl, finish_ok h iv hR fun s1 hR1 g1 => ?_⟩
  rw [ss_seq, ss_if, sat_or, sat_not, sat_test, sat_args, sat_cons, sat_var rfl, sat_cons, sat_c, sat_nil, isi_s, sat_truth, if_neg (by simp), sat_test, sat_bin, sat_var rfl, sat_var rfl, o_neS, decide_eq_true rfl, sat_truth, if_neg (by simp), ss_nil]
  rw [ss_seq, ss_set, sat_args, sat_nil, sat_loc]
  refine ⟨sl0, ?_⟩
  have hb1 := hb.gr g1 hbl
  have g2 : Gr [] s1 (s1 ++ [PO.lst []]) := .app
  have hx2 : (s1 ++ [PO.lst []])[s1.length]? = some (.lst []) := by simp
  have hR2 := hR1.gr g2 (by simp)
  have hb2 := hb1.gr g2 (by simp)
  have nb : ∀ l, b = .loc l → l ≠ s1.length := fun l e => by
    subst e
    rcases hb1 with (h | h | h) | ⟨l', e, h⟩
    · cases h
    · cases h
    · cases h
    · cases e
      have := lt_of_some h
      omega
  have hxr : s1.length < r ∨ r + 8 ≤ s1.length := by
    have := lt_of_some (hR1.dc 2 (by omega))
    omega
  have gx : Gr [s1.length] s1 (s1 ++ [PO.lst []]) := .app
  have g12 : Gr (FR r) st (s1 ++ [PO.lst []]) := g1.trans .app
  have l0 : s1.length < (s1 ++ [PO.lst []]).length := by simp
  have hsl : st.length ≤ s1.length := g1.len
  generalize s1 ++ [PO.lst []] = s2 at *
  generalize s1.length = x at *
  rw [ss_seq, ss_for, sat_iRange1, sat_c, o_rng]
  refine ⟨by decide, ?_⟩
  refine for_invN (k := 0) (fun i e s => (∃ y : Option PV, e = [some G.pv, some (.loc r), some (jPV G.w), some (.str G.z), some b, some (.str G.z), some (.loc x), y, none, none, none]) ∧ s[x]? = some (.lst ((List.range i).map fun o : Nat => .lst ((G.F o G.w.length).map prPV))) ∧ i ≤ 3 ∧ Gr [x] s2 s)
    ⟨⟨none, rfl⟩, hx2, Nat.zero_le _, .refl⟩ ?_ ?_
  · rintro i v e s hv ⟨⟨y, rfl⟩, hx, h3, g3⟩
    rw [Nat.zero_add] at hx
    rw [Nat.zero_add]
    obtain ⟨hi, rfl⟩ := rngs_get hv
    have hi3 : i < 3 := hi
    rw [show ((0 : Int) + (i : Int)) = (i : Int) by omega]
    refine ⟨_, rfl, ?_⟩
    rw [ss_expr, sat_meth, sat_var rfl]
    refine ⟨o_isL hx, ?_⟩
    rw [sat_cons, sat_comp, sat_iVal, sat_var rfl, o_itT]
    refine comp_filt (as := G.w) (f := prPV) (g := prPV) (p := fun p => decide (G.ow p.1 = i)) (by simp [wipeP]) (by omega) (fun p mp => det fun Q q => by
      rw [sat_test, sat_bin, sat_call, sat_cons, sat_bin, sat_var (v := G.pv) (by simp [wipeP]), sat_c]
      unfold Gm.pv
      rw [o_ixT, ixW_0, sat_cons, sat_bin, sat_var (v := prPV p) (by simp [wipeP]), sat_c]
      unfold prPV
      rw [o_ixT, ixW_0, sat_nil]
      refine ⟨rfl, ?_⟩
      rw [owner_eq h (h.wr p mp), sat_ok, sat_var (v := .int i) (by simp [wipeP]), o_eqI, sat_truth]
      exact q) (fun p _ _ => det fun Q q => by rw [sat_var (v := prPV p) (by simp [wipeP])]; exact q) ?_ _ trivial
    rw [o_finF, sat_nil, o_app hx]
    refine ⟨by rw [sizeLine_eq]; simp; omega, ⟨_, rfl⟩, ?_, hi3, g3.trans (.set (by simp))⟩
    rw [List.getElem?_set_self (lt_of_some hx), List.range_succ, List.map_append, ← F_all]
    rfl
  · rintro e s ⟨⟨y, rfl⟩, hx, h3, g3⟩
    have hxr' : ∀ k ∈ [x], k < r ∨ r + 8 ≤ k := fun k m => by rw [List.mem_singleton] at m; subst m; exact hxr
    have hR3 := hR2.gr g3 hxr'
    have hb3 := hb2.gr g3 fun l e m => nb l e (by simpa using m)
    have hx : s[x]? = some (.lst [.lst ((G.F (0 : Nat) G.w.length).map prPV), .lst ((G.F (1 : Nat) G.w.length).map prPV), .lst ((G.F (2 : Nat) G.w.length).map prPV)]) := hx
    have gf : Gr (FR r) st s := ⟨Nat.le_trans g12.len g3.len, fun j hj nj => (g3.same j (Nat.lt_of_lt_of_le hj g12.len) (by
      simp only [List.mem_singleton]
      omega)).trans (g12.same j hj nj)⟩
    have hfl : ∀ i, (G.F i G.w.length).length ≤ 5 := fun i => F_len h
    have ps : plainN 4 (savPV G (S.fin G)) = true := plain_sav (by rw [List.length_take]; omega) fun i => by
      have := hfl i
      show (G.F i G.w.length).length ≤ 1000
      omega
    rw [ss_seq, ss_set, sat_meth_at (l := r) rfl hR3.run rfl, sat_nil]
    refine ⟨rfl, ?_⟩
    rw [saved_eq hR3, sat_ok, ss_seq, ss_if, sat_or, sat_not, sat_test, sat_call, sat_cons, sat_var rfl, sat_nil]
    refine ⟨rfl, ?_⟩
    rw [law_plain_eq ps (by omega), sat_ok, sat_truth, if_neg (by simp), sat_test, sat_bin, sat_var rfl, sat_args, sat_cons, sat_args, sat_cons, sat_var rfl, sat_nil, sat_one, o_tupT, sat_cons, sat_args, sat_cons, sat_comp, sat_iVal, sat_var rfl, o_itP hx]
    have e : [PV.lst ((G.F (0 : Nat) G.w.length).map prPV), .lst ((G.F (1 : Nat) G.w.length).map prPV), .lst ((G.F (2 : Nat) G.w.length).map prPV)] = ([0, 1, 2].map fun i : Nat => (PV.lst ((G.F i G.w.length).map prPV), (G.F i G.w.length).map prPV)).map (·.1) := rfl
    simp only [e]
    refine tups_ok (by simp [wipeP]) (by simp) (fun a ma => ?_) ?_ _ (by rw [← e]; exact hx)
    · obtain ⟨i, mi, rfl⟩ := List.mem_map.mp ma
      exact .inl (.inr (.inl rfl))
    rw [o_finF, sat_nil, sat_one, o_tupL, sat_nil, sat_tup]
    refine ⟨sl2, ?_⟩
    have ed : PV.tup [.tup (G.w.map prPV), .tup (([0, 1, 2].map fun i : Nat => (PV.lst ((G.F i G.w.length).map prPV), (G.F i G.w.length).map prPV)).map fun a => .tup a.2)] = savPV G (S.fin G) := by
      show _ = PV.tup [.tup ((G.w.take G.w.length).map prPV), _]
      rw [List.take_length]
      rfl
    rw [ed, o_neP ps (by omega), sat_truth, if_neg (by simp), ss_nil]
    rw [ss_ret, sat_call, sat_cons, sat_var rfl, sat_cons, sat_var rfl, sat_cons, sat_var rfl, sat_cons, sat_var rfl, sat_cons, sat_args, sat_cons, sat_var rfl, sat_nil, sat_one, o_listT, sat_cons, sat_var rfl, sat_cons, sat_var rfl, sat_nil]
    refine ⟨rfl, ?_⟩
    have hSn : Seen G (S.fin G) s (.lst (G.w.map prPV)) (.loc x) b := by
      refine ⟨?_, fun i hi => ⟨.lst ((G.F i G.w.length).map prPV), det fun Q q => ?_, .inl (.inr (.inl rfl))⟩, hb3⟩
      · show Walks s _ ((G.w.take G.w.length).map prPV)
        rw [List.take_length]
        exact .inl (.inr (.inl rfl))
      · rw [o_ixP hx]
        refine ixW_of ?_ q
        rcases (show i = 0 ∨ i = 1 ∨ i = 2 by omega) with rfl | rfl | rfl <;> rfl
    rw [law_is_eq h ivf hB hR3 hSn, sat_ok]
    exact k s hR3 gf
/-! ### drawn events -/
theorem drawn_event_ok {ns : List Int} {l : Nat} (hs : SrcAt st l) (k : ∀ (e : Ev) s, e.Ok → SrcAt s l → Gr [l] st s → Q e.pv s) : Sat (m_law_drawn_event [scr ns, .loc l] st) Q := by
  refine sat_body ?_
  unfold f_law_drawn_event
  simp only [List.map_cons, List.map_nil, List.length_cons, List.length_nil, Nat.reduceAdd, Nat.reduceSub, List.reduceReplicate, List.cons_append, List.nil_append]
  have dr : ∀ {n : Int} {env : PEnv} {s : Store} {Q : PV → Store → Prop}, env[0]? = some (some (scr ns)) → env[1]? = some (some (.loc l)) → SrcAt s l → 0 < n → n ≤ 50 → (∀ r s', 0 ≤ r → r < n → SrcAt s' l → Gr [l] s s' → Q (.int r) s') →
      Sat (eCall 3 m_law_draw (aCons (eVar 0) (aCons (eVar 1) (aCons (eC (.int n)) aNil))) env s) Q := fun {n env s Q} h0 h1 hs hn hn2 k => by
    rw [sat_call, sat_cons, sat_var h0, sat_cons, sat_var h1, sat_cons, sat_c, sat_nil]
    exact ⟨rfl, draw' hs hn (log2_k (n := 64) (by omega) (by omega)) k⟩
  rw [ss_seq, ss_set, sat_bin, sat_args, sat_cons, sat_c, sat_cons, sat_c, sat_cons, sat_c, sat_cons, sat_c, sat_cons, sat_c, sat_cons, sat_c, sat_cons, sat_c, sat_nil, sat_lst]
  refine ⟨by rw [sizeLine_eq]; simp, dr rfl rfl hs (by decide) (by decide) fun i1 s1 a1 b1 hs1 g1 => ?_⟩
  rw [o_ixL]
  refine draw_len a1 (by simpa using b1) fun y my => ?_
  obtain ⟨z, rfl, hz⟩ : ∃ z : Str, y = .str z ∧ (z = "deliver" ∨ z = "copy" ∨ z = "lose" ∨ z = "restart") := by
    simp only [List.mem_cons, List.not_mem_nil, or_false] at my
    rcases my with rfl | rfl | rfl | rfl | rfl | rfl | rfl <;> exact ⟨_, rfl, by simp⟩
  rw [ss_seq, ss_if, sat_test, sat_bin, sat_var rfl, sat_c, o_eqS, sat_truth]
  by_cases hr : z = "restart"
  · subst hr
    rw [decide_eq_true rfl, if_pos rfl, ss_ret, sat_args, sat_cons, sat_c, sat_nil, sat_tup]
    exact ⟨sl1, k .restart s1 trivial hs1 g1⟩
  rw [decide_eq_false hr, if_neg (by simp), ss_nil]
  have hz : z = "deliver" ∨ z = "copy" ∨ z = "lose" := by rcases hz with h | h | h | h <;> simp_all
  rw [ss_seq, ss_set, sat_bin, sat_args, sat_cons, sat_c, sat_cons, sat_c, sat_cons, sat_c, sat_cons, sat_c, sat_cons, sat_c, sat_cons, sat_c, sat_cons, sat_c, sat_cons, sat_c, sat_nil, sat_lst]
  refine ⟨by rw [sizeLine_eq]; simp, dr rfl rfl hs1 (by decide) (by decide) fun i2 s2 a2 b2 hs2 g2 => ?_⟩
  rw [o_ixL]
  refine draw_len a2 (by simpa using b2) fun y my => ?_
  obtain ⟨v, rfl⟩ : ∃ v : Int, y = .int v := by
    simp only [List.mem_cons, List.not_mem_nil, or_false] at my
    rcases my with rfl | rfl | rfl | rfl | rfl | rfl | rfl | rfl <;> exact ⟨_, rfl⟩
  rw [ss_seq, ss_if, sat_test, sat_bin]
  refine dr rfl rfl hs2 (by decide) (by decide) fun i3 s3 a3 b3 hs3 g3 => ?_
  rw [sat_c, o_eqI, sat_truth]
  have fin : ∀ (v : Int) (s : Store), SrcAt s l → Gr [l] st s → SatS (sRet (eArgs mkTup (aCons (eVar 2) (aCons (eVar 3) aNil))) [some (scr ns), some (.loc l), some (.str z), some (.int v)] s) (fun _ s => Q .non s) Q := fun v s hs g => by
    rw [ss_ret, sat_args, sat_cons, sat_var rfl, sat_cons, sat_var rfl, sat_nil, sat_tup]
    exact ⟨sl2, k (.ev z v) s hz hs g⟩
  by_cases h0 : i3 = 0
  · rw [decide_eq_true h0, if_pos rfl, ss_set, sat_bin, sat_args, sat_cons, sat_un, sat_c, o_negI, sat_cons, sat_un, sat_c, o_negI, sat_cons, sat_c, sat_cons, sat_c, sat_cons, sat_bin, sat_c, sat_c, o_powI]
    refine ⟨by decide, ?_⟩
    rw [sat_nil, sat_lst]
    refine ⟨by rw [sizeLine_eq]; simp, dr rfl rfl hs3 (by decide) (by decide) fun i4 s4 a4 b4 hs4 g4 => ?_⟩
    rw [o_ixL]
    refine draw_len a4 (by simpa using b4) fun y my => ?_
    obtain ⟨v, rfl⟩ : ∃ v : Int, y = .int v := by
      simp only [List.mem_cons, List.not_mem_nil, or_false] at my
      rcases my with rfl | rfl | rfl | rfl | rfl <;> exact ⟨_, rfl⟩
    exact fin v s4 hs4 (((g1.trans g2).trans g3).trans g4)
  · rw [decide_eq_false h0, if_neg (by simp), ss_nil]
    exact fin v s3 hs3 ((g1.trans g2).trans g3)
end
end PL
/-! PL, part MP: the game that the law draws; what its loops keep. -/
namespace PL
open PySem PySem.Spec PyProof.Rows L2
theorem ch_bd {rs : List Row} {pl : Int → List Int} {L : RM} (how : ∀ r ∈ rs, 0 ≤ r.o ∧ r.o ≤ 2) (hp : ∀ o, 0 ≤ o → o ≤ 2 → PlanOk o rs (pl o)) (hc : ChOk rs pl L) : ∀ x ∈ L, 0 ≤ x.2 ∧ x.2 < x.1.ws.length := fun x mx => by
  have mr : x.1 ∈ rs := by rw [← hc.rows]; exact List.mem_map.mpr ⟨x, mx, rfl⟩
  have ho := how _ mr
  have mo : x ∈ ownM x.1.o L := List.mem_filter.mpr ⟨mx, by simp⟩
  obtain ⟨q, hq, e⟩ := List.getElem_of_mem mo
  have hq' : (ownM x.1.o L)[q]? = some x := by rw [List.getElem?_eq_getElem hq, e]
  refine (hp _ ho.1 ho.2).ok q x.1 x.2 ?_ ?_
  · rw [← hc.rows, ← ownM_rows, List.getElem?_map, hq']
    rfl
  · have := congrArg (fun l => l[q]?) (hc.mv x.1.o)
    simp only [List.getElem?_map, hq', Option.map_some] at this
    rw [List.getElem?_take_of_lt hq] at this
    exact this.symm
theorem gm_ex {rs : List Row} {t : T} {pl : Int → List Int} {L : RM} (hG : Gen rs) (hl : rs.length ≤ 5) (hgr : Grow rs t) (hp : ∀ o, 0 ≤ o → o ≤ 2 → PlanOk o rs (pl o)) (hc : ChOk rs pl L) :
    ∃ G : Gm, G.rs = rs ∧ G.t = t ∧ G.L = L ∧ G.Ok ∧ G.P pl := by
  have bd := ch_bd hG.ow hp hc
  have nd : ((L.map (·.1)).map (·.n)).Nodup := by rw [hc.rows]; exact hG.nd
  have hat : ∀ x ∈ L, chL L x.1.n = x.2 := fun x mx => by
    unfold chL
    rw [find_L nd mx]
    rfl
  have hb : ∀ r ∈ rs, 0 ≤ chL L r.n ∧ chL L r.n < r.ws.length := fun r mr => by
    rw [← hc.rows] at mr
    obtain ⟨x, mx, rfl⟩ := List.mem_map.mp mr
    rw [hat x mx]
    exact bd x mx
  obtain ⟨w, z, hw, h2, h3, h4⟩ := way_ex rs.length (Nat.le_refl _) hb hgr
  refine ⟨⟨rs, t, L, w, z⟩, rfl, rfl, rfl, ⟨hG, hl, hc.rows, bd, hw, h3, fun p mp => ?_, Nat.le_trans h2 hl⟩, hc, hp⟩
  obtain ⟨r, mr, e⟩ := h4 p mp
  rw [← hc.rows] at mr
  obtain ⟨x, mx, rfl⟩ := List.mem_map.mp mr
  exact ⟨x, mx, e⟩
section
variable {V : Fv} {G : Gm} {S : RS} {B r c l : Nat} {P : Pl} {st s : Store} {Q : PV → Store → Prop}
theorem ss_par3 {i j k : Nat} {fs : AM} {env : PEnv} {N : PEnv → Store → Prop} {R : PV → Store → Prop} : SatS (sPar3 i j k fs env st) N R = Sat (fs env st) fun vs s => match vs with
    | [u, v, w] => N (((env.set i (some u)).set j (some v)).set k (some w)) s
    | _ => False := by
  unfold sPar3
  rw [ss_of]
  congr 1
  funext vs s
  rcases vs with _ | ⟨u, _ | ⟨v, _ | ⟨w, _ | ⟨x, r⟩⟩⟩⟩
  · exact ss_stuck
  · exact ss_stuck
  · exact ss_stuck
  · exact ss_nx
  · exact ss_stuck
theorem o_isNonP {v : PV} {b : Bool} (h : isNonP v = some b) : Sat (pIs v .non st) Q = Q (.bl b) st := by
  unfold pIs
  rw [h]
  exact sat_ok
theorem o_isNotNonP {v : PV} {b : Bool} (h : isNonP v = some b) : Sat (pIsNot v .non st) Q = Q (.bl (!b)) st := by
  unfold pIsNot
  rw [h]
  exact sat_ok
theorem o_neLst {n : Nat} {xs : List PV} (h : plainN n (.tup xs) = true) (hn : n ≤ 60) : Sat (pNe (.lst xs) (.lst xs) st) Q = Q (.bl false) st := by
  obtain ⟨h1, h2, h3⟩ := plain_data n _ h
  have e1 : isD (.lst xs) = true := by simp only [isD] at h1 ⊢; exact h1
  have e2 : (toD (.lst xs)).depth ≤ n := by simp only [toD, PyData.depth] at h2 ⊢; exact h2
  have e3 : PyData.eqv (toD (.lst xs)) (toD (.lst xs)) = true := by simp only [toD, PyData.eqv] at h3 ⊢; exact h3
  unfold pNe
  rw [if_pos ⟨e1, e1, by omega⟩, sat_ok, e3]
  rfl
theorem plain_evs {es : List Ev} (h : es.length ≤ 1000000) : plainN 2 (.tup (es.map Ev.pv)) = true := by
  refine plain_of (by simpa using h) fun x m => ?_
  obtain ⟨e, _, rfl⟩ := List.mem_map.mp m
  cases e <;> refine plain_of (by simp) ?_ <;> simp [plainN]
theorem cut_map {es : List Ev} {lo hi : Option Int} : ∃ fs : List Ev, cutP (es.map Ev.pv) lo hi = fs.map Ev.pv ∧ fs.length ≤ es.length ∧ ∀ e ∈ fs, e ∈ es := by
  unfold cutP
  refine ⟨(es.drop (HT.sIx (es.map Ev.pv).length 0 lo)).take (HT.sIx (es.map Ev.pv).length (es.map Ev.pv).length hi - HT.sIx (es.map Ev.pv).length 0 lo), by rw [List.map_take, List.map_drop], ?_, fun e m => List.mem_of_mem_drop (List.mem_of_mem_take m)⟩
  rw [List.length_take, List.length_drop]
  omega
/-- what the law's loops keep -/
structure Lp (V : Fv) (G : Gm) (c l : Nat) (S : RS) (B r : Nat) (P : Pl) (s : Store) : Prop where
  iv : Iv G S B
  run : RunAt V G r S s
  law : LawAt G c P S s
  pok : P.Ok
  ap : Apart r c P
  src : SrcAt s l
  lr : l < r
  lp : l ∉ FL P
theorem Lp.lc (h : Lp V G c l S B r P s) : c ≠ l := fun e => by
  obtain ⟨x, y, z, e1, _⟩ := h.src
  have := h.law.c
  rw [e, e1] at this
  cases this
/-- the source is drawn from -/
theorem Lp.drawn (h : Lp V G c l S B r P st) (g : Gr [l] st s) (hs : SrcAt s l) : Lp V G c l S B r P s where
  iv := h.iv
  run := h.run.gr g fun k m => by rw [List.mem_singleton] at m; subst m; exact .inl h.lr
  law := h.law.gr g (by simpa using h.lc) fun k m => by
    rw [List.mem_singleton]
    rintro rfl
    exact h.lp m
  pok := h.pok
  ap := h.ap
  src := hs
  lr := h.lr
  lp := h.lp
theorem Lp.told (h : Lp V G c l S B r P st) (hG : G.Ok) {e : Ev} (hR : RunAt V G r (G.hp S e).1 s) (hL : LawAt G c P (G.hp S e).1 s) (g : Gr (FR r ++ FL P) st s) : Lp V G c l (G.hp S e).1 (B + 1) r P s where
  iv := iv_hp hG h.iv e
  run := hR
  law := hL
  pok := h.pok
  ap := h.ap
  src := h.src.gr g (by
    rw [List.mem_append]
    rintro (m | m)
    · have := h.lr
      simp only [List.mem_cons, List.not_mem_nil, or_false] at m
      omega
    · exact h.lp m)
  lr := h.lr
  lp := h.lp
def bef (G : Gm) (S : RS) : PV := .lst [.lst ((G.w.take S.n).map prPV), .lst [.lst ((S.a 0).map prPV), .lst ((S.a 1).map prPV), .lst ((S.a 2).map prPV)], .lst (S.bag.map Lt.pv)]
/-- the elder run -/
def Eld (V : Fv) (G : Gm) (l r : Nat) (P : Pl) (v : PV) (w : Option PV) (s : Store) : Prop :=
  v = .non ∨ ∃ r' S' B', v = .loc r' ∧ w = some (bef G S') ∧ Iv G S' B' ∧ B' ≤ 1000 ∧ RunAt V G r' S' s ∧ r' + 8 ≤ r ∧ l < r' ∧ ∀ k ∈ FL P, k < r' ∨ r' + 8 ≤ k
theorem Eld.gr {v : PV} {w : Option PV} {L : List Nat} (h : Eld V G l r P v w st) (g : Gr L st s) (hL : ∀ k ∈ L, k ∈ FR r ∨ k ∈ FL P ∨ k = l) : Eld V G l r P v w s := by
  rcases h with h | ⟨r', S', B', h1, h2, h3, h4, h5, h6, h7, h8⟩
  · exact .inl h
  · refine .inr ⟨r', S', B', h1, h2, h3, h4, h5.gr g fun k m => ?_, h6, h7, h8⟩
    rcases hL k m with m | m | rfl
    · simp only [List.mem_cons, List.not_mem_nil, or_false] at m
      omega
    · exact h8 k m
    · exact .inl h7
theorem bef_seen (S : RS) : Seen G S s (.lst ((G.w.take S.n).map prPV)) (.lst [.lst ((S.a 0).map prPV), .lst ((S.a 1).map prPV), .lst ((S.a 2).map prPV)]) (.lst (S.bag.map Lt.pv)) where
  j := .inl (.inr (.inl rfl))
  a := fun i hi => ⟨.lst ((S.a i).map prPV), det fun Q q => by
    rw [o_ixL]
    refine ixW_of ?_ q
    rcases (show i = 0 ∨ i = 1 ∨ i = 2 by omega) with rfl | rfl | rfl <;> rfl, .inl (.inr (.inl rfl))⟩
  b := .inl (.inr (.inl rfl))
/-- a loop's new places -/
theorem pl_new {n : Nat} : (⟨n, n + 1, n + 2, n + 3, n + 4⟩ : Pl).Ok := by
  refine ⟨fun i => ?_, fun i k hi hk hik => ?_, fun i => ?_, ?_⟩
  · unfold Pl.b; split <;> simp only <;> omega
  · rcases (show i = 0 ∨ i = 1 ∨ i = 2 by omega) with rfl | rfl | rfl <;> rcases (show k = 0 ∨ k = 1 ∨ k = 2 by omega) with rfl | rfl | rfl <;> first | exact absurd rfl hik | (simp only [Pl.b]; omega)
  · unfold Pl.b; split <;> simp only <;> omega
  · simp only; omega
theorem par_ok {env : PEnv} {N : PEnv → Store → Prop} {R : PV → Store → Prop}
    (k : ∀ s, (⟨st.length, st.length + 1, st.length + 2, st.length + 3, st.length + 4⟩ : Pl).Ok → (∀ i, i < 5 → s[st.length + i]? = some (.lst [])) → Gr [] st s → s.length = st.length + 5 →
      N (((env.set 11 (some (.loc st.length))).set 12 (some (.lst [.loc (st.length + 1), .loc (st.length + 2), .loc (st.length + 3)]))).set 17 (some (.loc (st.length + 4)))) s) :
    SatS (sPar3 11 12 17 (aCons (eArgs mkLoc aNil) (aCons (eArgs mkLst (aCons (eArgs mkLoc aNil) (aCons (eArgs mkLoc aNil) (aCons (eArgs mkLoc aNil) aNil)))) (aCons (eArgs mkLoc aNil) aNil))) env st) N R := by
  rw [ss_par3, sat_cons, sat_args, sat_nil, sat_loc]
  refine ⟨sl0, ?_⟩
  rw [sat_cons, sat_args, sat_cons, sat_args, sat_nil, sat_loc]
  refine ⟨sl0, ?_⟩
  rw [sat_cons, sat_args, sat_nil, sat_loc]
  refine ⟨sl0, ?_⟩
  rw [sat_cons, sat_args, sat_nil, sat_loc]
  refine ⟨sl0, ?_⟩
  rw [sat_nil, sat_lst]
  refine ⟨sl3, ?_⟩
  rw [sat_cons, sat_args, sat_nil, sat_loc]
  refine ⟨sl0, ?_⟩
  rw [sat_nil]
  have e : st ++ [PO.lst []] ++ [PO.lst []] ++ [PO.lst []] ++ [PO.lst []] ++ [PO.lst []] = st ++ [.lst [], .lst [], .lst [], .lst [], .lst []] := by simp
  have := k (st ++ [.lst [], .lst [], .lst [], .lst [], .lst []]) pl_new (fun i hi => by
    rw [List.getElem?_append_right (by omega), show st.length + i - st.length = i by omega]
    rcases (show i = 0 ∨ i = 1 ∨ i = 2 ∨ i = 3 ∨ i = 4 by omega) with rfl | rfl | rfl | rfl | rfl <;> rfl) .app (by simp)
  simpa [e] using this
end
end PL
/-! PL, part MQ: the law, in its parts. -/
namespace PL
open PySem PySem.Spec PyProof.Rows L2
theorem b_bl {P : Pl} {x i : Nat} : ({ P with bl := x } : Pl).b i = P.b i := by unfold Pl.b; split <;> rfl
theorem b_in {P : Pl} {i : Nat} : P.b i ∈ FL P := fl_b i
section
variable {V : Fv} {G : Gm} {S : RS} {B r c l : Nat} {P : Pl} {st s : Store} {Q : PV → Store → Prop}
theorem Walks.list {v : PV} {xs : List PV} (h : Walks st v xs) : Sat (pList v st) Q = Q (.lst xs) st := by
  obtain ⟨b, e⟩ := h.seq
  unfold pList
  rw [e]
  exact sat_ok
theorem lists_ok {i : Nat} {env : PEnv} {as : List (PV × List PV)} (hi : i < env.length) (hn : as.length ≤ 1000) (hw : ∀ a ∈ as, Walks st a.1 a.2) {Q : List PV → Store → Prop} (hd : Q (as.map fun a => .lst a.2) st) (ok : Store → Prop) (hok : ok st) :
    Sat (compL (.one i) tYesM (eArgs (one pList) (aCons (eVar i) aNil)) ok (as.map (·.1)) env st []) Q :=
  comp_map hi (by omega) (fun a ma => det fun Q q => by
    rw [sat_args, sat_cons, sat_var (v := a.1) (by simp [hi]), sat_nil, sat_one, (hw a ma).list]
    exact q) hd ok hok
theorem Lp.below (h : Lp V G c l S B r P s) : r + 8 ≤ s.length ∧ c < s.length ∧ l < s.length ∧ ∀ k ∈ FL P, k < s.length := by
  have h7 := lt_of_some (h.run.dc 2 (by omega))
  refine ⟨by omega, lt_of_some h.law.c, h.src.lt, fun k m => ?_⟩
  simp only [List.mem_cons, List.not_mem_nil, or_false] at m
  rcases m with rfl | rfl | rfl | rfl | rfl
  · exact lt_of_some h.law.j
  · exact lt_of_some (h.law.b 0 (by omega))
  · exact lt_of_some (h.law.b 1 (by omega))
  · exact lt_of_some (h.law.b 2 (by omega))
  · exact lt_of_some h.law.bl
/-- the state after the run was saved and resumed -/
theorem Lp.resumed (h : Lp V G c l S B r P st) (hG : G.Ok) {s1 s2 : Store} {x : Nat} (hR : RunAt V G st.length (S.back G) s1) (g : Gr [] st s1) (hl : st.length + 8 ≤ s1.length)
    (g2 : Gr [] s1 s2) (hx : x = s1.length) (hx2 : s2[x]? = some (.lst ((G.asks S.n).map Lt.pv))) :
    Lp V G c l (S.back G) 1 st.length { P with bl := x } s2 := by
  subst hx
  obtain ⟨b1, b2, b3, b4⟩ := h.below
  have g3 := g.trans g2
  have hL := h.law.gr g3 (by simp) (by simp)
  refine ⟨iv_back hG h.iv, hR.gr g2 (by simp), ⟨hL.c, hL.j, fun i hi => ?_, hx2⟩, ⟨fun i => ?_, fun i k hi hk hik => ?_, fun i => ?_, ?_⟩, ⟨.inl b2, fun k m => ?_⟩, h.src.gr g3 (by simp), b3, fun m => ?_⟩
  · rw [b_bl]; exact hL.b i hi
  · rw [b_bl]; exact h.pok.bj i
  · rw [b_bl, b_bl]; exact h.pok.bb i k hi hk hik
  · rw [b_bl]
    have := b4 _ (b_in (i := i))
    show P.b i ≠ s1.length
    omega
  · have := b4 P.j (by simp)
    show P.j ≠ s1.length
    omega
  · simp only [List.mem_cons, List.not_mem_nil, or_false] at m
    rcases m with rfl | rfl | rfl | rfl | rfl
    · exact .inl (b4 _ (by simp))
    · exact .inl (b4 _ (by simp))
    · exact .inl (b4 _ (by simp))
    · exact .inl (b4 _ (by simp))
    · exact .inr hl
  · simp only [List.mem_cons, List.not_mem_nil, or_false] at m
    have := h.lp
    simp only [List.mem_cons, List.not_mem_nil, or_false, not_or] at this
    omega
theorem Lp.elder (h : Lp V G c l S B r P st) (hB : B ≤ 1000) {s1 s2 : Store} {x : Nat} (hl : st.length ≤ s1.length) (hx : x = s1.length) (g : Gr [] st s2) :
    Eld V G l st.length { P with bl := x } (.loc r) (some (bef G S)) s2 := by
  obtain ⟨b1, b2, b3, b4⟩ := h.below
  refine .inr ⟨r, S, B, rfl, rfl, h.iv, hB, h.run.gr g (by simp), b1, h.lr, fun k m => ?_⟩
  simp only [List.mem_cons, List.not_mem_nil, or_false] at m
  rcases m with rfl | rfl | rfl | rfl | rfl
  · exact h.ap.p _ (by simp)
  · exact h.ap.p _ (by simp)
  · exact h.ap.p _ (by simp)
  · exact h.ap.p _ (by simp)
  · right; omega
/-- the first loop -/
theorem loop1_ok {pl : Int → List Int} {ns : List Int} (h : G.Ok) (hP : G.P pl) {es : List Ev} (he : ∀ e ∈ es, e.Ok) (hes : es.length ≤ 100) {mo : Int} (h0 : Lp V G c l S 1 r P st)
    {N : PEnv → Store → Prop} {R : PV → Store → Prop}
    (k : ∀ S B r P v9 k10 v19 s, B ≤ 200 → Lp V G c l S B r P s → Eld V G l r P v9 v19 s → N ([some (scr ns), some (.loc l), some G.pv, some (profPV pl), some (.loc c), some (.int (es.length : Nat)), some (.lst (es.map Ev.pv)), some (.int mo), some (.loc r), some v9, k10, some (.loc P.j), some (ansPV P), none, none, some (jPV G.w), some (.str G.z), some (.loc P.bl), none, v19, none, none, none] : PEnv) s) :
    SatS ((sFor (iRange1 (eBin pAdd (eVar 5) (eC (.int 1)))) (.one 10)
    (sSeq (sIf (tNotM (eTest (eCall 7 (m_law_is V) (aCons (eVar 2) (aCons (eVar 8) (aCons (eVar 15) (aCons (eVar 16) (aCons (eVar 11) (aCons (eVar 12) (aCons (eVar 17) aNil)))))))))) (sRet (eC (.bl false))) sNil)
    (sSeq (sIf (eTest (eBin pEq (eVar 10) (eVar 7))) (sSeq (sSet 9 (eVar 8))
    (sSeq (sSet 8 (eCall 8 (m_law_saved V) (aCons (eVar 2) (aCons (eVar 3) (aCons (eVar 9) (aCons (eVar 15) (aCons (eVar 16) (aCons (eVar 11) (aCons (eVar 12) (aCons (eVar 17) aNil))))))))))
    (sSeq (sIf (eTest (eBin pIs (eVar 8) (eC .non))) (sRet (eC (.bl false))) sNil)
    (sSeq (sSet 19 (eArgs mkLst (aCons (eArgs (one pList) (aCons (eVar 11) aNil)) (aCons (eComp [22] (iVal (eVar 12)) (.one 22) tYesM (eArgs (one pList) (aCons (eVar 22) aNil))) (aCons (eArgs (one pList) (aCons (eVar 17) aNil)) aNil)))))
    (sSet 17 (eCall 2 m_law_ask (aCons (eVar 2) (aCons (eVar 11) aNil)))))))) sNil)
    (sIf (tAndM (eTest (eBin pLt (eVar 10) (eVar 5))) (tNotM (eTest (eCall 7 (m_law_told V) (aCons (eVar 2) (aCons (eVar 4) (aCons (eVar 8) (aCons (eVar 11) (aCons (eVar 12) (aCons (eVar 17) (aCons (eBin pIx (eVar 6) (eVar 10)) aNil))))))))))) (sRet (eC (.bl false))) sNil))))
    ([some (scr ns), some (.loc l), some G.pv, some (profPV pl), some (.loc c), some (.int (es.length : Nat)), some (.lst (es.map Ev.pv)), some (.int mo), some (.loc r), some .non, none, some (.loc P.j), some (ansPV P), none, none, some (jPV G.w), some (.str G.z), some (.loc P.bl), none, none, none, none, none] : PEnv) st) N R := by
  rw [ss_for, sat_iRange1, sat_bin, sat_var rfl, sat_c, o_addI, o_rng]
  refine ⟨by omega, ?_⟩
  rw [show ((es.length : Int) + 1).toNat = es.length + 1 by omega]
  refine for_invN (k := 0) (fun i e s => ∃ (S : RS) (B r : Nat) (P : Pl) (v9 : PV) (k10 v19 : Option PV), e = ([some (scr ns), some (.loc l), some G.pv, some (profPV pl), some (.loc c), some (.int (es.length : Nat)), some (.lst (es.map Ev.pv)), some (.int mo), some (.loc r), some v9, k10, some (.loc P.j), some (ansPV P), none, none, some (jPV G.w), some (.str G.z), some (.loc P.bl), none, v19, none, none, none] : PEnv) ∧ Lp V G c l S B r P s ∧ B ≤ i + 1 ∧ Eld V G l r P v9 v19 s)
    ⟨S, 1, r, P, .non, none, none, rfl, h0, Nat.le_refl _, .inl rfl⟩ ?_ ?_
  · rintro i v e s hv ⟨S, B, r, P, v9, k10, v19, rfl, hp, hB, hE⟩
    rw [Nat.zero_add] at hB ⊢
    obtain ⟨hi, rfl⟩ := rngs_get hv
    rw [show ((0 : Int) + (i : Int)) = (i : Int) by omega]
    refine ⟨_, rfl, ?_⟩
    rw [ss_seq, ss_if, sat_not, sat_test, sat_call, sat_cons, sat_var rfl, sat_cons, sat_var rfl, sat_cons, sat_var rfl, sat_cons, sat_var rfl, sat_cons, sat_var rfl, sat_cons, sat_var rfl, sat_cons, sat_var rfl, sat_nil]
    refine ⟨rfl, ?_⟩
    rw [law_is_eq h hp.iv (by omega) hp.run hp.law.seen, sat_ok, sat_truth, if_neg (by simp), ss_nil]
    refine seq_mid (fun e s => ∃ (S : RS) (B r : Nat) (P : Pl) (v9 : PV) (v19 : Option PV), e = ([some (scr ns), some (.loc l), some G.pv, some (profPV pl), some (.loc c), some (.int (es.length : Nat)), some (.lst (es.map Ev.pv)), some (.int mo), some (.loc r), some v9, some (.int i), some (.loc P.j), some (ansPV P), none, none, some (jPV G.w), some (.str G.z), some (.loc P.bl), none, v19, none, none, none] : PEnv) ∧ Lp V G c l S B r P s ∧ B ≤ i + 1 ∧ Eld V G l r P v9 v19 s) ?_ ?_
    · rw [ss_if, sat_test, sat_bin, sat_var rfl, sat_var rfl, o_eqI, sat_truth]
      by_cases hm : (i : Int) = mo
      · rw [decide_eq_true hm, if_pos rfl, ss_seq, ss_set, sat_var rfl, ss_seq, ss_set, sat_call, sat_cons, sat_var rfl, sat_cons, sat_var rfl, sat_cons, sat_var rfl, sat_cons, sat_var rfl, sat_cons, sat_var rfl, sat_cons, sat_var rfl, sat_cons, sat_var rfl, sat_cons, sat_var rfl, sat_nil]
        refine ⟨rfl, law_saved_ok h hP hp.iv (by omega) hp.run hp.law fun s1 hR1 g1 l1 => ?_⟩
        have hL1 := hp.law.gr g1 (by simp) (by simp)
        rw [ss_seq, ss_if, sat_test, sat_bin, sat_var rfl, sat_c, o_isNonP (b := false) rfl, sat_truth, if_neg (by simp), ss_nil]
        rw [ss_seq, ss_set, sat_args, sat_cons, sat_args, sat_cons, sat_var rfl, sat_nil, sat_one, hL1.seen.j.list, sat_cons, sat_comp, sat_iVal, sat_var rfl, o_itL]
        have e : [PV.loc P.b0, .loc P.b1, .loc P.b2] = ([0, 1, 2].map fun i : Nat => (PV.loc (P.b i), (S.a i).map prPV)).map (·.1) := rfl
        rw [e]
        refine lists_ok (by simp [wipeP]) (by simp) (fun a ma => ?_) ?_ _ trivial
        · obtain ⟨i, mi, rfl⟩ := List.mem_map.mp ma
          have hi : i < 3 := by simp only [List.mem_cons, List.not_mem_nil, or_false] at mi; omega
          exact .inr ⟨_, rfl, hL1.b i hi⟩
        rw [o_finF, sat_cons, sat_args, sat_cons, sat_var rfl, sat_nil, sat_one, hL1.seen.b.list, sat_nil, sat_lst]
        refine ⟨sl3, ?_⟩
        rw [ss_set, sat_call, sat_cons, sat_var rfl, sat_cons, sat_var rfl, sat_nil]
        refine ⟨rfl, law_ask_ok h hp.iv.n hL1.j ?_⟩
        exact ⟨S.back G, 1, s.length, { P with bl := s1.length }, .loc r, some (bef G S), rfl, hp.resumed h hR1 g1 l1 .app rfl (by simp), by omega, hp.elder (by omega) (by omega) rfl (g1.trans .app)⟩
      · rw [decide_eq_false hm, if_neg (by simp), ss_nil]
        exact ⟨S, B, r, P, v9, v19, rfl, hp, hB, hE⟩
    rintro e s ⟨S, B, r, P, v9, v19, rfl, hp, hB, hE⟩
    rw [ss_if, sat_and, sat_test, sat_bin, sat_var rfl, sat_var rfl, o_ltI, sat_truth]
    by_cases hlt : i < es.length
    · rw [decide_eq_true (show (i : Int) < (es.length : Int) by omega), if_pos rfl, sat_not, sat_test, sat_call, sat_cons, sat_var rfl, sat_cons, sat_var rfl, sat_cons, sat_var rfl, sat_cons, sat_var rfl, sat_cons, sat_var rfl, sat_cons, sat_var rfl, sat_cons, sat_bin, sat_var rfl, sat_var rfl, o_ixL]
      refine ixW_of (y := (es[i]).pv) (by rw [List.getElem?_map, List.getElem?_eq_getElem hlt]; rfl) ?_
      rw [sat_nil]
      refine ⟨rfl, law_told_ok h hp.iv (by omega) (he _ (List.getElem_mem hlt)) hp.pok hp.ap hp.run hp.law fun s2 hR2 hL2 g2 => ?_⟩
      rw [sat_truth, if_neg (by simp), ss_nil]
      refine ⟨_, B + 1, r, P, v9, _, v19, rfl, hp.told h hR2 hL2 g2, by omega, hE.gr g2 fun k m => ?_⟩
      rcases List.mem_append.mp m with m | m
      · exact .inl m
      · exact .inr (.inl m)
    · rw [decide_eq_false (show ¬ (i : Int) < (es.length : Int) by omega), if_neg (by simp), if_neg (by simp), ss_nil]
      exact ⟨S, B, r, P, v9, _, v19, rfl, hp, by omega, hE⟩
  · rintro e s ⟨S, B, r, P, v9, k10, v19, rfl, hp, hB, hE⟩
    rw [rngs_len] at hB
    exact k S B r P v9 k10 v19 s (by omega) hp hE
/-- the loop after the finish -/
theorem loop2_ok {pl : Int → List Int} {ns : List Int} (h : G.Ok) {m : Nat} {v6 v7 v9 k10 v19 : Option PV} {u9 : PV} (hv9 : v9 = some u9) (hB : B ≤ 200) (h0 : Lp V G c l S B r P st) (hE : Eld V G l r P u9 v19 st)
    {N : PEnv → Store → Prop} {R : PV → Store → Prop}
    (k : ∀ S B k10 v18 s, Lp V G c l S B r P s → Eld V G l r P u9 v19 s → N ([some (scr ns), some (.loc l), some G.pv, some (profPV pl), some (.loc c), some (.int (m : Nat)), v6, v7, some (.loc r), v9, k10, some (.loc P.j), some (ansPV P), none, none, some (jPV G.w), some (.str G.z), some (.loc P.bl), v18, v19, none, none, none] : PEnv) s) :
    SatS ((sFor (iRange1 (eCall 3 m_law_draw (aCons (eVar 0) (aCons (eVar 1) (aCons (eC (.int 4)) aNil))))) (.one 10)
    (sSeq (sSet 18 (eCall 2 m_law_drawn_event (aCons (eVar 0) (aCons (eVar 1) aNil))))
    (sSeq (sIf (tNotM (eTest (eCall 7 (m_law_told V) (aCons (eVar 2) (aCons (eVar 4) (aCons (eVar 8) (aCons (eVar 11) (aCons (eVar 12) (aCons (eVar 17) (aCons (eVar 18) aNil)))))))))) (sRet (eC (.bl false))) sNil)
    (sIf (tNotM (eTest (eCall 7 (m_law_is V) (aCons (eVar 2) (aCons (eVar 8) (aCons (eVar 15) (aCons (eVar 16) (aCons (eVar 11) (aCons (eVar 12) (aCons (eVar 17) aNil)))))))))) (sRet (eC (.bl false))) sNil))))
    ([some (scr ns), some (.loc l), some G.pv, some (profPV pl), some (.loc c), some (.int (m : Nat)), v6, v7, some (.loc r), v9, k10, some (.loc P.j), some (ansPV P), none, none, some (jPV G.w), some (.str G.z), some (.loc P.bl), none, v19, none, none, none] : PEnv) st) N R := by
  subst hv9
  rw [ss_for, sat_iRange1, sat_call, sat_cons, sat_var rfl, sat_cons, sat_var rfl, sat_cons, sat_c, sat_nil]
  refine ⟨rfl, draw' h0.src (by decide) (log2_k (n := 64) (by decide) (by decide)) fun q s0 q0 q1 hs0 g0 => ?_⟩
  rw [o_rng]
  refine ⟨by omega, ?_⟩
  have h1 := h0.drawn g0 hs0
  have hE1 := hE.gr g0 fun k m => .inr (.inr (by simpa using m))
  refine for_invN (k := 0) (fun i e s => ∃ (S : RS) (B : Nat) (k10 v18 : Option PV), e = ([some (scr ns), some (.loc l), some G.pv, some (profPV pl), some (.loc c), some (.int (m : Nat)), v6, v7, some (.loc r), some u9, k10, some (.loc P.j), some (ansPV P), none, none, some (jPV G.w), some (.str G.z), some (.loc P.bl), v18, v19, none, none, none] : PEnv) ∧ Lp V G c l S B r P s ∧ B ≤ 200 + i ∧ Eld V G l r P u9 v19 s)
    ⟨S, B, k10, none, rfl, h1, by omega, hE1⟩ ?_ ?_
  · rintro i v e s hv ⟨S, B, k10, v18, rfl, hp, hB, hE⟩
    rw [Nat.zero_add] at hB ⊢
    obtain ⟨hi, rfl⟩ := rngs_get hv
    refine ⟨_, rfl, ?_⟩
    rw [ss_seq, ss_set, sat_call, sat_cons, sat_var rfl, sat_cons, sat_var rfl, sat_nil]
    refine ⟨rfl, drawn_event_ok hp.src fun ev s1 hev hs1 g1 => ?_⟩
    have hp1 := hp.drawn g1 hs1
    have hE1 := hE.gr g1 fun k m => .inr (.inr (by simpa using m))
    rw [ss_seq, ss_if, sat_not, sat_test, sat_call, sat_cons, sat_var rfl, sat_cons, sat_var rfl, sat_cons, sat_var rfl, sat_cons, sat_var rfl, sat_cons, sat_var rfl, sat_cons, sat_var rfl, sat_cons, sat_var rfl, sat_nil]
    refine ⟨rfl, law_told_ok h hp1.iv (by omega) hev hp1.pok hp1.ap hp1.run hp1.law fun s2 hR2 hL2 g2 => ?_⟩
    have hp2 := hp1.told h hR2 hL2 g2
    have hE2 := hE1.gr g2 fun k m => by
      rcases List.mem_append.mp m with m | m
      · exact .inl m
      · exact .inr (.inl m)
    rw [sat_truth, if_neg (by simp), ss_nil, ss_if, sat_not, sat_test, sat_call, sat_cons, sat_var rfl, sat_cons, sat_var rfl, sat_cons, sat_var rfl, sat_cons, sat_var rfl, sat_cons, sat_var rfl, sat_cons, sat_var rfl, sat_cons, sat_var rfl, sat_nil]
    refine ⟨rfl, ?_⟩
    rw [law_is_eq h hp2.iv (by omega) hp2.run hp2.law.seen, sat_ok, sat_truth, if_neg (by simp), ss_nil]
    exact ⟨_, B + 1, _, _, rfl, hp2, by omega, hE2⟩
  · rintro e s ⟨S, B, k10, v18, rfl, hp, hB, hE⟩
    exact k S B k10 v18 s hp hE
end
end PL
/-! PL, part MR: the law. -/
namespace PL
open PySem PySem.Spec PyProof.Rows L2
section
variable {V : Fv} {G : Gm} {S : RS} {B r c l : Nat} {P : Pl} {st s : Store} {Q : PV → Store → Prop}
/-- the profile -/
theorem prof_ok {ns : List Int} {rs : List Row} {env : PEnv} {tp : PV} (hn : env.length = 23) (e0 : env[0]? = some (some (scr ns))) (e1 : env[1]? = some (some (.loc l))) (e2 : env[2]? = some (some (.tup [.tup (rs.map Row.pv), tp]))) (hs : SrcAt st l) (hG : Gen rs) (hl : rs.length ≤ 5)
    (k : ∀ pl s, (∀ o, 0 ≤ o → o ≤ 2 → PlanOk o rs (pl o)) → SrcAt s l → Gr [l] st s → Q (profPV pl) s) :
    Sat ((eArgs (one pTuple) (aCons (eComp [20] (iRange1 (eC (.int 3))) (.one 20) tYesM (eCall 4 m_law_plan (aCons (eVar 0) (aCons (eVar 1) (aCons (eBin pIx (eVar 2) (eC (.int 0))) (aCons (eVar 20) aNil)))))) aNil)) env st) Q := by
  rw [sat_args, sat_cons, sat_comp, sat_iRange1, sat_c, o_rng]
  refine ⟨by decide, ?_⟩
  have w0 : ∀ v, ((wipeP env [20]).set 20 (some v))[0]? = some (some (scr ns)) := fun v => by simp [wipeP, e0]
  have w1 : ∀ v, ((wipeP env [20]).set 20 (some v))[1]? = some (some (.loc l)) := fun v => by simp [wipeP, e1]
  have w2 : ∀ v, ((wipeP env [20]).set 20 (some v))[2]? = some (some (.tup [.tup (rs.map Row.pv), tp])) := fun v => by simp [wipeP, e2]
  have w3 : ∀ v, ((wipeP env [20]).set 20 (some v))[20]? = some (some v) := fun v => by simp [wipeP, hn]
  refine comp_inv (k := 0) (fun i acc s => ∃ pl : Int → List Int, acc = (List.range i).map (fun o : Nat => PV.tup (ints' (pl o))) ∧ (∀ o : Int, 0 ≤ o → o < i → PlanOk o rs (pl o)) ∧ SrcAt s l ∧ Gr [l] st s)
    ⟨fun _ => [], rfl, fun o h1 h2 => by omega, hs, .refl⟩ ?_ ?_
  · rintro i v s acc hv ⟨pl, rfl, hp, hs1, g1⟩
    rw [Nat.zero_add] at hp ⊢
    obtain ⟨hi, rfl⟩ := rngs_get hv
    have hi3 : i < 3 := hi
    rw [show ((0 : Int) + (i : Int)) = (i : Int) by omega]
    refine ⟨_, rfl, ?_⟩
    rw [sat_yes, if_pos rfl, sat_call, sat_cons, sat_var (w0 _), sat_cons, sat_var (w1 _), sat_cons, sat_bin, sat_var (w2 _), sat_c, o_ixT, ixW_0, sat_cons, sat_var (w3 _), sat_nil]
    refine ⟨rfl, plan_ok hs1 hG.ok (by omega) fun p s2 hpl hs2 g2 => ⟨?_, fun o => if o = (i : Int) then p else pl o, ?_, fun o h1 h2 => ?_, hs2, g1.trans g2⟩⟩
    · rw [sizeLine_eq, List.length_map, List.length_range]; omega
    · rw [List.range_succ, List.map_append]
      congr 1
      · refine List.map_congr_left fun o mo => ?_
        have := List.mem_range.mp mo
        show PV.tup (ints' (pl o)) = PV.tup (ints' (if (o : Int) = (i : Int) then p else pl o))
        rw [if_neg (by omega)]
      · simp
    · show PlanOk o rs (if o = (i : Int) then p else pl o)
      by_cases e : o = (i : Int)
      · rw [if_pos e, e]; exact hpl
      · rw [if_neg e]; exact hp o h1 (by omega)
  · rintro acc s ⟨pl, rfl, hp, hs1, g1⟩
    rw [o_finF, sat_nil, sat_one, o_tupL]
    exact k pl s (fun o h1 h2 => hp o h1 (by rw [Nat.zero_add, rngs_len]; omega)) hs1 g1
/-- the answers of the whole way, one list for each owner -/
theorem wholes_ok (h : G.Ok) {env : PEnv} (hn : env.length = 23) (e2 : env[2]? = some (some G.pv)) (e15 : env[15]? = some (some (jPV G.w)))
    (k : ∀ s, (∀ i : Nat, i < 3 → s[st.length + i]? = some (.lst ((G.F i G.w.length).map prPV))) → Gr [] st s → s.length = st.length + 3 → Q (.lst [.loc st.length, .loc (st.length + 1), .loc (st.length + 2)]) s) :
    Sat ((eComp [20] (iRange1 (eC (.int 3))) (.one 20) tYesM (eCompLoc [21] (iVal (eVar 15)) (.one 21) (eTest (eBin pEq (eCall 2 m_law_owner (aCons (eBin pIx (eVar 2) (eC (.int 0))) (aCons (eBin pIx (eVar 21) (eC (.int 0))) aNil))) (eVar 20))) (eVar 21))) env st) Q := by
  have hw5 := h.wl
  rw [sat_comp, sat_iRange1, sat_c, o_rng]
  refine ⟨by decide, ?_⟩
  have wl : ∀ v : PV, (wipeP ((wipeP env [20]).set 20 (some v)) [21]).length = 23 := fun v => by simp [wipeP, hn]
  have w15 : ∀ v : PV, ((wipeP env [20]).set 20 (some v))[15]? = some (some (jPV G.w)) := fun v => by simp [wipeP, e15]
  have w2 : ∀ v w : PV, ((wipeP ((wipeP env [20]).set 20 (some v)) [21]).set 21 (some w))[2]? = some (some G.pv) := fun v w => by simp [wipeP, e2]
  have w20 : ∀ v w : PV, ((wipeP ((wipeP env [20]).set 20 (some v)) [21]).set 21 (some w))[20]? = some (some v) := fun v w => by simp [wipeP, hn]
  have w21 : ∀ v w : PV, ((wipeP ((wipeP env [20]).set 20 (some v)) [21]).set 21 (some w))[21]? = some (some w) := fun v w => by simp [wipeP, hn]
  refine comp_inv (k := 0) (fun i acc s => i ≤ 3 ∧ acc = (List.range i).map (fun o : Nat => PV.loc (st.length + o)) ∧ s.length = st.length + i ∧ (∀ o : Nat, o < i → s[st.length + o]? = some (.lst ((G.F o G.w.length).map prPV))) ∧ Gr [] st s)
    ⟨Nat.zero_le _, rfl, rfl, fun o ho => by omega, .refl⟩ ?_ ?_
  · rintro i v s acc hv ⟨_, rfl, hl, hp, g1⟩
    rw [Nat.zero_add] at hl hp ⊢
    obtain ⟨hi, rfl⟩ := rngs_get hv
    have hi3 : i < 3 := hi
    rw [show ((0 : Int) + (i : Int)) = (i : Int) by omega]
    refine ⟨_, rfl, ?_⟩
    rw [sat_yes, if_pos rfl, sat_comp, sat_iVal, sat_var (w15 _), o_itT]
    refine comp_filt (as := G.w) (f := prPV) (g := prPV) (p := fun p => decide (G.ow p.1 = i)) (by rw [wl]; omega) (by omega) (fun p mp => det fun Q q => by
      rw [sat_test, sat_bin, sat_call, sat_cons, sat_bin, sat_var (w2 _ _), sat_c]
      unfold Gm.pv
      rw [o_ixT, ixW_0, sat_cons, sat_bin, sat_var (w21 _ _), sat_c]
      unfold prPV
      rw [o_ixT, ixW_0, sat_nil]
      refine ⟨rfl, ?_⟩
      rw [owner_eq h (h.wr p mp), sat_ok]
      rw [sat_var (w20 _ _), o_eqI, sat_truth]
      exact q) (fun p _ _ => det fun Q q => by rw [sat_var (w21 _ _)]; exact q) ?_ _ trivial
    rw [o_finT, ← F_all]
    refine ⟨by rw [sizeLine_eq, List.length_map, List.length_range]; omega, by omega, ?_, by simp; omega, fun o ho => ?_, g1.trans .app⟩
    · rw [List.range_succ, List.map_append, hl]
      rfl
    · by_cases e : o = i
      · subst e
        rw [← hl]
        simp
      · rw [List.getElem?_append_left (by omega)]
        exact hp o (by omega)
  · rintro acc s ⟨_, rfl, hl, hp, g1⟩
    rw [rngs_len, Nat.zero_add] at hl hp
    rw [o_finF]
    exact k s (fun i hi => hp i hi) g1 hl
theorem law_sat {ns : List Int} : Sat (m_law V [scr ns] []) fun v _ => v = .bl true := by
  refine sat_body ?_
  unfold f_law
  simp only [List.map_cons, List.map_nil, List.length_cons, List.length_nil, Nat.reduceAdd, Nat.reduceSub, List.reduceReplicate, List.cons_append, List.nil_append]
  have dr : ∀ {n : Int} {env : PEnv} {s : Store} {l : Nat} {Q : PV → Store → Prop}, env[0]? = some (some (scr ns)) → env[1]? = some (some (.loc l)) → SrcAt s l → 0 < n → n ≤ 50 → (∀ r s', 0 ≤ r → r < n → SrcAt s' l → Gr [l] s s' → Q (.int r) s') →
      Sat (eCall 3 m_law_draw (aCons (eVar 0) (aCons (eVar 1) (aCons (eC (.int n)) aNil))) env s) Q := fun {n env s l Q} h0 h1 hs hn hn2 k => by
    rw [sat_call, sat_cons, sat_var h0, sat_cons, sat_var h1, sat_cons, sat_c, sat_nil]
    exact ⟨rfl, draw' hs hn (log2_k (n := 64) (by omega) (by omega)) k⟩
  rw [ss_seq, ss_set, sat_call, sat_cons, sat_var rfl, sat_nil]
  refine ⟨rfl, source_ok.mono ?_⟩
  rintro _ s1 ⟨rfl, o, rfl, hs1⟩
  generalize ([] ++ [o] : Store) = s1 at *
  generalize ([] : Store).length = l at *
  rw [ss_seq, ss_set, sat_call, sat_cons, sat_var rfl, sat_cons, sat_var rfl, sat_cons, sat_c, sat_cons, sat_c, sat_cons, sat_c, sat_nil]
  refine ⟨rfl, game_ok hs1 fun rs t s2 hG hrl hgr hs2 g2 => ?_⟩
  rw [ss_seq, ss_set]
  refine prof_ok (rs := rs) (tp := t.pv) rfl rfl rfl rfl hs2 hG hrl fun pl s3 hpl hs3 g3 => ?_
  rw [ss_seq, ss_set, sat_call, sat_cons, sat_bin, sat_var rfl, sat_c, o_ixT, ixW_0, sat_cons, sat_var rfl, sat_nil]
  refine ⟨rfl, choice_ok hG (by omega) hpl fun L s4 hch hc g4 => ?_⟩
  have hs4 := hs3.gr g4 (by simp)
  generalize s3.length = c at *
  obtain ⟨G, rfl, rfl, rfl, h, hP⟩ := gm_ex hG hrl hgr hpl hch
  rw [ss_seq, ss_tg, sat_call, sat_cons, sat_bin, sat_var rfl, sat_c, o_ixT, ixW_1, sat_cons, sat_var rfl, sat_nil]
  refine ⟨rfl, way_ok h hc ?_⟩
  refine ⟨_, rfl, ?_⟩
  rw [ss_seq, ss_set]
  refine dr (l := l) rfl rfl hs4 (by decide) (by decide) fun m0 s5 m0a m0b hs5 g5 => ?_
  have cl : c ≠ l := fun e => by
    obtain ⟨x, y, z, e1, _⟩ := hs4
    rw [← e, hc] at e1
    cases e1
  refine seq_mid (fun e s => ∃ m : Nat, e = ([some (scr ns), some (.loc l), some G.pv, some (profPV pl), some (.loc c), some (.int (m : Nat)), none, none, none, none, none, none, none, none, none, some (jPV G.w), some (.str G.z), none, none, none, none, none, none] : PEnv) ∧ m ≤ 60 ∧ SrcAt s l ∧ Gr [l] s4 s) ?_ ?_
  · rw [ss_if, sat_test, sat_bin]
    refine dr (l := l) rfl rfl hs5 (by decide) (by decide) fun q s6 q0 q1 hs6 g6 => ?_
    rw [sat_c, o_eqI, sat_truth]
    by_cases hq : q = 3
    · rw [decide_eq_true hq, if_pos rfl, ss_set, sat_bin, sat_c]
      refine dr (l := l) rfl rfl hs6 (by decide) (by decide) fun q' s7 q0' q1' hs7 g7 => ?_
      rw [o_addI]
      obtain ⟨m, e⟩ := Int.eq_ofNat_of_zero_le (show 0 ≤ 20 + q' by omega)
      rw [e]
      exact ⟨m, rfl, by omega, hs7, (g5.trans g6).trans g7⟩
    · rw [decide_eq_false hq, if_neg (by simp), ss_nil]
      obtain ⟨m, rfl⟩ := Int.eq_ofNat_of_zero_le m0a
      exact ⟨m, rfl, by omega, hs6, g5.trans g6⟩
  rintro e s5 ⟨m, rfl, hm, hs5, g5⟩
  rw [ss_seq, ss_set, sat_comp, sat_iRange1, sat_var rfl, o_rng]
  refine ⟨by omega, ?_⟩
  rw [show ((m : Nat) : Int).toNat = m by simp]
  refine comp_inv (k := 0) (fun i acc s => ∃ es : List Ev, acc = es.map Ev.pv ∧ es.length = i ∧ (∀ e ∈ es, e.Ok) ∧ SrcAt s l ∧ Gr [l] s4 s) ⟨[], rfl, rfl, nofun, hs5, g5⟩ ?_ ?_
  · rintro i v s acc hv ⟨es, rfl, hl, he, hs6, g6⟩
    obtain ⟨hi, rfl⟩ := rngs_get hv
    refine ⟨_, rfl, ?_⟩
    rw [sat_yes, if_pos rfl, sat_call, sat_cons, sat_var (v := scr ns) rfl, sat_cons, sat_var (v := .loc l) rfl, sat_nil]
    refine ⟨rfl, drawn_event_ok hs6 fun e s7 he' hs7 g7 => ⟨by rw [sizeLine_eq, List.length_map]; omega, es ++ [e], by rw [List.map_append]; rfl, by rw [List.length_append, hl]; rfl, fun x mx => ?_, hs7, g6.trans g7⟩⟩
    rcases List.mem_append.mp mx with mx | mx
    · exact he x mx
    · rw [List.mem_singleton.mp mx]; exact he'
  rintro acc s6 ⟨es, rfl, hel, he, hs6, g6⟩
  rw [rngs_len, Nat.zero_add] at hel
  subst hel
  rw [o_finF, ss_seq, ss_set, sat_call, sat_cons, sat_var (v := scr ns) rfl, sat_cons, sat_var (v := .loc l) rfl, sat_cons, sat_bin, sat_bin, sat_c, sat_var (v := .int (es.length : Nat)) rfl]
  rw [show ∀ (Q : PV → Store → Prop), Sat (pMulL (.int 2) (.int (es.length : Nat)) s6) Q = Sat (pMul (.int 2) (.int (es.length : Nat)) s6) Q from fun _ => rfl, o_mulI]
  refine ⟨.inl (.inl (by decide)), ?_⟩
  rw [sat_c, o_addI, sat_nil]
  refine ⟨rfl, draw' hs6 (by omega) (log2_k (n := 500) (by omega) (by omega)) fun mo s7 mo0 mo1 hs7 g7 => ?_⟩
  have hc7 : s7[c]? = some (.dic (G.L.map rmKv)) := (g6.trans g7).at' hc (by simpa using cl)
  rw [ss_seq]
  refine par_ok fun s8 hpo hpl8 g8 l8 => ?_
  have hlt7 := hs7.lt
  have hct7 := lt_of_some hc7
  have hL8 : LawAt G c ⟨s7.length, s7.length + 1, s7.length + 2, s7.length + 3, s7.length + 4⟩ ⟨0, fun _ => [], []⟩ s8 := by
    refine ⟨g8.at' hc7 (by simp), ?_, fun i hi => ?_, hpl8 4 (by omega)⟩
    · exact hpl8 0 (by omega)
    · rcases (show i = 0 ∨ i = 1 ∨ i = 2 by omega) with rfl | rfl | rfl
      · exact hpl8 1 (by omega)
      · exact hpl8 2 (by omega)
      · exact hpl8 3 (by omega)
  have hs8 := hs7.gr g8 (by simp)
  generalize hPe : (⟨s7.length, s7.length + 1, s7.length + 2, s7.length + 3, s7.length + 4⟩ : Pl) = P at *
  have hPl : ∀ k ∈ FL P, s7.length ≤ k := fun k mk => by
    subst hPe
    simp only [List.mem_cons, List.not_mem_nil, or_false] at mk
    omega
  have ej : s7.length = P.j := by rw [← hPe]
  have ea : PV.lst [.loc (s7.length + 1), .loc (s7.length + 2), .loc (s7.length + 3)] = ansPV P := by rw [← hPe]
  have eb : s7.length + 4 = P.bl := by rw [← hPe]
  rw [ea, eb, ej]
  rw [ss_seq, ss_expr]
  refine ext_asks h (Nat.zero_le _) (Nat.zero_le _) hpo hL8 rfl rfl rfl fun s9 hL9 g9 => ?_
  have hlp : l ∉ FL P := fun m => by have := hPl _ m; omega
  have hs9 := hs8.gr g9 hlp
  rw [ss_seq, ss_set]
  refine make_run_ok h hP (fun s10 hR g10 l10 => ?_) rfl rfl
  have h0 : Lp V G c l (RS.new G) 1 s9.length P s10 := by
    have hL10 : LawAt G c P (RS.new G) s10 := hL9.gr g10 (by simp) (by simp)
    have hl9 : s8.length ≤ s9.length := g9.len
    refine ⟨iv_new h, hR, hL10, hpo, ⟨.inl (by omega), fun k mk => .inl ?_⟩, hs9.gr g10 (by simp), by omega, hlp⟩
    subst hPe
    simp only [List.mem_cons, List.not_mem_nil, or_false] at mk
    omega
  rw [ss_seq, ss_set, sat_c, ss_seq]
  refine loop1_ok h hP he (by omega) h0 fun S B r P v9 k10 v19 s11 hB hp hE => ?_
  obtain ⟨b1, b2, b3, b4⟩ := hp.below
  rw [ss_seq, ss_if, sat_not, sat_test, sat_call, sat_cons, sat_var rfl, sat_cons, sat_var rfl, sat_cons, sat_var rfl, sat_cons, sat_var rfl, sat_cons, sat_var rfl, sat_nil]
  refine ⟨rfl, law_finished_ok h hp.iv (by omega) hp.run hp.law.seen.b (fun k e => by cases e; exact Apart.fr (hp.ap.p _ (by simp))) fun s12 hR12 g12 => ?_⟩
  have hL12 : LawAt G c P S s12 := hp.law.run hp.ap g12
  have hs12 := hp.src.gr g12 (by
    have := hp.lr
    simp only [List.mem_cons, List.not_mem_nil, or_false]
    omega)
  have hE12 := hE.gr g12 fun k m => .inl m
  have l12 := g12.len
  rw [sat_truth, if_neg (by simp), ss_nil]
  rw [ss_seq, ss_set, sat_args, sat_cons, sat_var rfl, sat_nil, sat_one, o_listLocT]
  have g13 : Gr [] s12 (s12 ++ [PO.lst (G.w.map prPV)]) := .app
  have hj13 : (s12 ++ [PO.lst (G.w.map prPV)])[s12.length]? = some (.lst (G.w.map prPV)) := by simp
  have l13 : (s12 ++ [PO.lst (G.w.map prPV)]).length = s12.length + 1 := by simp
  generalize s12 ++ [PO.lst (G.w.map prPV)] = s13 at *
  rw [ss_seq, ss_set]
  refine wholes_ok h rfl rfl rfl fun s14 hb14 g14 l14 => ?_
  have g24 := g13.trans g14
  have h2 : Lp V G c l (S.fin G) B r ⟨s12.length, s13.length, s13.length + 1, s13.length + 2, P.bl⟩ s14 := by
    have hbl := b4 P.bl (by simp)
    refine ⟨iv_fin h hp.iv, hR12.gr g24 (by simp), ⟨g24.at' hL12.c (by simp), ?_, fun i hi => ?_, g24.at' hL12.bl (by simp)⟩, ⟨fun i => ?_, fun i k hi hk hik => ?_, fun i => ?_, ?_⟩, ⟨hp.ap.c, fun k mk => ?_⟩, hs12.gr g24 (by simp), hp.lr, fun mk => ?_⟩
    · show s14[s12.length]? = some (.lst ((G.w.take G.w.length).map prPV))
      rw [List.take_length]
      exact g14.at' hj13 (by simp)
    · rcases (show i = 0 ∨ i = 1 ∨ i = 2 by omega) with rfl | rfl | rfl
      · exact hb14 0 (by omega)
      · exact hb14 1 (by omega)
      · exact hb14 2 (by omega)
    · unfold Pl.b; split <;> simp only <;> omega
    · rcases (show i = 0 ∨ i = 1 ∨ i = 2 by omega) with rfl | rfl | rfl <;> rcases (show k = 0 ∨ k = 1 ∨ k = 2 by omega) with rfl | rfl | rfl <;> first | exact absurd rfl hik | (simp only [Pl.b]; omega)
    · unfold Pl.b; split <;> simp only <;> omega
    · simp only; omega
    · simp only [List.mem_cons, List.not_mem_nil, or_false] at mk
      rcases mk with rfl | rfl | rfl | rfl | rfl
      · right; omega
      · right; omega
      · right; omega
      · right; omega
      · exact hp.ap.p _ (by simp)
    · have := hp.lp
      simp only [List.mem_cons, List.not_mem_nil, or_false, not_or] at mk this
      omega
  have hE14 : Eld V G l r ⟨s12.length, s13.length, s13.length + 1, s13.length + 2, P.bl⟩ v9 v19 s14 := by
    rcases hE12.gr g24 (by simp) with e | ⟨r', S', B', h1, h2, h3, h4, h5, h6, h7, h8⟩
    · exact .inl e
    · refine .inr ⟨r', S', B', h1, h2, h3, h4, h5, h6, h7, fun k mk => ?_⟩
      simp only [List.mem_cons, List.not_mem_nil, or_false] at mk
      rcases mk with rfl | rfl | rfl | rfl | rfl
      · right; omega
      · right; omega
      · right; omega
      · right; omega
      · exact h8 _ (by simp)
  rw [ss_seq]
  refine loop2_ok (P := ⟨s12.length, s13.length, s13.length + 1, s13.length + 2, P.bl⟩) h rfl hB h2 hE14 fun S3 B3 k10' v18 s15 hp3 hE3 => ?_
  refine seq_mid (fun e s => e = ([some (scr ns), some (.loc l), some G.pv, some (profPV pl), some (.loc c), some (.int (es.length : Nat)), some (.lst (es.map Ev.pv)), some (.int mo), some (.loc r), some v9, k10', some (.loc s12.length), some (.lst [.loc s13.length, .loc (s13.length + 1), .loc (s13.length + 2)]), none, none, some (jPV G.w), some (.str G.z), some (.loc P.bl), v18, v19, none, none, none] : PEnv)) ?_ ?_
  · rw [ss_if, sat_test, sat_bin, sat_var rfl, sat_c]
    rcases hE3 with rfl | ⟨r', S', B', rfl, rfl, iv', hB', hR', h6, h7, h8⟩
    · rw [o_isNotNonP (b := true) rfl, sat_truth, if_neg (by simp), ss_nil]
    · rw [o_isNotNonP (b := false) rfl, sat_truth, if_pos (by simp), ss_seq, ss_if, sat_not, sat_test, sat_call, sat_cons, sat_var rfl, sat_cons, sat_var rfl, sat_cons, sat_var rfl, sat_cons, sat_var rfl, sat_cons, sat_bin, sat_var rfl, sat_c]
      unfold bef
      rw [o_ixL, ixW_0, sat_cons, sat_bin, sat_var rfl, sat_c, o_ixL, ixW_1, sat_cons, sat_bin, sat_var rfl, sat_c, o_ixL, ixW_2, sat_nil]
      refine ⟨rfl, ?_⟩
      rw [law_is_eq h iv' (by omega) hR' (bef_seen S'), sat_ok, sat_truth, if_neg (by simp), ss_nil, ss_if, sat_not, sat_test, sat_call, sat_cons, sat_var rfl, sat_cons, sat_var rfl, sat_cons, sat_var rfl, sat_cons, sat_var rfl, sat_cons, sat_bin, sat_var rfl, sat_c, o_ixL, ixW_2, sat_nil]
      refine ⟨rfl, law_finished_ok h iv' (by omega) hR' (bef_seen (G := G) (s := s15) S').b (fun k e => by cases e) fun s16 hR16 g16 => ?_⟩
      rw [sat_truth, if_neg (by simp), ss_nil]
  rintro e s16 rfl
  have pe := plain_evs (es := es) (by omega)
  rw [ss_seq, ss_set, sat_args, sat_cons, sat_var rfl, sat_nil, sat_one, o_listL, ss_seq, ss_set, sat_call, sat_cons, sat_var rfl, sat_cons, sat_var rfl, sat_cons, sat_var rfl, sat_nil]
  refine ⟨rfl, play_ok h hP he (by omega) (.inl rfl) fun s17 g17 => ?_⟩
  obtain ⟨fs, ef, fl, fm⟩ := cut_map (es := es) (lo := some 1) (hi := none)
  rw [ss_seq, ss_if, sat_or, sat_not, sat_test, sat_args, sat_cons, sat_var rfl, sat_cons, sat_c, sat_nil, isi_s, sat_truth, if_neg (by simp), sat_or, sat_test, sat_bin, sat_var rfl, sat_var rfl, o_neS, decide_eq_true rfl, sat_truth, if_neg (by simp),
    sat_or, sat_test, sat_bin, sat_var rfl, sat_var rfl, o_neLst pe (by omega), sat_truth, if_neg (by simp), sat_test, sat_bin, sat_call, sat_cons, sat_var rfl, sat_cons, sat_var rfl, sat_cons, sat_args, sat_cons, sat_sl, sat_var rfl, sat_oSome, sat_c]
  simp only
  rw [sat_oNone, show ∀ (lo hi : Option Int) (Q : PV → Store → Prop), Sat (pSl (.lst (es.map Ev.pv)) lo hi s17) Q = Q (.lst (cutP (es.map Ev.pv) lo hi)) s17 from fun _ _ _ => sat_of rfl, ef, sat_nil, sat_one, o_tupL, sat_nil]
  refine ⟨rfl, play_ok h hP (fun e m => he e (fm e m)) (by omega) (.inr rfl) fun s18 g18 => ?_⟩
  rw [sat_var rfl, o_neS, decide_eq_true rfl, sat_truth, if_neg (by simp), ss_nil]
  have em : (List.replicate 25 (es.map Ev.pv)).flatten = ((List.replicate 25 es).flatten).map Ev.pv := by rw [List.map_flatten, List.map_replicate]
  obtain ⟨fs2, ef2, fl2, fm2⟩ := cut_map (es := (List.replicate 25 es).flatten) (lo := none) (hi := some 1000)
  have hfl : ((List.replicate 25 es).flatten).length ≤ 1500 := by
    simp only [List.length_flatten, List.map_replicate, List.sum_replicate_nat]
    omega
  rw [ss_ret, sat_bin, sat_call, sat_cons, sat_var rfl, sat_cons, sat_var rfl, sat_cons, sat_sl, sat_bin, sat_var rfl, sat_c]
  rw [show ∀ (Q : PV → Store → Prop), Sat (pMulL (.lst (es.map Ev.pv)) (.int 25) s18) Q = Q (.lst (((List.replicate 25 es).flatten).map Ev.pv)) s18 from fun Q => by
    show Sat (if (0 : Int) ≤ 25 ∧ (25 : Int) ≤ 1000 ∧ (es.map Ev.pv).length ≤ 1000 then Res.ok (.lst (List.replicate 25 (es.map Ev.pv)).flatten) s18 else .stuck) Q = _
    rw [if_pos ⟨by decide, by decide, by rw [List.length_map]; omega⟩, em, sat_ok], sat_oNone, sat_oSome, sat_c]
  simp only
  rw [show ∀ (xs : List PV) (lo hi : Option Int) (Q : PV → Store → Prop), Sat (pSl (.lst xs) lo hi s18) Q = Q (.lst (cutP xs lo hi)) s18 from fun _ _ _ _ => sat_of rfl, ef2, sat_nil]
  refine ⟨rfl, play_ok h hP (fun e m => he e ?_) (by omega) (.inl rfl) fun s19 g19 => ?_⟩
  · have := fm2 e m
    obtain ⟨l', ml, me⟩ := List.mem_flatten.mp this
    rw [List.eq_of_mem_replicate ml] at me
    exact me
  · rw [sat_var rfl, o_eqS, decide_eq_true rfl]
/-- the law's mirror answers True -/
theorem law_ok (V : Fv) (ns : List Int) : ∃ s, m_law V [scr ns] [] = .ok (.bl true) s := by
  obtain ⟨a, s, e, rfl⟩ := (law_sat (V := V) (ns := ns)).elim
  exact ⟨s, e⟩
end
end PL
/-! printed by gen.py: the text's places -/
namespace PL
open PySem PySem.Spec PyProof.Rows L2
def topS (i : Nat) : Stmt := PySem.Challenge.pw_sequencesandadvice_k78_whole_runs_by_let.main.body.getD i (.Pass ⟨0, 0, 0, 0⟩)
def clsS (i j : Nat) : Stmt := match topS i with
  | .ClassDef _ _ _ body _ _ _ _ _ _ _ => body.getD j (.Pass ⟨0, 0, 0, 0⟩)
  | s => s
structure Blt (mg : Str → Option Value) : Prop where
  b_abs : mg "abs" = none
  b_bool : mg "bool" = none
  b_dict : mg "dict" = none
  b_int : mg "int" = none
  b_isinstance : mg "isinstance" = none
  b_len : mg "len" = none
  b_list : mg "list" = none
  b_range : mg "range" = none
  b_sorted : mg "sorted" = none
  b_str : mg "str" = none
  b_tuple : mg "tuple" = none
  b_zip : mg "zip" = none
abbrev s_row_of : Stmt := topS 4
theorem sc_row_of : FnScope N_row_of ["game", "name"] (defScope s_row_of) := ⟨rfl, rfl, rfl, by decide +kernel, rfl, by decide +kernel, by decide +kernel⟩
abbrev s_sets_of : Stmt := topS 5
theorem sc_sets_of : FnScope N_sets_of ["game", "owner"] (defScope s_sets_of) := ⟨rfl, rfl, rfl, by decide +kernel, rfl, by decide +kernel, by decide +kernel⟩
abbrev s_choice_of : Stmt := topS 7
theorem sc_choice_of : FnScope N_choice_of ["game", "owner", "strategy"] (defScope s_choice_of) := ⟨rfl, rfl, rfl, by decide +kernel, rfl, by decide +kernel, by decide +kernel⟩
abbrev s_node_at : Stmt := topS 9
theorem sc_node_at : FnScope N_node_at ["tree", "path"] (defScope s_node_at) := ⟨rfl, rfl, rfl, by decide +kernel, rfl, by decide +kernel, by decide +kernel⟩
abbrev s_Agent_init : Stmt := clsS 11 0
theorem sc_Agent_init : FnScope N_Agent_init ["self", "game", "owner", "strategy"] (defScope s_Agent_init) := ⟨rfl, rfl, rfl, by decide +kernel, rfl, by decide +kernel, by decide +kernel⟩
abbrev s_Agent_call : Stmt := clsS 11 1
theorem sc_Agent_call : FnScope N_Agent_call ["self", "letter"] (defScope s_Agent_call) := ⟨rfl, rfl, rfl, by decide +kernel, rfl, by decide +kernel, by decide +kernel⟩
abbrev s_Referee_init : Stmt := clsS 12 0
theorem sc_Referee_init : FnScope N_Referee_init ["self", "game"] (defScope s_Referee_init) := ⟨rfl, rfl, rfl, by decide +kernel, rfl, by decide +kernel, by decide +kernel⟩
abbrev s_Referee_place : Stmt := clsS 12 1
theorem sc_Referee_place : FnScope N_Referee_place ["self"] (defScope s_Referee_place) := ⟨rfl, rfl, rfl, by decide +kernel, rfl, by decide +kernel, by decide +kernel⟩
abbrev s_Referee_ending : Stmt := clsS 12 2
theorem sc_Referee_ending : FnScope N_Referee_ending ["self"] (defScope s_Referee_ending) := ⟨rfl, rfl, rfl, by decide +kernel, rfl, by decide +kernel, by decide +kernel⟩
abbrev s_Referee_ask : Stmt := clsS 12 3
theorem sc_Referee_ask : FnScope N_Referee_ask ["self"] (defScope s_Referee_ask) := ⟨rfl, rfl, rfl, by decide +kernel, rfl, by decide +kernel, by decide +kernel⟩
abbrev s_Referee_hear : Stmt := clsS 12 4
theorem sc_Referee_hear : FnScope N_Referee_hear ["self", "letter"] (defScope s_Referee_hear) := ⟨rfl, rfl, rfl, by decide +kernel, rfl, by decide +kernel, by decide +kernel⟩
abbrev s_Run_send : Stmt := clsS 14 7
theorem sc_Run_send : FnScope N_Run_send ["self", "letter"] (defScope s_Run_send) := ⟨rfl, rfl, rfl, by decide +kernel, rfl, by decide +kernel, by decide +kernel⟩
abbrev s_Run_init : Stmt := clsS 14 0
theorem sc_Run_init : FnScope N_Run_init ["self", "game", "profile"] (defScope s_Run_init) := ⟨rfl, rfl, rfl, by decide +kernel, rfl, by decide +kernel, by decide +kernel⟩
abbrev s_Run_record : Stmt := clsS 14 1
theorem sc_Run_record : FnScope N_Run_record ["self"] (defScope s_Run_record) := ⟨rfl, rfl, rfl, by decide +kernel, rfl, by decide +kernel, by decide +kernel⟩
abbrev s_Run_ending : Stmt := clsS 14 2
theorem sc_Run_ending : FnScope N_Run_ending ["self"] (defScope s_Run_ending) := ⟨rfl, rfl, rfl, by decide +kernel, rfl, by decide +kernel, by decide +kernel⟩
abbrev s_Run_view : Stmt := clsS 14 3
theorem sc_Run_view : FnScope N_Run_view ["self", "owner"] (defScope s_Run_view) := ⟨rfl, rfl, rfl, by decide +kernel, rfl, by decide +kernel, by decide +kernel⟩
abbrev s_Run_deliver : Stmt := clsS 14 8
theorem sc_Run_deliver : FnScope N_Run_deliver ["self", "letter"] (defScope s_Run_deliver) := ⟨rfl, rfl, rfl, by decide +kernel, rfl, by decide +kernel, by decide +kernel⟩
abbrev s_Run_happen : Stmt := clsS 14 4
theorem sc_Run_happen : FnScope N_Run_happen ["self", "event"] (defScope s_Run_happen) := ⟨rfl, rfl, rfl, by decide +kernel, rfl, by decide +kernel, by decide +kernel⟩
abbrev s_Run_finish : Stmt := clsS 14 5
theorem sc_Run_finish : FnScope N_Run_finish ["self"] (defScope s_Run_finish) := ⟨rfl, rfl, rfl, by decide +kernel, rfl, by decide +kernel, by decide +kernel⟩
abbrev s_Run_saved : Stmt := clsS 14 6
theorem sc_Run_saved : FnScope N_Run_saved ["self"] (defScope s_Run_saved) := ⟨rfl, rfl, rfl, by decide +kernel, rfl, by decide +kernel, by decide +kernel⟩
abbrev s_Run_restore : Stmt := clsS 14 9
theorem sc_Run_restore : FnScope N_Run_restore ["self", "journals"] (defScope s_Run_restore) := ⟨rfl, rfl, rfl, by decide +kernel, rfl, by decide +kernel, by decide +kernel⟩
abbrev s_resumed : Stmt := topS 15
theorem sc_resumed : FnScope N_resumed ["game", "profile", "saved"] (defScope s_resumed) := ⟨rfl, rfl, rfl, by decide +kernel, rfl, by decide +kernel, by decide +kernel⟩
abbrev s_play : Stmt := topS 16
theorem sc_play : FnScope N_play ["game", "profile", "events"] (defScope s_play) := ⟨rfl, rfl, rfl, by decide +kernel, rfl, by decide +kernel, by decide +kernel⟩
abbrev s_law_source : Stmt := topS 18
theorem sc_law_source : FnScope N_law_source ["script"] (defScope s_law_source) := ⟨rfl, rfl, rfl, by decide +kernel, rfl, by decide +kernel, by decide +kernel⟩
abbrev s_law_draw : Stmt := topS 19
theorem sc_law_draw : FnScope N_law_draw ["script", "source", "limit"] (defScope s_law_draw) := ⟨rfl, rfl, rfl, by decide +kernel, rfl, by decide +kernel, by decide +kernel⟩
abbrev s_law_name : Stmt := topS 20
theorem sc_law_name : FnScope N_law_name ["script", "source", "used"] (defScope s_law_name) := ⟨rfl, rfl, rfl, by decide +kernel, rfl, by decide +kernel, by decide +kernel⟩
abbrev s_law_gcd : Stmt := topS 21
theorem sc_law_gcd : FnScope N_law_gcd ["a", "b"] (defScope s_law_gcd) := ⟨rfl, rfl, rfl, by decide +kernel, rfl, by decide +kernel, by decide +kernel⟩
abbrev s_law_reduced : Stmt := topS 22
theorem sc_law_reduced : FnScope N_law_reduced ["weights"] (defScope s_law_reduced) := ⟨rfl, rfl, rfl, by decide +kernel, rfl, by decide +kernel, by decide +kernel⟩
abbrev s_law_sets : Stmt := topS 23
theorem sc_law_sets : FnScope N_law_sets ["script", "source", "many", "most"] (defScope s_law_sets) := ⟨rfl, rfl, rfl, by decide +kernel, rfl, by decide +kernel, by decide +kernel⟩
abbrev s_law_tree : Stmt := topS 24
theorem sc_law_tree : FnScope N_law_tree ["script", "source", "free", "outcomes", "room", "wish"] (defScope s_law_tree) := ⟨rfl, rfl, rfl, by decide +kernel, rfl, by decide +kernel, by decide +kernel⟩
abbrev s_law_game : Stmt := topS 25
theorem sc_law_game : FnScope N_law_game ["script", "source", "many", "most", "nodes"] (defScope s_law_game) := ⟨rfl, rfl, rfl, by decide +kernel, rfl, by decide +kernel, by decide +kernel⟩
abbrev s_law_plain : Stmt := topS 26
theorem sc_law_plain : FnScope N_law_plain ["answer"] (defScope s_law_plain) := ⟨rfl, rfl, rfl, by decide +kernel, rfl, by decide +kernel, by decide +kernel⟩
abbrev s_law_plan : Stmt := topS 27
theorem sc_law_plan : FnScope N_law_plan ["script", "source", "rows", "owner"] (defScope s_law_plan) := ⟨rfl, rfl, rfl, by decide +kernel, rfl, by decide +kernel, by decide +kernel⟩
abbrev s_law_choice : Stmt := topS 28
theorem sc_law_choice : FnScope N_law_choice ["rows", "profile"] (defScope s_law_choice) := ⟨rfl, rfl, rfl, by decide +kernel, rfl, by decide +kernel, by decide +kernel⟩
abbrev s_law_owner : Stmt := topS 29
theorem sc_law_owner : FnScope N_law_owner ["rows", "name"] (defScope s_law_owner) := ⟨rfl, rfl, rfl, by decide +kernel, rfl, by decide +kernel, by decide +kernel⟩
abbrev s_law_way : Stmt := topS 30
theorem sc_law_way : FnScope N_law_way ["tree", "choice"] (defScope s_law_way) := ⟨rfl, rfl, rfl, by decide +kernel, rfl, by decide +kernel, by decide +kernel⟩
abbrev s_law_ask : Stmt := topS 31
theorem sc_law_ask : FnScope N_law_ask ["game", "journal"] (defScope s_law_ask) := ⟨rfl, rfl, rfl, by decide +kernel, rfl, by decide +kernel, by decide +kernel⟩
abbrev s_law_deliver : Stmt := topS 32
theorem sc_law_deliver : FnScope N_law_deliver ["game", "choice", "journal", "answers", "bag", "letter"] (defScope s_law_deliver) := ⟨rfl, rfl, rfl, by decide +kernel, rfl, by decide +kernel, by decide +kernel⟩
abbrev s_law_event : Stmt := topS 33
theorem sc_law_event : FnScope N_law_event ["game", "choice", "journal", "answers", "bag", "event"] (defScope s_law_event) := ⟨rfl, rfl, rfl, by decide +kernel, rfl, by decide +kernel, by decide +kernel⟩
abbrev s_law_drawn_event : Stmt := topS 34
theorem sc_law_drawn_event : FnScope N_law_drawn_event ["script", "source"] (defScope s_law_drawn_event) := ⟨rfl, rfl, rfl, by decide +kernel, rfl, by decide +kernel, by decide +kernel⟩
abbrev s_law_is : Stmt := topS 35
theorem sc_law_is : FnScope N_law_is ["game", "run", "way", "end", "journal", "answers", "bag"] (defScope s_law_is) := ⟨rfl, rfl, rfl, by decide +kernel, rfl, by decide +kernel, by decide +kernel⟩
abbrev s_law_saved : Stmt := topS 36
theorem sc_law_saved : FnScope N_law_saved ["game", "profile", "run", "way", "end", "journal", "answers", "bag"] (defScope s_law_saved) := ⟨rfl, rfl, rfl, by decide +kernel, rfl, by decide +kernel, by decide +kernel⟩
abbrev s_law_finished : Stmt := topS 37
theorem sc_law_finished : FnScope N_law_finished ["game", "run", "way", "end", "bag"] (defScope s_law_finished) := ⟨rfl, rfl, rfl, by decide +kernel, rfl, by decide +kernel, by decide +kernel⟩
abbrev s_law_told : Stmt := topS 38
theorem sc_law_told : FnScope N_law_told ["game", "choice", "run", "journal", "answers", "bag", "event"] (defScope s_law_told) := ⟨rfl, rfl, rfl, by decide +kernel, rfl, by decide +kernel, by decide +kernel⟩
abbrev s_law : Stmt := topS 39
theorem sc_law : FnScope N_law ["script"] (defScope s_law) := ⟨rfl, rfl, rfl, by decide +kernel, rfl, by decide +kernel, by decide +kernel⟩
end PL
/-! printed by gen.py: row_of is worth its evaluator -/
namespace PL
open PySem PySem.Spec PyProof.Rows L2
section
variable {P : Program} {w : World} {K : PySem.W.Frag} {mg : Str → Option Value} {base : Heap}
theorem has_row_of (B : Blt mg) (d : DefOf K mg "row_of" s_row_of ["game", "name"])   : Has P w K mg base "row_of" ["game", "name"] 1 m_row_of :=
  has_of (k := 0) (N := N_row_of) d sc_row_of fun cdv A outer s H E hr =>
  (mb_cons (ms_for PassesOwn.never rfl (mi_val (me_ix is_ix (me_var 0) me_int)) (mg_one (i := 2) sc_row_of.nd)
    (mb_one (ms_if (mt_cmp (os_eq hr.units) (me_ix is_ix (me_var 2) me_int) (me_var 1)) (mb_one (ms_ret (me_var 2))) mb_nil)))
    (mb_one (ms_ret me_non)))
end
end PL
/-! printed by gen.py: sets_of is worth its evaluator -/
namespace PL
open PySem PySem.Spec PyProof.Rows L2
section
variable {P : Program} {w : World} {K : PySem.W.Frag} {mg : Str → Option Value} {base : Heap}
theorem has_sets_of (B : Blt mg) (d : DefOf K mg "sets_of" s_sets_of ["game", "owner"])   : Has P w K mg base "sets_of" ["game", "owner"] 1 m_sets_of :=
  has_of (k := 0) (N := N_sets_of) d sc_sets_of fun cdv A outer s H E hr =>
  (mb_one (ms_ret (me_callTy cs_tuple rfl B.b_tuple bt_tuple (ma_cons (me_compG false (own := [("row", 2)]) rfl sc_sets_of.nd (mi_val (me_ix is_ix (me_var 0) me_int)) (blkOk_by (own := [("row", 2)]) (N := N_sets_of) (sc := defScope s_sets_of) (by decide +kernel)) (fun _ _ _ _ _ => (mg_one (i := 2) sc_sets_of.nd)) (fun _ _ _ _ _ => (mts_one (mt_cmp (os_eq hr.units) (me_ix is_ix (me_var 2) me_int) (me_var 1)))) (fun _ _ _ _ _ => (me_ix is_ix (me_var 2) me_int))) ma_nil))))
end
end PL
/-! printed by gen.py: choice_of is worth its evaluator -/
namespace PL
open PySem PySem.Spec PyProof.Rows L2
section
variable {P : Program} {w : World} {K : PySem.W.Frag} {mg : Str → Option Value} {base : Heap}
theorem has_choice_of (B : Blt mg) (d : DefOf K mg "choice_of" s_choice_of ["game", "owner", "strategy"])  (h_sets_of : Has P w K mg base "sets_of" ["game", "owner"] 1 m_sets_of) : Has P w K mg base "choice_of" ["game", "owner", "strategy"] 2 m_choice_of :=
  has_of (k := 1) (N := N_choice_of) d sc_choice_of fun cdv A outer s H E hr =>
  (mb_one (ms_ret (me_dictZip rfl rfl B.b_dict rfl B.b_zip (me_callH h_sets_of (hr.mono (by decide)) (ma_cons (me_var 0) (ma_cons (me_var 1) ma_nil))) (me_var 2))))
end
end PL
/-! printed by gen.py: node_at is worth its evaluator -/
namespace PL
open PySem PySem.Spec PyProof.Rows L2
section
variable {P : Program} {w : World} {K : PySem.W.Frag} {mg : Str → Option Value} {base : Heap}
theorem has_node_at (B : Blt mg) (d : DefOf K mg "node_at" s_node_at ["tree", "path"])   : Has P w K mg base "node_at" ["tree", "path"] 1 m_node_at :=
  has_of (k := 0) (N := N_node_at) d sc_node_at fun cdv A outer s H E hr =>
  (mb_cons (ms_set (i := 2) sc_node_at.nd (me_var 0))
    (mb_cons (ms_for PassesOwn.never rfl (mi_val (me_var 1)) (mg_one (i := 3) sc_node_at.nd)
    (mb_cons (ms_if (PW.pt (mw_or (mt_val (me_callB cs_isi rfl B.b_isinstance bb_isinstance (ma_cons (me_var 2) (ma_cons (me_bval (v := .ty "str") rfl B.b_str bt_str rfl) ma_nil)))) (mw_or1 (mt_not (mt_chain (os_le hr.units) (os_lt hr.units) me_int (me_var 3) (me_callB cs_len rfl B.b_len bb_len (ma_cons (me_ix is_ix (me_var 2) me_int) ma_nil))))))) (mb_one ms_stuck) mb_nil)
    (mb_one (ms_set (i := 2) sc_node_at.nd (me_ix is_ix (me_ix is_ix (me_var 2) me_int) (me_var 3))))))
    (mb_one (ms_ret (me_var 2)))))
end
end PL
/-! printed by gen.py: Agent.__init__ is worth its evaluator -/
namespace PL
open PySem PySem.Spec PyProof.Rows L2
section
variable {P : Program} {w : World} {K : PySem.W.Frag} {mg : Str → Option Value} {base : Heap}
theorem has_Agent_init (B : Blt mg) {V : Fv} (d : InitOf K mg "Agent" V.c_Agent "Agent.__init__" s_Agent_init ["self", "game", "owner", "strategy"])   (c_Agent : Cls K V.c_Agent) (n_Agent_moves : NoAttr K V.c_Agent "_moves") (n_Agent_owner : NoAttr K V.c_Agent "_owner") (n_Agent_journal : NoAttr K V.c_Agent "journal") (h_choice_of : Has P w K mg base "choice_of" ["game", "owner", "strategy"] 2 m_choice_of) : HasI P w K mg base "Agent" V.c_Agent ["self", "game", "owner", "strategy"] 3 (m_Agent_init V) :=
  has_ofI (k := 2) (N := N_Agent_init) d sc_Agent_init fun cdv A outer s H E hr =>
  (mb_cons (ms_fld c_Agent n_Agent_owner (me_var 0) (me_var 2))
    (mb_cons (ms_fld c_Agent n_Agent_moves (me_var 0) (me_callH h_choice_of (hr.mono (by decide)) (ma_cons (me_var 1) (ma_cons (me_var 2) (ma_cons (me_var 3) ma_nil)))))
    (mb_one (ms_fld c_Agent n_Agent_journal (me_var 0) (me_tup ma_nil)))))
end
end PL
/-! printed by gen.py: Agent.__call__ is worth its evaluator -/
namespace PL
open PySem PySem.Spec PyProof.Rows L2
section
variable {P : Program} {w : World} {K : PySem.W.Frag} {mg : Str → Option Value} {base : Heap}
theorem has_Agent_call (B : Blt mg) {V : Fv} (d : CallOf K V.c_Agent "Agent.__call__" s_Agent_call ["self", "letter"])   (c_Agent : Cls K V.c_Agent) (n_Agent_moves : NoAttr K V.c_Agent "_moves") (n_Agent_owner : NoAttr K V.c_Agent "_owner") (n_Agent_journal : NoAttr K V.c_Agent "journal")  : HasC P w K mg base V.c_Agent ["self", "letter"] 1 (m_Agent_call V) :=
  has_ofC (k := 0) (N := N_Agent_call) d sc_Agent_call fun cdv A outer s H E hr =>
  (mb_cons (ms_if (PW.pt (mw_or (mt_cmp (os_ne hr.units) (me_ix (is_ixD hr.units) (me_var 1) me_int) me_str) (mw_or (mt_cmp (os_ne hr.units) (me_ix (is_ixD hr.units) (me_var 1) me_int) (me_fld c_Agent n_Agent_owner (me_var 0))) (mw_or1 (mt_cmp (os_notInK hr.units) (me_ix (is_ixD hr.units) (me_var 1) me_int) (me_fld c_Agent n_Agent_moves (me_var 0))))))) (mb_one (ms_ret me_non)) mb_nil)
    (mb_cons (ms_set (i := 2) sc_Agent_call.nd (me_ix (is_ixD hr.units) (me_var 1) me_int))
    (mb_cons (ms_set (i := 3) sc_Agent_call.nd (me_ix (is_ixD hr.units) (me_fld c_Agent n_Agent_moves (me_var 0)) (me_var 2)))
    (mb_cons (ms_if (mt_cmp (os_notInK hr.units) (me_var 2) (me_compG false (own := [("pair", 4)]) rfl sc_Agent_call.nd (mi_val (me_fld c_Agent n_Agent_journal (me_var 0))) (blkOk_by (own := [("pair", 4)]) (N := N_Agent_call) (sc := defScope s_Agent_call) (by decide +kernel)) (fun _ _ _ _ _ => (mg_one (i := 4) sc_Agent_call.nd)) (fun _ _ _ _ _ => mts_nil) (fun _ _ _ _ _ => (me_ix (is_ixD hr.units) (me_var 4) me_int)))) (mb_one (ms_fld c_Agent n_Agent_journal (me_var 0) (me_bin os_add (me_fld c_Agent n_Agent_journal (me_var 0)) (me_tup (ma_cons (me_tup (ma_cons (me_var 2) (ma_cons (me_var 3) ma_nil))) ma_nil))))) mb_nil)
    (mb_one (ms_ret (me_tup (ma_cons me_str (ma_cons (me_fld c_Agent n_Agent_owner (me_var 0)) (ma_cons (me_var 2) (ma_cons (me_var 3) ma_nil)))))))))))
end
end PL
/-! printed by gen.py: Referee.__init__ is worth its evaluator -/
namespace PL
open PySem PySem.Spec PyProof.Rows L2
section
variable {P : Program} {w : World} {K : PySem.W.Frag} {mg : Str → Option Value} {base : Heap}
theorem has_Referee_init (B : Blt mg) {V : Fv} (d : InitOf K mg "Referee" V.c_Referee "Referee.__init__" s_Referee_init ["self", "game"])   (c_Referee : Cls K V.c_Referee) (n_Referee_game : NoAttr K V.c_Referee "_game") (n_Referee_journal : NoAttr K V.c_Referee "journal")  : HasI P w K mg base "Referee" V.c_Referee ["self", "game"] 1 (m_Referee_init V) :=
  has_ofI (k := 0) (N := N_Referee_init) d sc_Referee_init fun cdv A outer s H E hr =>
  (mb_cons (ms_fld c_Referee n_Referee_game (me_var 0) (me_var 1))
    (mb_one (ms_fld c_Referee n_Referee_journal (me_var 0) (me_tup ma_nil))))
end
end PL
/-! printed by gen.py: Referee.place is worth its evaluator -/
namespace PL
open PySem PySem.Spec PyProof.Rows L2
section
variable {P : Program} {w : World} {K : PySem.W.Frag} {mg : Str → Option Value} {base : Heap}
theorem has_Referee_place (B : Blt mg) {V : Fv} (d : PropOfC K V.c_Referee "place" "Referee.place" s_Referee_place ["self"])   (c_Referee : Cls K V.c_Referee) (n_Referee_journal : NoAttr K V.c_Referee "journal")  : HasP P w K mg base V.c_Referee "place" ["self"] 1 (m_Referee_place V) :=
  has_ofP (k := 0) (N := N_Referee_place) d sc_Referee_place fun cdv A outer s H E hr =>
  (mb_one (ms_ret (me_callTy cs_tuple rfl B.b_tuple bt_tuple (ma_cons (me_compG false (own := [("pair", 1)]) rfl sc_Referee_place.nd (mi_val (me_fld c_Referee n_Referee_journal (me_var 0))) (blkOk_by (own := [("pair", 1)]) (N := N_Referee_place) (sc := defScope s_Referee_place) (by decide +kernel)) (fun _ _ _ _ _ => (mg_one (i := 1) sc_Referee_place.nd)) (fun _ _ _ _ _ => mts_nil) (fun _ _ _ _ _ => (me_ix is_ix (me_var 1) me_int))) ma_nil))))
end
end PL
/-! printed by gen.py: Referee.ending is worth its evaluator -/
namespace PL
open PySem PySem.Spec PyProof.Rows L2
section
variable {P : Program} {w : World} {K : PySem.W.Frag} {mg : Str → Option Value} {base : Heap}
theorem has_Referee_ending (B : Blt mg) {V : Fv} (d : PropOfC K V.c_Referee "ending" "Referee.ending" s_Referee_ending ["self"])   (c_Referee : Cls K V.c_Referee) (n_Referee_game : NoAttr K V.c_Referee "_game") (h_node_at : Has P w K mg base "node_at" ["tree", "path"] 1 m_node_at) (h_Referee_place : HasP P w K mg base V.c_Referee "place" ["self"] 1 (m_Referee_place V)) : HasP P w K mg base V.c_Referee "ending" ["self"] 3 (m_Referee_ending V) :=
  has_ofP (k := 2) (N := N_Referee_ending) d sc_Referee_ending fun cdv A outer s H E hr =>
  (mb_cons (ms_set (i := 1) sc_Referee_ending.nd (me_callH h_node_at (hr.mono (by decide)) (ma_cons (me_ix is_ix (me_fld c_Referee n_Referee_game (me_var 0)) me_int) (ma_cons (me_prop c_Referee h_Referee_place (hr.mono (by decide)) (me_var 0)) ma_nil))))
    (mb_cons (ms_if (mt_val (me_callB cs_isi rfl B.b_isinstance bb_isinstance (ma_cons (me_var 1) (ma_cons (me_bval (v := .ty "str") rfl B.b_str bt_str rfl) ma_nil)))) (mb_one (ms_ret (me_var 1))) mb_nil)
    (mb_one (ms_ret me_non))))
end
end PL
/-! printed by gen.py: Referee.ask is worth its evaluator -/
namespace PL
open PySem PySem.Spec PyProof.Rows L2
section
variable {P : Program} {w : World} {K : PySem.W.Frag} {mg : Str → Option Value} {base : Heap}
theorem has_Referee_ask (B : Blt mg) {V : Fv} (d : MethOf K V.c_Referee "ask" "Referee.ask" s_Referee_ask ["self"])   (c_Referee : Cls K V.c_Referee) (n_Referee_game : NoAttr K V.c_Referee "_game") (h_row_of : Has P w K mg base "row_of" ["game", "name"] 1 m_row_of) (h_node_at : Has P w K mg base "node_at" ["tree", "path"] 1 m_node_at) (h_Referee_place : HasP P w K mg base V.c_Referee "place" ["self"] 1 (m_Referee_place V)) : HasM P w K mg base V.c_Referee "ask" ["self"] 3 (m_Referee_ask V) :=
  has_ofM (k := 2) (N := N_Referee_ask) d sc_Referee_ask fun cdv A outer s H E hr =>
  (mb_cons (ms_set (i := 1) sc_Referee_ask.nd (me_callH h_node_at (hr.mono (by decide)) (ma_cons (me_ix is_ix (me_fld c_Referee n_Referee_game (me_var 0)) me_int) (ma_cons (me_prop c_Referee h_Referee_place (hr.mono (by decide)) (me_var 0)) ma_nil))))
    (mb_cons (ms_if (mt_val (me_callB cs_isi rfl B.b_isinstance bb_isinstance (ma_cons (me_var 1) (ma_cons (me_bval (v := .ty "str") rfl B.b_str bt_str rfl) ma_nil)))) (mb_one (ms_ret me_non)) mb_nil)
    (mb_one (ms_ret (me_tup (ma_cons me_str (ma_cons (me_ix is_ix (me_callH h_row_of (hr.mono (by decide)) (ma_cons (me_fld c_Referee n_Referee_game (me_var 0)) (ma_cons (me_ix is_ix (me_var 1) me_int) ma_nil))) me_int) (ma_cons (me_ix is_ix (me_var 1) me_int) ma_nil))))))))
end
end PL
/-! printed by gen.py: Referee.hear is worth its evaluator -/
namespace PL
open PySem PySem.Spec PyProof.Rows L2
section
variable {P : Program} {w : World} {K : PySem.W.Frag} {mg : Str → Option Value} {base : Heap}
theorem has_Referee_hear (B : Blt mg) {V : Fv} (d : MethOf K V.c_Referee "hear" "Referee.hear" s_Referee_hear ["self", "letter"])   (c_Referee : Cls K V.c_Referee) (n_Referee_game : NoAttr K V.c_Referee "_game") (n_Referee_journal : NoAttr K V.c_Referee "journal") (h_row_of : Has P w K mg base "row_of" ["game", "name"] 1 m_row_of) (h_node_at : Has P w K mg base "node_at" ["tree", "path"] 1 m_node_at) (h_Referee_place : HasP P w K mg base V.c_Referee "place" ["self"] 1 (m_Referee_place V)) : HasM P w K mg base V.c_Referee "hear" ["self", "letter"] 3 (m_Referee_hear V) :=
  has_ofM (k := 2) (N := N_Referee_hear) d sc_Referee_hear fun cdv A outer s H E hr =>
  (mb_cons (ms_set (i := 2) sc_Referee_hear.nd (me_callH h_node_at (hr.mono (by decide)) (ma_cons (me_ix is_ix (me_fld c_Referee n_Referee_game (me_var 0)) me_int) (ma_cons (me_prop c_Referee h_Referee_place (hr.mono (by decide)) (me_var 0)) ma_nil))))
    (mb_cons (ms_if (PW.pt (mw_or (mt_val (me_callB cs_isi rfl B.b_isinstance bb_isinstance (ma_cons (me_var 2) (ma_cons (me_bval (v := .ty "str") rfl B.b_str bt_str rfl) ma_nil)))) (mw_or (mt_cmp (os_ne hr.units) (me_ix is_ix (me_var 1) me_int) me_str) (mw_or1 (mt_cmp (os_ne hr.units) (me_ix is_ix (me_var 1) me_int) (me_ix is_ix (me_var 2) me_int)))))) (mb_one (ms_ret me_bl)) mb_nil)
    (mb_cons (ms_tg (mg_tup rfl (mgs_cons (i := 3) sc_Referee_hear.nd (mgs_cons (i := 4) sc_Referee_hear.nd (mgs_cons (i := 5) sc_Referee_hear.nd mgs_nil)))) (me_callH h_row_of (hr.mono (by decide)) (ma_cons (me_fld c_Referee n_Referee_game (me_var 0)) (ma_cons (me_ix is_ix (me_var 2) me_int) ma_nil))))
    (mb_cons (ms_if (PW.pt (mw_or (mt_cmp (os_ne hr.units) (me_ix is_ix (me_var 1) me_int) (me_var 4)) (mw_or1 (mt_not (mt_chain (os_le hr.units) (os_lt hr.units) me_int (me_ix is_ix (me_var 1) me_int) (me_callB cs_len rfl B.b_len bb_len (ma_cons (me_var 5) ma_nil))))))) (mb_one (ms_ret me_bl)) mb_nil)
    (mb_cons (ms_fld c_Referee n_Referee_journal (me_var 0) (me_bin os_add (me_fld c_Referee n_Referee_journal (me_var 0)) (me_tup (ma_cons (me_tup (ma_cons (me_var 3) (ma_cons (me_ix is_ix (me_var 1) me_int) ma_nil))) ma_nil))))
    (mb_one (ms_ret me_bl)))))))
end
end PL
/-! printed by gen.py: Run._send is worth its evaluator -/
namespace PL
open PySem PySem.Spec PyProof.Rows L2
section
variable {P : Program} {w : World} {K : PySem.W.Frag} {mg : Str → Option Value} {base : Heap}
theorem has_Run_send (B : Blt mg) {V : Fv} (d : MethOf K V.c_Run "_send" "Run._send" s_Run_send ["self", "letter"])   (c_Run : Cls K V.c_Run) (n_Run_bag : NoAttr K V.c_Run "bag")  : HasM P w K mg base V.c_Run "_send" ["self", "letter"] 1 (m_Run_send V) :=
  has_ofM (k := 0) (N := N_Run_send) d sc_Run_send fun cdv A outer s H E hr =>
  (mb_one (ms_if (mt_cmp os_isNot (me_var 1) me_non) (mb_one (ms_fld c_Run n_Run_bag (me_var 0) (me_bin os_add (me_fld c_Run n_Run_bag (me_var 0)) (me_tup (ma_cons (me_var 1) ma_nil))))) mb_nil))
end
end PL
/-! printed by gen.py: Run.__init__ is worth its evaluator -/
namespace PL
open PySem PySem.Spec PyProof.Rows L2
section
variable {P : Program} {w : World} {K : PySem.W.Frag} {mg : Str → Option Value} {base : Heap}
theorem has_Run_init (B : Blt mg) {V : Fv} (d : InitOf K mg "Run" V.c_Run "Run.__init__" s_Run_init ["self", "game", "profile"])   (c_Agent : Cls K V.c_Agent) (c_Referee : Cls K V.c_Referee) (c_Run : Cls K V.c_Run) (n_Run_agents : NoAttr K V.c_Run "_agents") (n_Run_referee : NoAttr K V.c_Run "_referee") (n_Run_bag : NoAttr K V.c_Run "bag") (h_Agent_init : HasI P w K mg base "Agent" V.c_Agent ["self", "game", "owner", "strategy"] 3 (m_Agent_init V)) (h_Referee_init : HasI P w K mg base "Referee" V.c_Referee ["self", "game"] 1 (m_Referee_init V)) (h_Referee_ask : HasM P w K mg base V.c_Referee "ask" ["self"] 3 (m_Referee_ask V)) (h_Run_send : HasM P w K mg base V.c_Run "_send" ["self", "letter"] 1 (m_Run_send V)) : HasI P w K mg base "Run" V.c_Run ["self", "game", "profile"] 5 (m_Run_init V) :=
  has_ofI (k := 4) (N := N_Run_init) d sc_Run_init fun cdv A outer s H E hr =>
  (mb_cons (ms_fld c_Run n_Run_referee (me_var 0) (me_make h_Referee_init (hr.mono (by decide)) (ma_cons (me_var 1) ma_nil)))
    (mb_cons (ms_fld c_Run n_Run_agents (me_var 0) (me_callTy cs_tuple rfl B.b_tuple bt_tuple (ma_cons (me_compG false (own := [("owner", 3)]) rfl sc_Run_init.nd (mi_range1 rfl B.b_range me_int) (blkOk_by (own := [("owner", 3)]) (N := N_Run_init) (sc := defScope s_Run_init) (by decide +kernel)) (fun _ _ _ _ _ => (mg_one (i := 3) sc_Run_init.nd)) (fun _ _ _ _ _ => mts_nil) (fun _ _ _ _ _ => (me_make h_Agent_init (hr.mono (by decide)) (ma_cons (me_var 1) (ma_cons (me_var 3) (ma_cons (me_ix is_ix (me_var 2) (me_var 3)) ma_nil)))))) ma_nil)))
    (mb_cons (ms_fld c_Run n_Run_bag (me_var 0) (me_tup ma_nil))
    (mb_one (ms_expr (me_meth c_Run h_Run_send (hr.mono (by decide)) (me_var 0) (ma_cons (me_meth0 c_Referee h_Referee_ask (hr.mono (by decide)) (me_fld c_Run n_Run_referee (me_var 0))) ma_nil)))))))
end
end PL
/-! printed by gen.py: Run.record is worth its evaluator -/
namespace PL
open PySem PySem.Spec PyProof.Rows L2
section
variable {P : Program} {w : World} {K : PySem.W.Frag} {mg : Str → Option Value} {base : Heap}
theorem has_Run_record (B : Blt mg) {V : Fv} (d : PropOfC K V.c_Run "record" "Run.record" s_Run_record ["self"])   (c_Referee : Cls K V.c_Referee) (c_Run : Cls K V.c_Run) (n_Referee_journal : NoAttr K V.c_Referee "journal") (n_Run_referee : NoAttr K V.c_Run "_referee")  : HasP P w K mg base V.c_Run "record" ["self"] 1 (m_Run_record V) :=
  has_ofP (k := 0) (N := N_Run_record) d sc_Run_record fun cdv A outer s H E hr =>
  (mb_one (ms_ret (me_fld c_Referee n_Referee_journal (me_fld c_Run n_Run_referee (me_var 0)))))
end
end PL
/-! printed by gen.py: Run.ending is worth its evaluator -/
namespace PL
open PySem PySem.Spec PyProof.Rows L2
section
variable {P : Program} {w : World} {K : PySem.W.Frag} {mg : Str → Option Value} {base : Heap}
theorem has_Run_ending (B : Blt mg) {V : Fv} (d : PropOfC K V.c_Run "ending" "Run.ending" s_Run_ending ["self"])   (c_Referee : Cls K V.c_Referee) (c_Run : Cls K V.c_Run) (n_Run_referee : NoAttr K V.c_Run "_referee") (h_Referee_ending : HasP P w K mg base V.c_Referee "ending" ["self"] 3 (m_Referee_ending V)) : HasP P w K mg base V.c_Run "ending" ["self"] 5 (m_Run_ending V) :=
  has_ofP (k := 4) (N := N_Run_ending) d sc_Run_ending fun cdv A outer s H E hr =>
  (mb_one (ms_ret (me_prop c_Referee h_Referee_ending (hr.mono (by decide)) (me_fld c_Run n_Run_referee (me_var 0)))))
end
end PL
/-! printed by gen.py: Run.view is worth its evaluator -/
namespace PL
open PySem PySem.Spec PyProof.Rows L2
section
variable {P : Program} {w : World} {K : PySem.W.Frag} {mg : Str → Option Value} {base : Heap}
theorem has_Run_view (B : Blt mg) {V : Fv} (d : MethOf K V.c_Run "view" "Run.view" s_Run_view ["self", "owner"])   (c_Agent : Cls K V.c_Agent) (c_Run : Cls K V.c_Run) (n_Agent_journal : NoAttr K V.c_Agent "journal") (n_Run_agents : NoAttr K V.c_Run "_agents")  : HasM P w K mg base V.c_Run "view" ["self", "owner"] 1 (m_Run_view V) :=
  has_ofM (k := 0) (N := N_Run_view) d sc_Run_view fun cdv A outer s H E hr =>
  (mb_cons (ms_set (i := 2) sc_Run_view.nd (me_ix is_ix (me_fld c_Run n_Run_agents (me_var 0)) (me_var 1)))
    (mb_one (ms_ret (me_callTy cs_tuple rfl B.b_tuple bt_tuple (ma_cons (me_compG false (own := [("pair", 3)]) rfl sc_Run_view.nd (mi_val (me_fld c_Agent n_Agent_journal (me_var 2))) (blkOk_by (own := [("pair", 3)]) (N := N_Run_view) (sc := defScope s_Run_view) (by decide +kernel)) (fun _ _ _ _ _ => (mg_one (i := 3) sc_Run_view.nd)) (fun _ _ _ _ _ => mts_nil) (fun _ _ _ _ _ => (me_ix is_ix (me_var 3) me_int))) ma_nil)))))
end
end PL
/-! printed by gen.py: Run._deliver is worth its evaluator -/
namespace PL
open PySem PySem.Spec PyProof.Rows L2
section
variable {P : Program} {w : World} {K : PySem.W.Frag} {mg : Str → Option Value} {base : Heap}
theorem has_Run_deliver (B : Blt mg) {V : Fv} (d : MethOf K V.c_Run "_deliver" "Run._deliver" s_Run_deliver ["self", "letter"])   (c_Agent : Cls K V.c_Agent) (c_Referee : Cls K V.c_Referee) (c_Run : Cls K V.c_Run) (n_Run_agents : NoAttr K V.c_Run "_agents") (n_Run_referee : NoAttr K V.c_Run "_referee") (h_Agent_call : HasC P w K mg base V.c_Agent ["self", "letter"] 1 (m_Agent_call V)) (h_Referee_ask : HasM P w K mg base V.c_Referee "ask" ["self"] 3 (m_Referee_ask V)) (h_Referee_hear : HasM P w K mg base V.c_Referee "hear" ["self", "letter"] 3 (m_Referee_hear V)) (h_Run_send : HasM P w K mg base V.c_Run "_send" ["self", "letter"] 1 (m_Run_send V)) : HasM P w K mg base V.c_Run "_deliver" ["self", "letter"] 4 (m_Run_deliver V) :=
  has_ofM (k := 3) (N := N_Run_deliver) d sc_Run_deliver fun cdv A outer s H E hr =>
  (mb_one (ms_if (mt_cmp (os_eq hr.units) (me_ix is_ix (me_var 1) me_int) me_str) (mb_cons (ms_set (i := 2) sc_Run_deliver.nd (me_ix is_ix (me_fld c_Run n_Run_agents (me_var 0)) (me_ix is_ix (me_var 1) me_int)))
    (mb_one (ms_expr (me_meth c_Run h_Run_send (hr.mono (by decide)) (me_var 0) (ma_cons (me_callO h_Agent_call (hr.mono (by decide)) (me_var 2) (ma_cons (me_var 1) ma_nil)) ma_nil))))) (mb_one (ms_if (mt_val (me_meth c_Referee h_Referee_hear (hr.mono (by decide)) (me_fld c_Run n_Run_referee (me_var 0)) (ma_cons (me_var 1) ma_nil))) (mb_one (ms_expr (me_meth c_Run h_Run_send (hr.mono (by decide)) (me_var 0) (ma_cons (me_meth0 c_Referee h_Referee_ask (hr.mono (by decide)) (me_fld c_Run n_Run_referee (me_var 0))) ma_nil)))) mb_nil))))
end
end PL
/-! printed by gen.py: Run.happen is worth its evaluator -/
namespace PL
open PySem PySem.Spec PyProof.Rows L2
section
variable {P : Program} {w : World} {K : PySem.W.Frag} {mg : Str → Option Value} {base : Heap}
theorem has_Run_happen (B : Blt mg) {V : Fv} (d : MethOf K V.c_Run "happen" "Run.happen" s_Run_happen ["self", "event"])   (c_Referee : Cls K V.c_Referee) (c_Run : Cls K V.c_Run) (n_Run_referee : NoAttr K V.c_Run "_referee") (n_Run_bag : NoAttr K V.c_Run "bag") (h_Referee_ask : HasM P w K mg base V.c_Referee "ask" ["self"] 3 (m_Referee_ask V)) (h_Run_send : HasM P w K mg base V.c_Run "_send" ["self", "letter"] 1 (m_Run_send V)) (h_Run_deliver : HasM P w K mg base V.c_Run "_deliver" ["self", "letter"] 4 (m_Run_deliver V)) : HasM P w K mg base V.c_Run "happen" ["self", "event"] 5 (m_Run_happen V) :=
  has_ofM (k := 4) (N := N_Run_happen) d sc_Run_happen fun cdv A outer s H E hr =>
  (mb_cons (ms_if (mt_cmp (os_eq hr.units) (me_ix is_ix (me_var 1) me_int) me_str) (mb_cons (ms_expr (me_meth c_Run h_Run_send (hr.mono (by decide)) (me_var 0) (ma_cons (me_meth0 c_Referee h_Referee_ask (hr.mono (by decide)) (me_fld c_Run n_Run_referee (me_var 0))) ma_nil)))
    (mb_one (ms_ret me_bl))) mb_nil)
    (mb_cons (ms_tg (mg_tup rfl (mgs_cons (i := 3) sc_Run_happen.nd (mgs_cons (i := 4) sc_Run_happen.nd mgs_nil))) (me_var 1))
    (mb_cons (ms_if (mt_not (mt_chain (os_le hr.units) (os_lt hr.units) me_int (me_var 4) (me_callB cs_len rfl B.b_len bb_len (ma_cons (me_fld c_Run n_Run_bag (me_var 0)) ma_nil)))) (mb_one (ms_ret me_bl)) mb_nil)
    (mb_cons (ms_set (i := 2) sc_Run_happen.nd (me_ix is_ix (me_fld c_Run n_Run_bag (me_var 0)) (me_var 4)))
    (mb_cons (ms_if (mt_cmp (os_ne hr.units) (me_var 3) me_str) (mb_one (ms_fld c_Run n_Run_bag (me_var 0) (me_bin os_add (me_sl ss_sl (me_fld c_Run n_Run_bag (me_var 0)) mo_none (mo_some (me_var 4))) (me_sl ss_sl (me_fld c_Run n_Run_bag (me_var 0)) (mo_some (me_bin os_add (me_var 4) me_int)) mo_none)))) mb_nil)
    (mb_cons (ms_if (mt_cmp (os_ne hr.units) (me_var 3) me_str) (mb_one (ms_expr (me_meth c_Run h_Run_deliver (hr.mono (by decide)) (me_var 0) (ma_cons (me_var 2) ma_nil)))) mb_nil)
    (mb_one (ms_ret me_bl))))))))
end
end PL
/-! printed by gen.py: Run.finish is worth its evaluator -/
namespace PL
open PySem PySem.Spec PyProof.Rows L2
section
variable {P : Program} {w : World} {K : PySem.W.Frag} {mg : Str → Option Value} {base : Heap}
theorem has_Run_finish (B : Blt mg) {V : Fv} (d : MethOf K V.c_Run "finish" "Run.finish" s_Run_finish ["self"])   (c_Agent : Cls K V.c_Agent) (c_Referee : Cls K V.c_Referee) (c_Run : Cls K V.c_Run) (n_Run_agents : NoAttr K V.c_Run "_agents") (n_Run_referee : NoAttr K V.c_Run "_referee") (h_Agent_call : HasC P w K mg base V.c_Agent ["self", "letter"] 1 (m_Agent_call V)) (h_Referee_ask : HasM P w K mg base V.c_Referee "ask" ["self"] 3 (m_Referee_ask V)) (h_Referee_hear : HasM P w K mg base V.c_Referee "hear" ["self", "letter"] 3 (m_Referee_hear V)) (h_Run_ending : HasP P w K mg base V.c_Run "ending" ["self"] 5 (m_Run_ending V)) : HasM P w K mg base V.c_Run "finish" ["self"] 7 (m_Run_finish V) :=
  has_ofM (k := 6) (N := N_Run_finish) d sc_Run_finish fun cdv A outer s H E hr =>
  (mb_cons (ms_while 1000 PassesOwn.never (mt_cmp os_is (me_prop c_Run h_Run_ending (hr.mono (by decide)) (me_var 0)) me_non)
    (mb_cons (ms_set (i := 1) sc_Run_finish.nd (me_meth0 c_Referee h_Referee_ask (hr.mono (by decide)) (me_fld c_Run n_Run_referee (me_var 0))))
    (mb_cons (ms_set (i := 2) sc_Run_finish.nd (me_ix is_ix (me_fld c_Run n_Run_agents (me_var 0)) (me_ix is_ix (me_var 1) me_int)))
    (mb_one (ms_expr (me_meth c_Referee h_Referee_hear (hr.mono (by decide)) (me_fld c_Run n_Run_referee (me_var 0)) (ma_cons (me_callO h_Agent_call (hr.mono (by decide)) (me_var 2) (ma_cons (me_var 1) ma_nil)) ma_nil)))))))
    (mb_one (ms_ret (me_prop c_Run h_Run_ending (hr.mono (by decide)) (me_var 0)))))
end
end PL
/-! printed by gen.py: Run.saved is worth its evaluator -/
namespace PL
open PySem PySem.Spec PyProof.Rows L2
section
variable {P : Program} {w : World} {K : PySem.W.Frag} {mg : Str → Option Value} {base : Heap}
theorem has_Run_saved (B : Blt mg) {V : Fv} (d : MethOf K V.c_Run "saved" "Run.saved" s_Run_saved ["self"])   (c_Agent : Cls K V.c_Agent) (c_Referee : Cls K V.c_Referee) (c_Run : Cls K V.c_Run) (n_Agent_journal : NoAttr K V.c_Agent "journal") (n_Referee_journal : NoAttr K V.c_Referee "journal") (n_Run_agents : NoAttr K V.c_Run "_agents") (n_Run_referee : NoAttr K V.c_Run "_referee")  : HasM P w K mg base V.c_Run "saved" ["self"] 1 (m_Run_saved V) :=
  has_ofM (k := 0) (N := N_Run_saved) d sc_Run_saved fun cdv A outer s H E hr =>
  (mb_one (ms_ret (me_tup (ma_cons (me_fld c_Referee n_Referee_journal (me_fld c_Run n_Run_referee (me_var 0))) (ma_cons (me_callTy cs_tuple rfl B.b_tuple bt_tuple (ma_cons (me_compG false (own := [("agent", 1)]) rfl sc_Run_saved.nd (mi_val (me_fld c_Run n_Run_agents (me_var 0))) (blkOk_by (own := [("agent", 1)]) (N := N_Run_saved) (sc := defScope s_Run_saved) (by decide +kernel)) (fun _ _ _ _ _ => (mg_one (i := 1) sc_Run_saved.nd)) (fun _ _ _ _ _ => mts_nil) (fun _ _ _ _ _ => (me_fld c_Agent n_Agent_journal (me_var 1)))) ma_nil)) ma_nil)))))
end
end PL
/-! printed by gen.py: Run._restore is worth its evaluator -/
namespace PL
open PySem PySem.Spec PyProof.Rows L2
section
variable {P : Program} {w : World} {K : PySem.W.Frag} {mg : Str → Option Value} {base : Heap}
theorem has_Run_restore (B : Blt mg) {V : Fv} (d : MethOf K V.c_Run "_restore" "Run._restore" s_Run_restore ["self", "journals"])   (c_Agent : Cls K V.c_Agent) (c_Referee : Cls K V.c_Referee) (c_Run : Cls K V.c_Run) (n_Agent_journal : NoAttr K V.c_Agent "journal") (n_Referee_journal : NoAttr K V.c_Referee "journal") (n_Run_agents : NoAttr K V.c_Run "_agents") (n_Run_referee : NoAttr K V.c_Run "_referee") (n_Run_bag : NoAttr K V.c_Run "bag") (h_Referee_ask : HasM P w K mg base V.c_Referee "ask" ["self"] 3 (m_Referee_ask V)) (h_Run_send : HasM P w K mg base V.c_Run "_send" ["self", "letter"] 1 (m_Run_send V)) : HasM P w K mg base V.c_Run "_restore" ["self", "journals"] 4 (m_Run_restore V) :=
  has_ofM (k := 3) (N := N_Run_restore) d sc_Run_restore fun cdv A outer s H E hr =>
  (mb_cons (ms_set (i := 2) sc_Run_restore.nd (me_fld c_Run n_Run_referee (me_var 0)))
    (mb_cons (ms_fld c_Referee n_Referee_journal (me_var 2) (me_ix is_ix (me_var 1) me_int))
    (mb_cons (ms_for PassesOwn.never rfl (mi_zip rfl B.b_zip (me_fld c_Run n_Run_agents (me_var 0)) (me_ix is_ix (me_var 1) me_int)) (mg_tup rfl (mgs_cons (i := 3) sc_Run_restore.nd (mgs_cons (i := 4) sc_Run_restore.nd mgs_nil)))
    (mb_one (ms_fld c_Agent n_Agent_journal (me_var 3) (me_var 4))))
    (mb_cons (ms_fld c_Run n_Run_bag (me_var 0) (me_tup ma_nil))
    (mb_one (ms_expr (me_meth c_Run h_Run_send (hr.mono (by decide)) (me_var 0) (ma_cons (me_meth0 c_Referee h_Referee_ask (hr.mono (by decide)) (me_var 2)) ma_nil))))))))
end
end PL
/-! printed by gen.py: resumed is worth its evaluator -/
namespace PL
open PySem PySem.Spec PyProof.Rows L2
section
variable {P : Program} {w : World} {K : PySem.W.Frag} {mg : Str → Option Value} {base : Heap}
theorem has_resumed (B : Blt mg) (d : DefOf K mg "resumed" s_resumed ["game", "profile", "saved"])  {V : Fv} (c_Run : Cls K V.c_Run) (h_Run_init : HasI P w K mg base "Run" V.c_Run ["self", "game", "profile"] 5 (m_Run_init V)) (h_Run_restore : HasM P w K mg base V.c_Run "_restore" ["self", "journals"] 4 (m_Run_restore V)) : Has P w K mg base "resumed" ["game", "profile", "saved"] 7 (m_resumed V) :=
  has_of (k := 6) (N := N_resumed) d sc_resumed fun cdv A outer s H E hr =>
  (mb_cons (ms_set (i := 3) sc_resumed.nd (me_make h_Run_init (hr.mono (by decide)) (ma_cons (me_var 0) (ma_cons (me_var 1) ma_nil))))
    (mb_cons (ms_expr (me_meth c_Run h_Run_restore (hr.mono (by decide)) (me_var 3) (ma_cons (me_var 2) ma_nil)))
    (mb_one (ms_ret (me_var 3)))))
end
end PL
/-! printed by gen.py: play is worth its evaluator -/
namespace PL
open PySem PySem.Spec PyProof.Rows L2
section
variable {P : Program} {w : World} {K : PySem.W.Frag} {mg : Str → Option Value} {base : Heap}
theorem has_play (B : Blt mg) (d : DefOf K mg "play" s_play ["game", "profile", "events"])  {V : Fv} (c_Run : Cls K V.c_Run) (h_Run_init : HasI P w K mg base "Run" V.c_Run ["self", "game", "profile"] 5 (m_Run_init V)) (h_Run_happen : HasM P w K mg base V.c_Run "happen" ["self", "event"] 5 (m_Run_happen V)) (h_Run_finish : HasM P w K mg base V.c_Run "finish" ["self"] 7 (m_Run_finish V)) : Has P w K mg base "play" ["game", "profile", "events"] 8 (m_play V) :=
  has_of (k := 7) (N := N_play) d sc_play fun cdv A outer s H E hr =>
  (mb_cons (ms_set (i := 3) sc_play.nd (me_make h_Run_init (hr.mono (by decide)) (ma_cons (me_var 0) (ma_cons (me_var 1) ma_nil))))
    (mb_cons (ms_for PassesOwn.never rfl (mi_val (me_var 2)) (mg_one (i := 4) sc_play.nd)
    (mb_one (ms_expr (me_meth c_Run h_Run_happen (hr.mono (by decide)) (me_var 3) (ma_cons (me_var 4) ma_nil)))))
    (mb_one (ms_ret (me_meth0 c_Run h_Run_finish (hr.mono (by decide)) (me_var 3))))))
end
end PL
/-! printed by gen.py: _law_source is worth its evaluator -/
namespace PL
open PySem PySem.Spec PyProof.Rows L2
section
variable {P : Program} {w : World} {K : PySem.W.Frag} {mg : Str → Option Value} {base : Heap}
theorem has_law_source (B : Blt mg) (d : DefOf K mg "_law_source" s_law_source ["script"])   : Has P w K mg base "_law_source" ["script"] 1 m_law_source :=
  has_of (k := 0) (N := N_law_source) d sc_law_source fun cdv A outer s H E hr =>
  (mb_cons (ms_set (i := 1) sc_law_source.nd me_int)
    (mb_cons (ms_for PassesOwn.never rfl (mi_val (me_var 0)) (mg_one (i := 2) sc_law_source.nd)
    (mb_one (ms_set (i := 1) sc_law_source.nd (me_bin os_mod (me_callTy cs_int rfl B.b_int bt_int (ma_cons (me_bin os_add (me_bin os_add (me_bin os_mul (me_var 1) me_int) (me_bin os_mul (me_var 2) me_int)) me_int) ma_nil)) me_int))))
    (mb_one (ms_ret (me_loc (ma_cons me_int (ma_cons me_int (ma_cons (me_var 1) ma_nil))))))))
end
end PL
/-! printed by gen.py: _law_draw is worth its evaluator -/
namespace PL
open PySem PySem.Spec PyProof.Rows L2
section
variable {P : Program} {w : World} {K : PySem.W.Frag} {mg : Str → Option Value} {base : Heap}
theorem has_law_draw (B : Blt mg) (d : DefOf K mg "_law_draw" s_law_draw ["script", "source", "limit"])   : Has P w K mg base "_law_draw" ["script", "source", "limit"] 1 m_law_draw :=
  has_of (k := 0) (N := N_law_draw) d sc_law_draw fun cdv A outer s H E hr =>
  (mb_cons (ms_if (PW.pt (mw_and (mt_cmp (os_eq hr.units) (me_ix is_ix (me_var 1) me_int) me_int) (mw_and1 (mt_cmp (os_lt hr.units) (me_ix is_ix (me_var 1) me_int) (me_callB cs_len rfl B.b_len bb_len (ma_cons (me_var 0) ma_nil)))))) (mb_cons (ms_set (i := 3) sc_law_draw.nd (me_callB cs_abs rfl B.b_abs bb_abs (ma_cons (me_ix is_ix (me_var 0) (me_ix is_ix (me_var 1) me_int)) ma_nil)))
    (mb_cons (ms_sub sts_set (me_var 1) me_int (me_bin os_add (me_ix is_ix (me_var 1) me_int) me_int))
    (mb_cons (ms_if (mt_cmp (os_lt hr.units) (me_var 3) (me_bin os_pow me_int me_int)) (mb_cons (ms_set (i := 3) sc_law_draw.nd (me_bin os_mod (me_callTy cs_int rfl B.b_int bt_int (ma_cons (me_bin os_add (me_bin os_add (me_bin os_mul (me_var 3) me_int) (me_bin os_mul (me_ix is_ix (me_var 1) me_int) me_int)) (me_ix is_ix (me_var 1) me_int)) ma_nil)) me_int))
    (mb_one (ms_set (i := 3) sc_law_draw.nd (me_bin os_mod (me_callTy cs_int rfl B.b_int bt_int (ma_cons (me_bin os_add (me_bin os_add (me_bin os_mul (me_var 3) (me_var 3)) (me_bin os_mul (me_var 3) me_int)) (me_ix is_ix (me_var 1) me_int)) ma_nil)) me_int)))) mb_nil)
    (mb_one (ms_sub sts_set (me_var 1) me_int (me_var 3)))))) mb_nil)
    (mb_cons (ms_if (mt_cmp (os_gt hr.units) (me_ix is_ix (me_var 1) me_int) me_int) (mb_cons (ms_set (i := 4) sc_law_draw.nd (me_bin os_mod (me_callTy cs_int rfl B.b_int bt_int (ma_cons (me_ix is_ix (me_var 1) me_int) ma_nil)) (me_var 2)))
    (mb_cons (ms_sub sts_set (me_var 1) me_int (me_bin os_fdiv (me_ix is_ix (me_var 1) me_int) (me_var 2)))
    (mb_one (ms_ret (me_var 4))))) mb_nil)
    (mb_cons (ms_sub sts_set (me_var 1) me_int (me_bin os_mod (me_callTy cs_int rfl B.b_int bt_int (ma_cons (me_bin os_add (me_bin os_mul (me_ix is_ix (me_var 1) me_int) me_int) me_int) ma_nil)) me_int))
    (mb_one (ms_ret (me_bin os_mod (me_callTy cs_int rfl B.b_int bt_int (ma_cons (me_bin os_fdiv (me_ix is_ix (me_var 1) me_int) me_int) ma_nil)) (me_var 2)))))))
end
end PL
/-! printed by gen.py: _law_name is worth its evaluator -/
namespace PL
open PySem PySem.Spec PyProof.Rows L2
section
variable {P : Program} {w : World} {K : PySem.W.Frag} {mg : Str → Option Value} {base : Heap}
theorem has_law_name (B : Blt mg) (d : DefOf K mg "_law_name" s_law_name ["script", "source", "used"])  (h_law_draw : Has P w K mg base "_law_draw" ["script", "source", "limit"] 1 m_law_draw) : Has P w K mg base "_law_name" ["script", "source", "used"] 2 m_law_name :=
  has_of (k := 1) (N := N_law_name) d sc_law_name fun cdv A outer s H E hr =>
  (mb_cons (ms_set (i := 3) sc_law_name.nd me_str)
    (mb_cons (ms_set (i := 4) sc_law_name.nd (me_bin os_add (me_var 3) me_str))
    (mb_cons (ms_set (i := 5) sc_law_name.nd (me_ix is_ix (me_var 3) (me_callH h_law_draw (hr.mono (by decide)) (ma_cons (me_var 0) (ma_cons (me_var 1) (ma_cons me_int ma_nil))))))
    (mb_cons (ms_for PassesOwn.never rfl (mi_range1 rfl B.b_range (me_callH h_law_draw (hr.mono (by decide)) (ma_cons (me_var 0) (ma_cons (me_var 1) (ma_cons me_int ma_nil))))) (mg_one (i := 6) sc_law_name.nd)
    (mb_one (ms_set (i := 5) sc_law_name.nd (me_bin os_add (me_var 5) (me_ix is_ix (me_var 4) (me_callH h_law_draw (hr.mono (by decide)) (ma_cons (me_var 0) (ma_cons (me_var 1) (ma_cons me_int ma_nil)))))))))
    (mb_cons (ms_if (mt_cmp (os_eq hr.units) (me_callH h_law_draw (hr.mono (by decide)) (ma_cons (me_var 0) (ma_cons (me_var 1) (ma_cons me_int ma_nil)))) me_int) (mb_one (ms_set (i := 5) sc_law_name.nd (me_ix is_ix (me_lst (ma_cons me_str (ma_cons me_str (ma_cons me_str (ma_cons me_str (ma_cons me_str (ma_cons me_str ma_nil))))))) (me_callH h_law_draw (hr.mono (by decide)) (ma_cons (me_var 0) (ma_cons (me_var 1) (ma_cons me_int ma_nil))))))) mb_nil)
    (mb_cons (ms_set (i := 7) sc_law_name.nd (me_var 5))
    (mb_cons (ms_for PassesOwn.never rfl (mi_range1 rfl B.b_range (me_bin os_add (me_callB cs_len rfl B.b_len bb_len (ma_cons (me_var 2) ma_nil)) me_int)) (mg_one (i := 6) sc_law_name.nd)
    (mb_one (ms_if (mt_cmp (os_in hr.units) (me_var 5) (me_var 2)) (mb_one (ms_set (i := 5) sc_law_name.nd (me_bin os_add (me_var 7) (me_callTy cs_str rfl B.b_str bt_str (ma_cons (me_var 6) ma_nil))))) mb_nil)))
    (mb_one (ms_ret (me_var 5))))))))))
end
end PL
/-! printed by gen.py: _law_gcd is worth its evaluator -/
namespace PL
open PySem PySem.Spec PyProof.Rows L2
section
variable {P : Program} {w : World} {K : PySem.W.Frag} {mg : Str → Option Value} {base : Heap}
theorem has_law_gcd (B : Blt mg) (d : DefOf K mg "_law_gcd" s_law_gcd ["a", "b"])   : Has P w K mg base "_law_gcd" ["a", "b"] 1 m_law_gcd :=
  has_of (k := 0) (N := N_law_gcd) d sc_law_gcd fun cdv A outer s H E hr =>
  (mb_cons (ms_for PassesOwn.never rfl (mi_range1 rfl B.b_range (me_bin os_add (me_bin os_mul me_int (me_bits (me_callTy cs_int rfl B.b_int bt_int (ma_cons (me_var 1) ma_nil)))) me_int)) (mg_one (i := 2) sc_law_gcd.nd)
    (mb_cons (ms_if (mt_cmp (os_eq hr.units) (me_var 1) me_int) (mb_one (ms_ret (me_var 0))) mb_nil)
    (mb_one (ms_par (i := 0) (j := 1) rfl sc_law_gcd.nd (by decide) (ma_cons (me_var 1) (ma_cons (me_bin os_mod (me_callTy cs_int rfl B.b_int bt_int (ma_cons (me_var 0) ma_nil)) (me_var 1)) ma_nil))))))
    (mb_one (ms_ret (me_var 0))))
end
end PL
/-! printed by gen.py: _law_reduced is worth its evaluator -/
namespace PL
open PySem PySem.Spec PyProof.Rows L2
section
variable {P : Program} {w : World} {K : PySem.W.Frag} {mg : Str → Option Value} {base : Heap}
theorem has_law_reduced (B : Blt mg) (d : DefOf K mg "_law_reduced" s_law_reduced ["weights"])  (h_law_gcd : Has P w K mg base "_law_gcd" ["a", "b"] 1 m_law_gcd) : Has P w K mg base "_law_reduced" ["weights"] 2 m_law_reduced :=
  has_of (k := 1) (N := N_law_reduced) d sc_law_reduced fun cdv A outer s H E hr =>
  (mb_cons (ms_set (i := 1) sc_law_reduced.nd me_int)
    (mb_cons (ms_for PassesOwn.never rfl (mi_val (me_var 0)) (mg_one (i := 2) sc_law_reduced.nd)
    (mb_one (ms_set (i := 1) sc_law_reduced.nd (me_callH h_law_gcd (hr.mono (by decide)) (ma_cons (me_var 2) (ma_cons (me_var 1) ma_nil))))))
    (mb_cons (ms_if (mt_cmp (os_eq hr.units) (me_var 1) me_int) (mb_one (ms_ret (me_callTy cs_tuple rfl B.b_tuple bt_tuple (ma_cons (me_var 0) ma_nil)))) mb_nil)
    (mb_one (ms_ret (me_callTy cs_tuple rfl B.b_tuple bt_tuple (ma_cons (me_compG false (own := [("weight", 2)]) rfl sc_law_reduced.nd (mi_val (me_var 0)) (blkOk_by (own := [("weight", 2)]) (N := N_law_reduced) (sc := defScope s_law_reduced) (by decide +kernel)) (fun _ _ _ _ _ => (mg_one (i := 2) sc_law_reduced.nd)) (fun _ _ _ _ _ => mts_nil) (fun _ _ _ _ _ => (me_bin os_fdiv (me_var 2) (me_var 1)))) ma_nil)))))))
end
end PL
/-! printed by gen.py: _law_sets is worth its evaluator -/
namespace PL
open PySem PySem.Spec PyProof.Rows L2
section
variable {P : Program} {w : World} {K : PySem.W.Frag} {mg : Str → Option Value} {base : Heap}
theorem has_law_sets (B : Blt mg) (d : DefOf K mg "_law_sets" s_law_sets ["script", "source", "many", "most"])  (h_law_draw : Has P w K mg base "_law_draw" ["script", "source", "limit"] 1 m_law_draw) (h_law_name : Has P w K mg base "_law_name" ["script", "source", "used"] 2 m_law_name) (h_law_reduced : Has P w K mg base "_law_reduced" ["weights"] 2 m_law_reduced) : Has P w K mg base "_law_sets" ["script", "source", "many", "most"] 3 m_law_sets :=
  has_of (k := 2) (N := N_law_sets) d sc_law_sets fun cdv A outer s H E hr =>
  (mb_cons (ms_set (i := 4) sc_law_sets.nd (me_loc ma_nil))
    (mb_cons (ms_set (i := 5) sc_law_sets.nd (me_loc ma_nil))
    (mb_cons (ms_set (i := 6) sc_law_sets.nd (me_callH h_law_draw (hr.mono (by decide)) (ma_cons (me_var 0) (ma_cons (me_var 1) (ma_cons me_int ma_nil)))))
    (mb_cons (ms_for PassesOwn.never rfl (mi_range1 rfl B.b_range (me_bin os_sub (me_var 2) (me_bin os_mul (me_ix is_ix (me_lst (ma_cons me_int (ma_cons me_int (ma_cons me_int (ma_cons me_int ma_nil))))) (me_callH h_law_draw (hr.mono (by decide)) (ma_cons (me_var 0) (ma_cons (me_var 1) (ma_cons me_int ma_nil))))) (me_callH h_law_draw (hr.mono (by decide)) (ma_cons (me_var 0) (ma_cons (me_var 1) (ma_cons (me_bin os_add (me_var 2) me_int) ma_nil))))))) (mg_one (i := 7) sc_law_sets.nd)
    (mb_cons (ms_set (i := 8) sc_law_sets.nd (me_ix is_ix (me_lst (ma_cons me_int (ma_cons me_int (ma_cons me_int (ma_cons me_int (ma_cons me_int (ma_cons me_int (ma_cons me_int (ma_cons me_int ma_nil))))))))) (me_callH h_law_draw (hr.mono (by decide)) (ma_cons (me_var 0) (ma_cons (me_var 1) (ma_cons me_int ma_nil))))))
    (mb_cons (ms_if (mt_cmp (os_gt hr.units) (me_var 8) (me_var 3)) (mb_one (ms_set (i := 8) sc_law_sets.nd me_int)) mb_nil)
    (mb_cons (ms_set (i := 3) sc_law_sets.nd (me_bin os_fdiv (me_var 3) (me_var 8)))
    (mb_cons (ms_set (i := 9) sc_law_sets.nd (me_ix is_ix (me_lst (ma_cons (me_bin os_mod (me_callTy cs_int rfl B.b_int bt_int (ma_cons (me_bin os_add (me_var 6) (me_var 7)) ma_nil)) me_int) (ma_cons (me_bin os_mod (me_callTy cs_int rfl B.b_int bt_int (ma_cons (me_bin os_add (me_var 6) (me_var 7)) ma_nil)) me_int) (ma_cons me_int (ma_cons me_int ma_nil))))) (me_callH h_law_draw (hr.mono (by decide)) (ma_cons (me_var 0) (ma_cons (me_var 1) (ma_cons me_int ma_nil))))))
    (mb_cons (ms_setCompG false (i := 10) (own := [("j", 12)]) rfl sc_law_sets.nd (mi_range1 rfl B.b_range (me_var 8)) (blkOk_by (own := [("j", 12)]) (N := N_law_sets) (sc := defScope s_law_sets) (by decide +kernel)) (fun _ _ _ _ _ => (mg_one (i := 12) sc_law_sets.nd)) (fun _ _ _ _ _ => mts_nil) (fun _ _ _ _ _ => me_int))
    (mb_cons (ms_if (mt_cmp (os_eq hr.units) (me_var 9) me_int) (mb_one (ms_setCompG false (i := 10) (own := [("j", 12)]) rfl sc_law_sets.nd (mi_range1 rfl B.b_range (me_var 8)) (blkOk_by (own := [("j", 12)]) (N := N_law_sets) (sc := defScope s_law_sets) (by decide +kernel)) (fun _ _ _ _ _ => (mg_one (i := 12) sc_law_sets.nd)) (fun _ _ _ _ _ => mts_nil) (fun _ _ _ _ _ => (me_bin os_add me_int (me_callH h_law_draw (hr.mono (by decide)) (ma_cons (me_var 0) (ma_cons (me_var 1) (ma_cons me_int ma_nil)))))))) mb_nil)
    (mb_cons (ms_set (i := 11) sc_law_sets.nd (me_callH h_law_name (hr.mono (by decide)) (ma_cons (me_var 0) (ma_cons (me_var 1) (ma_cons (me_var 5) ma_nil)))))
    (mb_cons (ms_expr (me_bm mts_append PySem.F.plainAttrs_list PySem.F.slot_list_append PySem.F.type_list_append (me_var 5) (ma_cons (me_var 11) ma_nil)))
    (mb_one (ms_expr (me_bm mts_append PySem.F.plainAttrs_list PySem.F.slot_list_append PySem.F.type_list_append (me_var 4) (ma_cons (me_tup (ma_cons (me_var 11) (ma_cons (me_var 9) (ma_cons (me_callH h_law_reduced (hr.mono (by decide)) (ma_cons (me_var 10) ma_nil)) ma_nil)))) ma_nil)))))))))))))
    (mb_one (ms_ret (me_callTy cs_tuple rfl B.b_tuple bt_tuple (ma_cons (me_callB (cs_sortedA hr.units) rfl B.b_sorted bb_sorted (ma_cons (me_var 4) ma_nil)) ma_nil))))))))
end
end PL
/-! printed by gen.py: _law_tree is worth its evaluator -/
namespace PL
open PySem PySem.Spec PyProof.Rows L2
section
variable {P : Program} {w : World} {K : PySem.W.Frag} {mg : Str → Option Value} {base : Heap}
theorem has_law_tree (B : Blt mg) (d : DefOf K mg "_law_tree" s_law_tree ["script", "source", "free", "outcomes", "room", "wish"])  (h_law_draw : Has P w K mg base "_law_draw" ["script", "source", "limit"] 1 m_law_draw) : Has P w K mg base "_law_tree" ["script", "source", "free", "outcomes", "room", "wish"] 62 m_law_tree :=
  has_rec (k := 2) (n := 60) (N := N_law_tree) d sc_law_tree (by decide) fun n HS cdv A outer s H E hr =>
  (mb_cons (ms_sub sts_set (me_var 4) me_int (me_bin os_sub (me_ix is_ix (me_var 4) me_int) me_int))
    (mb_cons (ms_set (i := 6) sc_law_tree.nd (me_and (me_cmp (os_eq hr.units) (me_callH h_law_draw (hr.mono (by omega)) (ma_cons (me_var 0) (ma_cons (me_var 1) (ma_cons me_int ma_nil)))) me_int) (me_one (me_cmp os_is (me_var 5) me_non))))
    (mb_cons (ms_if (PW.pt (mw_or (mt_cmp (os_eq hr.units) (me_callB cs_len rfl B.b_len bb_len (ma_cons (me_var 2) ma_nil)) me_int) (mw_or (mt_cmp (os_lt hr.units) (me_ix is_ix (me_var 4) me_int) me_int) (mw_or1 (mt_val (me_var 6)))))) (mb_one (ms_ret (me_ix is_ix (me_var 3) (me_callH h_law_draw (hr.mono (by omega)) (ma_cons (me_var 0) (ma_cons (me_var 1) (ma_cons (me_callB cs_len rfl B.b_len bb_len (ma_cons (me_var 3) ma_nil)) ma_nil))))))) mb_nil)
    (mb_cons (ms_set (i := 7) sc_law_tree.nd (me_ix is_ix (me_var 2) (me_callH h_law_draw (hr.mono (by omega)) (ma_cons (me_var 0) (ma_cons (me_var 1) (ma_cons (me_callB cs_len rfl B.b_len bb_len (ma_cons (me_var 2) ma_nil)) ma_nil))))))
    (mb_cons (ms_if (mt_cmp os_isNot (me_var 5) me_non) (mb_one (ms_set (i := 7) sc_law_tree.nd (me_var 5))) mb_nil)
    (mb_cons (ms_setCompG false (i := 8) (own := [("other", 13)]) rfl sc_law_tree.nd (mi_val (me_var 2)) (blkOk_by (own := [("other", 13)]) (N := N_law_tree) (sc := defScope s_law_tree) (by decide +kernel)) (fun _ _ _ _ _ => (mg_one (i := 13) sc_law_tree.nd)) (fun _ _ _ _ _ => (mts_one (mt_cmp (os_ne hr.units) (me_ix is_ix (me_var 13) me_int) (me_ix is_ix (me_var 7) me_int)))) (fun _ _ _ _ _ => (me_var 13)))
    (mb_cons (ms_set (i := 9) sc_law_tree.nd (me_callH h_law_draw (hr.mono (by omega)) (ma_cons (me_var 0) (ma_cons (me_var 1) (ma_cons me_int ma_nil)))))
    (mb_cons (ms_set (i := 10) sc_law_tree.nd me_non)
    (mb_cons (ms_if (PW.pt (mw_and (mt_cmp (os_gt hr.units) (me_var 9) me_int) (mw_and1 (mt_cmp (os_gt hr.units) (me_callB cs_len rfl B.b_len bb_len (ma_cons (me_var 8) ma_nil)) me_int)))) (mb_one (ms_set (i := 10) sc_law_tree.nd (me_ix is_ix (me_var 8) (me_callH h_law_draw (hr.mono (by omega)) (ma_cons (me_var 0) (ma_cons (me_var 1) (ma_cons (me_callB cs_len rfl B.b_len bb_len (ma_cons (me_var 8) ma_nil)) ma_nil))))))) mb_nil)
    (mb_cons (ms_set (i := 11) sc_law_tree.nd (me_loc ma_nil))
    (mb_cons (ms_for PassesOwn.never rfl (mi_range1 rfl B.b_range (me_callB cs_len rfl B.b_len bb_len (ma_cons (me_ix is_ix (me_var 7) me_int) ma_nil))) (mg_one (i := 12) sc_law_tree.nd)
    (mb_one (ms_if (PW.pt (mw_and (mt_cmp (os_gt hr.units) (me_var 12) me_int) (mw_and (mt_cmp os_is (me_var 5) me_non) (mw_and1 (PW.pt (mw_or (mt_cmp (os_eq hr.units) (me_var 9) me_int) (mw_or1 (PW.pt (mw_and (mt_cmp (os_eq hr.units) (me_var 9) me_int) (mw_and1 (mt_cmp (os_eq hr.units) (me_callH h_law_draw (hr.mono (by omega)) (ma_cons (me_var 0) (ma_cons (me_var 1) (ma_cons me_int ma_nil)))) me_int))))))))))) (mb_one (ms_expr (me_bm mts_append PySem.F.plainAttrs_list PySem.F.slot_list_append PySem.F.type_list_append (me_var 11) (ma_cons (me_ix is_ix (me_var 11) (me_bin os_sub (me_var 12) me_int)) ma_nil)))) (mb_one (ms_expr (me_bm mts_append PySem.F.plainAttrs_list PySem.F.slot_list_append PySem.F.type_list_append (me_var 11) (ma_cons (me_callH HS hr (ma_cons (me_var 0) (ma_cons (me_var 1) (ma_cons (me_var 8) (ma_cons (me_var 3) (ma_cons (me_var 4) (ma_cons (me_var 10) ma_nil))))))) ma_nil)))))))
    (mb_one (ms_ret (me_tup (ma_cons (me_ix is_ix (me_var 7) me_int) (ma_cons (me_callTy cs_tuple rfl B.b_tuple bt_tuple (ma_cons (me_var 11) ma_nil)) ma_nil))))))))))))))))
end
end PL
/-! printed by gen.py: _law_game is worth its evaluator -/
namespace PL
open PySem PySem.Spec PyProof.Rows L2
section
variable {P : Program} {w : World} {K : PySem.W.Frag} {mg : Str → Option Value} {base : Heap}
theorem has_law_game (B : Blt mg) (d : DefOf K mg "_law_game" s_law_game ["script", "source", "many", "most", "nodes"])  (h_law_draw : Has P w K mg base "_law_draw" ["script", "source", "limit"] 1 m_law_draw) (h_law_name : Has P w K mg base "_law_name" ["script", "source", "used"] 2 m_law_name) (h_law_sets : Has P w K mg base "_law_sets" ["script", "source", "many", "most"] 3 m_law_sets) (h_law_tree : Has P w K mg base "_law_tree" ["script", "source", "free", "outcomes", "room", "wish"] 62 m_law_tree) : Has P w K mg base "_law_game" ["script", "source", "many", "most", "nodes"] 63 m_law_game :=
  has_of (k := 62) (N := N_law_game) d sc_law_game fun cdv A outer s H E hr =>
  (mb_cons (ms_set (i := 5) sc_law_game.nd (me_callH h_law_sets (hr.mono (by decide)) (ma_cons (me_var 0) (ma_cons (me_var 1) (ma_cons (me_var 2) (ma_cons (me_var 3) ma_nil))))))
    (mb_cons (ms_set (i := 6) sc_law_game.nd (me_loc ma_nil))
    (mb_cons (ms_for PassesOwn.never rfl (mi_range1 rfl B.b_range (me_ix is_ix (me_lst (ma_cons me_int (ma_cons me_int (ma_cons me_int (ma_cons me_int (ma_cons me_int (ma_cons me_int (ma_cons me_int (ma_cons me_int (ma_cons me_int (ma_cons me_int ma_nil))))))))))) (me_callH h_law_draw (hr.mono (by decide)) (ma_cons (me_var 0) (ma_cons (me_var 1) (ma_cons me_int ma_nil)))))) (mg_one (i := 7) sc_law_game.nd)
    (mb_one (ms_expr (me_bm mts_append PySem.F.plainAttrs_list PySem.F.slot_list_append PySem.F.type_list_append (me_var 6) (ma_cons (me_callH h_law_name (hr.mono (by decide)) (ma_cons (me_var 0) (ma_cons (me_var 1) (ma_cons (me_var 6) ma_nil)))) ma_nil)))))
    (mb_cons (ms_set (i := 8) sc_law_game.nd me_non)
    (mb_cons (ms_for PassesOwn.never rfl (mi_val (me_var 5)) (mg_one (i := 9) sc_law_game.nd)
    (mb_one (ms_if (PW.pt (mw_or (mt_cmp os_is (me_var 8) me_non) (mw_or (mt_cmp (os_eq hr.units) (me_callB cs_len rfl B.b_len bb_len (ma_cons (me_ix is_ix (me_var 8) me_int) ma_nil)) me_int) (mw_or1 (mt_cmp (os_eq hr.units) (me_callH h_law_draw (hr.mono (by decide)) (ma_cons (me_var 0) (ma_cons (me_var 1) (ma_cons me_int ma_nil)))) me_int))))) (mb_one (ms_set (i := 8) sc_law_game.nd (me_var 9))) mb_nil)))
    (mb_one (ms_ret (me_tup (ma_cons (me_var 5) (ma_cons (me_callH h_law_tree (hr.mono (by decide)) (ma_cons (me_var 0) (ma_cons (me_var 1) (ma_cons (me_callTy cs_list rfl B.b_list bt_list (ma_cons (me_var 5) ma_nil)) (ma_cons (me_var 6) (ma_cons (me_loc (ma_cons (me_var 4) ma_nil)) (ma_cons (me_var 8) ma_nil))))))) ma_nil))))))))))
end
end PL
/-! printed by gen.py: _law_plain is worth its evaluator -/
namespace PL
open PySem PySem.Spec PyProof.Rows L2
section
variable {P : Program} {w : World} {K : PySem.W.Frag} {mg : Str → Option Value} {base : Heap}
theorem has_law_plain (B : Blt mg) (d : DefOf K mg "_law_plain" s_law_plain ["answer"])   : Has P w K mg base "_law_plain" ["answer"] 61 m_law_plain :=
  has_rec (k := 1) (n := 60) (N := N_law_plain) d sc_law_plain (by decide) fun n HS cdv A outer s H E hr =>
  (mb_cons (ms_if (mt_val (me_callB cs_isi rfl B.b_isinstance bb_isinstance (ma_cons (me_var 0) (ma_cons (me_bval (v := .ty "tuple") rfl B.b_tuple bt_tuple rfl) ma_nil)))) (mb_one (ms_ret (me_cmp (os_eq hr.units) (me_callB cs_len rfl B.b_len bb_len (ma_cons (me_compG false (own := [("item", 1)]) rfl sc_law_plain.nd (mi_val (me_var 0)) (blkOk_by (own := [("item", 1)]) (N := N_law_plain) (sc := defScope s_law_plain) (by decide +kernel)) (fun _ _ _ _ _ => (mg_one (i := 1) sc_law_plain.nd)) (fun _ _ _ _ _ => (mts_one (mt_not (mt_val (me_callH HS hr (ma_cons (me_var 1) ma_nil)))))) (fun _ _ _ _ _ => (me_var 1))) ma_nil)) me_int))) mb_nil)
    (mb_one (ms_ret (me_and (me_not (me_callB cs_isi rfl B.b_isinstance bb_isinstance (ma_cons (me_var 0) (ma_cons (me_bval (v := .ty "bool") rfl B.b_bool bt_bool rfl) ma_nil)))) (me_one (me_callB cs_isi rfl B.b_isinstance bb_isinstance (ma_cons (me_var 0) (ma_cons (me_tup (ma_cons (me_bval (v := .ty "str") rfl B.b_str bt_str rfl) (ma_cons (me_bval (v := .ty "int") rfl B.b_int bt_int rfl) ma_nil))) ma_nil))))))))
end
end PL
/-! printed by gen.py: _law_plan is worth its evaluator -/
namespace PL
open PySem PySem.Spec PyProof.Rows L2
section
variable {P : Program} {w : World} {K : PySem.W.Frag} {mg : Str → Option Value} {base : Heap}
theorem has_law_plan (B : Blt mg) (d : DefOf K mg "_law_plan" s_law_plan ["script", "source", "rows", "owner"])  (h_law_draw : Has P w K mg base "_law_draw" ["script", "source", "limit"] 1 m_law_draw) : Has P w K mg base "_law_plan" ["script", "source", "rows", "owner"] 2 m_law_plan :=
  has_of (k := 1) (N := N_law_plan) d sc_law_plan fun cdv A outer s H E hr =>
  (mb_one (ms_ret (me_callTy cs_tuple rfl B.b_tuple bt_tuple (ma_cons (me_compG false (own := [("row", 4)]) rfl sc_law_plan.nd (mi_val (me_var 2)) (blkOk_by (own := [("row", 4)]) (N := N_law_plan) (sc := defScope s_law_plan) (by decide +kernel)) (fun _ _ _ _ _ => (mg_one (i := 4) sc_law_plan.nd)) (fun _ _ _ _ _ => (mts_one (mt_cmp (os_eq hr.units) (me_ix is_ix (me_var 4) me_int) (me_var 3)))) (fun _ _ _ _ _ => (me_callH h_law_draw (hr.mono (by decide)) (ma_cons (me_var 0) (ma_cons (me_var 1) (ma_cons (me_callB cs_len rfl B.b_len bb_len (ma_cons (me_ix is_ix (me_var 4) me_int) ma_nil)) ma_nil)))))) ma_nil))))
end
end PL
/-! printed by gen.py: _law_choice is worth its evaluator -/
namespace PL
open PySem PySem.Spec PyProof.Rows L2
section
variable {P : Program} {w : World} {K : PySem.W.Frag} {mg : Str → Option Value} {base : Heap}
theorem has_law_choice (B : Blt mg) (d : DefOf K mg "_law_choice" s_law_choice ["rows", "profile"])   : Has P w K mg base "_law_choice" ["rows", "profile"] 1 m_law_choice :=
  has_of (k := 0) (N := N_law_choice) d sc_law_choice fun cdv A outer s H E hr =>
  (mb_cons (ms_set (i := 2) sc_law_choice.nd me_dict0)
    (mb_cons (ms_set (i := 3) sc_law_choice.nd (me_loc (ma_cons me_int (ma_cons me_int (ma_cons me_int ma_nil)))))
    (mb_cons (ms_for PassesOwn.never rfl (mi_val (me_var 0)) (mg_one (i := 4) sc_law_choice.nd)
    (mb_cons (ms_sub (sts_setD hr.units) (me_var 2) (me_ix (is_ixD hr.units) (me_var 4) me_int) (me_ix (is_ixD hr.units) (me_ix (is_ixD hr.units) (me_var 1) (me_ix (is_ixD hr.units) (me_var 4) me_int)) (me_ix (is_ixD hr.units) (me_var 3) (me_ix (is_ixD hr.units) (me_var 4) me_int))))
    (mb_one (ms_sub (sts_setD hr.units) (me_var 3) (me_ix (is_ixD hr.units) (me_var 4) me_int) (me_bin os_add (me_ix (is_ixD hr.units) (me_var 3) (me_ix (is_ixD hr.units) (me_var 4) me_int)) me_int)))))
    (mb_one (ms_ret (me_var 2))))))
end
end PL
/-! printed by gen.py: _law_owner is worth its evaluator -/
namespace PL
open PySem PySem.Spec PyProof.Rows L2
section
variable {P : Program} {w : World} {K : PySem.W.Frag} {mg : Str → Option Value} {base : Heap}
theorem has_law_owner (B : Blt mg) (d : DefOf K mg "_law_owner" s_law_owner ["rows", "name"])   : Has P w K mg base "_law_owner" ["rows", "name"] 1 m_law_owner :=
  has_of (k := 0) (N := N_law_owner) d sc_law_owner fun cdv A outer s H E hr =>
  (mb_one (ms_ret (me_ix is_ix (me_compG false (own := [("row", 2)]) rfl sc_law_owner.nd (mi_val (me_var 0)) (blkOk_by (own := [("row", 2)]) (N := N_law_owner) (sc := defScope s_law_owner) (by decide +kernel)) (fun _ _ _ _ _ => (mg_one (i := 2) sc_law_owner.nd)) (fun _ _ _ _ _ => (mts_one (mt_cmp (os_eq hr.units) (me_ix is_ix (me_var 2) me_int) (me_var 1)))) (fun _ _ _ _ _ => (me_ix is_ix (me_var 2) me_int))) me_int)))
end
end PL
/-! printed by gen.py: _law_way is worth its evaluator -/
namespace PL
open PySem PySem.Spec PyProof.Rows L2
section
variable {P : Program} {w : World} {K : PySem.W.Frag} {mg : Str → Option Value} {base : Heap}
theorem has_law_way (B : Blt mg) (d : DefOf K mg "_law_way" s_law_way ["tree", "choice"])   : Has P w K mg base "_law_way" ["tree", "choice"] 1 m_law_way :=
  has_of (k := 0) (N := N_law_way) d sc_law_way fun cdv A outer s H E hr =>
  (mb_cons (ms_set (i := 2) sc_law_way.nd (me_tup ma_nil))
    (mb_cons (ms_for PassesOwn.never rfl (mi_range1 rfl B.b_range me_int) (mg_one (i := 3) sc_law_way.nd)
    (mb_cons (ms_if (mt_val (me_callB cs_isi rfl B.b_isinstance bb_isinstance (ma_cons (me_var 0) (ma_cons (me_bval (v := .ty "str") rfl B.b_str bt_str rfl) ma_nil)))) (mb_one (ms_ret (me_tup (ma_cons (me_var 2) (ma_cons (me_var 0) ma_nil))))) mb_nil)
    (mb_cons (ms_set (i := 2) sc_law_way.nd (me_bin os_add (me_var 2) (me_tup (ma_cons (me_tup (ma_cons (me_ix (is_ixD hr.units) (me_var 0) me_int) (ma_cons (me_ix (is_ixD hr.units) (me_var 1) (me_ix (is_ixD hr.units) (me_var 0) me_int)) ma_nil))) ma_nil))))
    (mb_one (ms_set (i := 0) sc_law_way.nd (me_ix (is_ixD hr.units) (me_ix (is_ixD hr.units) (me_var 0) me_int) (me_ix (is_ixD hr.units) (me_var 1) (me_ix (is_ixD hr.units) (me_var 0) me_int))))))))
    (mb_one (ms_ret (me_tup (ma_cons (me_var 2) (ma_cons (me_var 0) ma_nil)))))))
end
end PL
/-! printed by gen.py: _law_ask is worth its evaluator -/
namespace PL
open PySem PySem.Spec PyProof.Rows L2
section
variable {P : Program} {w : World} {K : PySem.W.Frag} {mg : Str → Option Value} {base : Heap}
theorem has_law_ask (B : Blt mg) (d : DefOf K mg "_law_ask" s_law_ask ["game", "journal"])  (h_law_owner : Has P w K mg base "_law_owner" ["rows", "name"] 1 m_law_owner) : Has P w K mg base "_law_ask" ["game", "journal"] 2 m_law_ask :=
  has_of (k := 1) (N := N_law_ask) d sc_law_ask fun cdv A outer s H E hr =>
  (mb_cons (ms_set (i := 2) sc_law_ask.nd (me_ix is_ix (me_var 0) me_int))
    (mb_cons (ms_for PassesOwn.never rfl (mi_val (me_var 1)) (mg_tup rfl (mgs_cons (i := 3) sc_law_ask.nd (mgs_cons (i := 4) sc_law_ask.nd mgs_nil)))
    (mb_one (ms_set (i := 2) sc_law_ask.nd (me_ix is_ix (me_ix is_ix (me_var 2) me_int) (me_var 4)))))
    (mb_cons (ms_if (mt_val (me_callB cs_isi rfl B.b_isinstance bb_isinstance (ma_cons (me_var 2) (ma_cons (me_bval (v := .ty "str") rfl B.b_str bt_str rfl) ma_nil)))) (mb_one (ms_ret (me_loc ma_nil))) mb_nil)
    (mb_one (ms_ret (me_loc (ma_cons (me_tup (ma_cons me_str (ma_cons (me_callH h_law_owner (hr.mono (by decide)) (ma_cons (me_ix is_ix (me_var 0) me_int) (ma_cons (me_ix is_ix (me_var 2) me_int) ma_nil))) (ma_cons (me_ix is_ix (me_var 2) me_int) ma_nil)))) ma_nil)))))))
end
end PL
/-! printed by gen.py: _law_deliver is worth its evaluator -/
namespace PL
open PySem PySem.Spec PyProof.Rows L2
section
variable {P : Program} {w : World} {K : PySem.W.Frag} {mg : Str → Option Value} {base : Heap}
theorem has_law_deliver (B : Blt mg) (d : DefOf K mg "_law_deliver" s_law_deliver ["game", "choice", "journal", "answers", "bag", "letter"])  (h_law_ask : Has P w K mg base "_law_ask" ["game", "journal"] 2 m_law_ask) : Has P w K mg base "_law_deliver" ["game", "choice", "journal", "answers", "bag", "letter"] 3 m_law_deliver :=
  has_of (k := 2) (N := N_law_deliver) d sc_law_deliver fun cdv A outer s H E hr =>
  (mb_cons (ms_set (i := 6) sc_law_deliver.nd (me_callH h_law_ask (hr.mono (by decide)) (ma_cons (me_var 0) (ma_cons (me_var 2) ma_nil))))
    (mb_cons (ms_set (i := 7) sc_law_deliver.nd (me_tup (ma_cons (me_ix (is_ixD hr.units) (me_var 5) me_int) (ma_cons (me_ix (is_ixD hr.units) (me_var 1) (me_ix (is_ixD hr.units) (me_var 5) me_int)) ma_nil))))
    (mb_one (ms_if (mt_cmp (os_eqR hr.units) (me_ix (is_ixD hr.units) (me_var 5) me_int) me_str) (mb_cons (ms_set (i := 8) sc_law_deliver.nd (me_ix (is_ixD hr.units) (me_var 3) (me_ix (is_ixD hr.units) (me_var 5) me_int)))
    (mb_cons (ms_if (mt_cmp (os_notInK hr.units) (me_var 7) (me_var 8)) (mb_one (ms_expr (me_bm mts_append PySem.F.plainAttrs_list PySem.F.slot_list_append PySem.F.type_list_append (me_var 8) (ma_cons (me_var 7) ma_nil)))) mb_nil)
    (mb_one (ms_expr (me_bm mts_append PySem.F.plainAttrs_list PySem.F.slot_list_append PySem.F.type_list_append (me_var 4) (ma_cons (me_tup (ma_cons me_str (ma_cons (me_ix (is_ixD hr.units) (me_var 5) me_int) (ma_cons (me_ix (is_ixD hr.units) (me_var 5) me_int) (ma_cons (me_ix (is_ixD hr.units) (me_var 7) me_int) ma_nil))))) ma_nil)))))) (mb_one (ms_if (mt_cmp (os_eqR hr.units) (me_var 6) (me_lst (ma_cons (me_tup (ma_cons me_str (ma_cons (me_ix (is_ixD hr.units) (me_var 5) me_int) (ma_cons (me_ix (is_ixD hr.units) (me_var 5) me_int) ma_nil)))) ma_nil))) (mb_cons (ms_expr (me_bm mts_append PySem.F.plainAttrs_list PySem.F.slot_list_append PySem.F.type_list_append (me_var 2) (ma_cons (me_var 7) ma_nil)))
    (mb_one (ms_expr (me_bm mts_extend PySem.F.plainAttrs_list PySem.F.slot_list_extend PySem.F.type_list_extend (me_var 4) (ma_cons (me_callH h_law_ask (hr.mono (by decide)) (ma_cons (me_var 0) (ma_cons (me_var 2) ma_nil))) ma_nil))))) mb_nil))))))
end
end PL
/-! printed by gen.py: _law_event is worth its evaluator -/
namespace PL
open PySem PySem.Spec PyProof.Rows L2
section
variable {P : Program} {w : World} {K : PySem.W.Frag} {mg : Str → Option Value} {base : Heap}
theorem has_law_event (B : Blt mg) (d : DefOf K mg "_law_event" s_law_event ["game", "choice", "journal", "answers", "bag", "event"])  (h_law_ask : Has P w K mg base "_law_ask" ["game", "journal"] 2 m_law_ask) (h_law_deliver : Has P w K mg base "_law_deliver" ["game", "choice", "journal", "answers", "bag", "letter"] 3 m_law_deliver) : Has P w K mg base "_law_event" ["game", "choice", "journal", "answers", "bag", "event"] 4 m_law_event :=
  has_of (k := 3) (N := N_law_event) d sc_law_event fun cdv A outer s H E hr =>
  (mb_cons (ms_if (mt_cmp (os_eq hr.units) (me_ix is_ix (me_var 5) me_int) me_str) (mb_cons (ms_expr (me_bm mts_extend PySem.F.plainAttrs_list PySem.F.slot_list_extend PySem.F.type_list_extend (me_var 4) (ma_cons (me_callH h_law_ask (hr.mono (by decide)) (ma_cons (me_var 0) (ma_cons (me_var 2) ma_nil))) ma_nil)))
    (mb_one (ms_ret me_bl))) mb_nil)
    (mb_cons (ms_if (PW.pt (mw_or (mt_cmp (os_lt hr.units) (me_ix is_ix (me_var 5) me_int) me_int) (mw_or1 (mt_cmp (os_ge hr.units) (me_ix is_ix (me_var 5) me_int) (me_callB cs_len rfl B.b_len bb_len (ma_cons (me_var 4) ma_nil)))))) (mb_one (ms_ret me_bl)) mb_nil)
    (mb_cons (ms_set (i := 6) sc_law_event.nd (me_ix is_ix (me_var 4) (me_ix is_ix (me_var 5) me_int)))
    (mb_cons (ms_if (mt_cmp (os_ne hr.units) (me_ix is_ix (me_var 5) me_int) me_str) (mb_one (ms_expr (me_bm mts_popAt PySem.F.plainAttrs_list PySem.F.slot_list_pop PySem.F.type_list_pop (me_var 4) (ma_cons (me_ix is_ix (me_var 5) me_int) ma_nil)))) mb_nil)
    (mb_cons (ms_if (mt_cmp (os_ne hr.units) (me_ix is_ix (me_var 5) me_int) me_str) (mb_one (ms_expr (me_callH h_law_deliver (hr.mono (by decide)) (ma_cons (me_var 0) (ma_cons (me_var 1) (ma_cons (me_var 2) (ma_cons (me_var 3) (ma_cons (me_var 4) (ma_cons (me_var 6) ma_nil))))))))) mb_nil)
    (mb_one (ms_ret me_bl)))))))
end
end PL
/-! printed by gen.py: _law_drawn_event is worth its evaluator -/
namespace PL
open PySem PySem.Spec PyProof.Rows L2
section
variable {P : Program} {w : World} {K : PySem.W.Frag} {mg : Str → Option Value} {base : Heap}
theorem has_law_drawn_event (B : Blt mg) (d : DefOf K mg "_law_drawn_event" s_law_drawn_event ["script", "source"])  (h_law_draw : Has P w K mg base "_law_draw" ["script", "source", "limit"] 1 m_law_draw) : Has P w K mg base "_law_drawn_event" ["script", "source"] 2 m_law_drawn_event :=
  has_of (k := 1) (N := N_law_drawn_event) d sc_law_drawn_event fun cdv A outer s H E hr =>
  (mb_cons (ms_set (i := 2) sc_law_drawn_event.nd (me_ix is_ix (me_lst (ma_cons me_str (ma_cons me_str (ma_cons me_str (ma_cons me_str (ma_cons me_str (ma_cons me_str (ma_cons me_str ma_nil)))))))) (me_callH h_law_draw (hr.mono (by decide)) (ma_cons (me_var 0) (ma_cons (me_var 1) (ma_cons me_int ma_nil))))))
    (mb_cons (ms_if (mt_cmp (os_eq hr.units) (me_var 2) me_str) (mb_one (ms_ret (me_tup (ma_cons me_str ma_nil)))) mb_nil)
    (mb_cons (ms_set (i := 3) sc_law_drawn_event.nd (me_ix is_ix (me_lst (ma_cons me_int (ma_cons me_int (ma_cons me_int (ma_cons me_int (ma_cons me_int (ma_cons me_int (ma_cons me_int (ma_cons me_int ma_nil))))))))) (me_callH h_law_draw (hr.mono (by decide)) (ma_cons (me_var 0) (ma_cons (me_var 1) (ma_cons me_int ma_nil))))))
    (mb_cons (ms_if (mt_cmp (os_eq hr.units) (me_callH h_law_draw (hr.mono (by decide)) (ma_cons (me_var 0) (ma_cons (me_var 1) (ma_cons me_int ma_nil)))) me_int) (mb_one (ms_set (i := 3) sc_law_drawn_event.nd (me_ix is_ix (me_lst (ma_cons (me_un us_neg me_int) (ma_cons (me_un us_neg me_int) (ma_cons me_int (ma_cons me_int (ma_cons (me_bin os_pow me_int me_int) ma_nil)))))) (me_callH h_law_draw (hr.mono (by decide)) (ma_cons (me_var 0) (ma_cons (me_var 1) (ma_cons me_int ma_nil))))))) mb_nil)
    (mb_one (ms_ret (me_tup (ma_cons (me_var 2) (ma_cons (me_var 3) ma_nil)))))))))
end
end PL
/-! printed by gen.py: _law_is is worth its evaluator -/
namespace PL
open PySem PySem.Spec PyProof.Rows L2
section
variable {P : Program} {w : World} {K : PySem.W.Frag} {mg : Str → Option Value} {base : Heap}
theorem has_law_is (B : Blt mg) (d : DefOf K mg "_law_is" s_law_is ["game", "run", "way", "end", "journal", "answers", "bag"])  {V : Fv} (c_Run : Cls K V.c_Run) (n_Run_bag : NoAttr K V.c_Run "bag") (h_Run_record : HasP P w K mg base V.c_Run "record" ["self"] 1 (m_Run_record V)) (h_Run_ending : HasP P w K mg base V.c_Run "ending" ["self"] 5 (m_Run_ending V)) (h_Run_view : HasM P w K mg base V.c_Run "view" ["self", "owner"] 1 (m_Run_view V)) (h_law_plain : Has P w K mg base "_law_plain" ["answer"] 61 m_law_plain) (h_law_owner : Has P w K mg base "_law_owner" ["rows", "name"] 1 m_law_owner) : Has P w K mg base "_law_is" ["game", "run", "way", "end", "journal", "answers", "bag"] 62 (m_law_is V) :=
  has_of (k := 61) (N := N_law_is) d sc_law_is fun cdv A outer s H E hr =>
  (mb_cons (ms_if (PW.pt (mw_or (mt_not (mt_val (me_callH h_law_plain (hr.mono (by decide)) (ma_cons (me_fld c_Run n_Run_bag (me_var 1)) ma_nil)))) (mw_or1 (mt_cmp (os_ne hr.units) (me_fld c_Run n_Run_bag (me_var 1)) (me_callTy cs_tuple rfl B.b_tuple bt_tuple (ma_cons (me_var 6) ma_nil)))))) (mb_one (ms_ret me_bl)) mb_nil)
    (mb_cons (ms_if (PW.pt (mw_or (mt_not (mt_val (me_callH h_law_plain (hr.mono (by decide)) (ma_cons (me_prop c_Run h_Run_record (hr.mono (by decide)) (me_var 1)) ma_nil)))) (mw_or (mt_cmp (os_ne hr.units) (me_prop c_Run h_Run_record (hr.mono (by decide)) (me_var 1)) (me_callTy cs_tuple rfl B.b_tuple bt_tuple (ma_cons (me_var 4) ma_nil))) (mw_or1 (mt_cmp (os_ne hr.units) (me_prop c_Run h_Run_record (hr.mono (by decide)) (me_var 1)) (me_sl ss_sl (me_var 2) mo_none (mo_some (me_callB cs_len rfl B.b_len bb_len (ma_cons (me_var 4) ma_nil))))))))) (mb_one (ms_ret me_bl)) mb_nil)
    (mb_cons (ms_for PassesOwn.never rfl (mi_range1 rfl B.b_range me_int) (mg_one (i := 7) sc_law_is.nd)
    (mb_cons (ms_set (i := 8) sc_law_is.nd (me_meth c_Run h_Run_view (hr.mono (by decide)) (me_var 1) (ma_cons (me_var 7) ma_nil)))
    (mb_cons (ms_set (i := 9) sc_law_is.nd (me_callTy cs_tuple rfl B.b_tuple bt_tuple (ma_cons (me_compG false (own := [("name", 10), ("move", 11)]) rfl sc_law_is.nd (mi_val (me_var 2)) (blkOk_by (own := [("name", 10), ("move", 11)]) (N := N_law_is) (sc := defScope s_law_is) (by decide +kernel)) (fun _ _ _ _ _ => (mg_tup rfl (mgs_cons (i := 10) sc_law_is.nd (mgs_cons (i := 11) sc_law_is.nd mgs_nil)))) (fun _ _ _ _ _ => (mts_one (mt_cmp (os_eq hr.units) (me_callH h_law_owner (hr.mono (by decide)) (ma_cons (me_ix is_ix (me_var 0) me_int) (ma_cons (me_var 10) ma_nil))) (me_var 7)))) (fun _ _ _ _ _ => (me_var 10))) ma_nil)))
    (mb_cons (ms_if (PW.pt (mw_or (mt_not (mt_val (me_callH h_law_plain (hr.mono (by decide)) (ma_cons (me_var 8) ma_nil)))) (mw_or1 (mt_cmp (os_ne hr.units) (me_var 8) (me_callTy cs_tuple rfl B.b_tuple bt_tuple (ma_cons (me_compG false (own := [("name", 10), ("move", 11)]) rfl sc_law_is.nd (mi_val (me_ix is_ix (me_var 5) (me_var 7))) (blkOk_by (own := [("name", 10), ("move", 11)]) (N := N_law_is) (sc := defScope s_law_is) (by decide +kernel)) (fun _ _ _ _ _ => (mg_tup rfl (mgs_cons (i := 10) sc_law_is.nd (mgs_cons (i := 11) sc_law_is.nd mgs_nil)))) (fun _ _ _ _ _ => mts_nil) (fun _ _ _ _ _ => (me_var 10))) ma_nil)))))) (mb_one (ms_ret me_bl)) mb_nil)
    (mb_one (ms_if (mt_cmp (os_ne hr.units) (me_var 8) (me_sl ss_sl (me_var 9) mo_none (mo_some (me_callB cs_len rfl B.b_len bb_len (ma_cons (me_var 8) ma_nil))))) (mb_one (ms_ret me_bl)) mb_nil))))))
    (mb_cons (ms_if (mt_cmp (os_lt hr.units) (me_callB cs_len rfl B.b_len bb_len (ma_cons (me_var 4) ma_nil)) (me_callB cs_len rfl B.b_len bb_len (ma_cons (me_var 2) ma_nil))) (mb_one (ms_ret (me_cmp os_is (me_prop c_Run h_Run_ending (hr.mono (by decide)) (me_var 1)) me_non))) mb_nil)
    (mb_one (ms_ret (me_and (me_callB cs_isi rfl B.b_isinstance bb_isinstance (ma_cons (me_prop c_Run h_Run_ending (hr.mono (by decide)) (me_var 1)) (ma_cons (me_bval (v := .ty "str") rfl B.b_str bt_str rfl) ma_nil))) (me_one (me_cmp (os_eq hr.units) (me_prop c_Run h_Run_ending (hr.mono (by decide)) (me_var 1)) (me_var 3))))))))))
end
end PL
/-! printed by gen.py: _law_saved is worth its evaluator -/
namespace PL
open PySem PySem.Spec PyProof.Rows L2
section
variable {P : Program} {w : World} {K : PySem.W.Frag} {mg : Str → Option Value} {base : Heap}
theorem has_law_saved (B : Blt mg) (d : DefOf K mg "_law_saved" s_law_saved ["game", "profile", "run", "way", "end", "journal", "answers", "bag"])  {V : Fv} (c_Run : Cls K V.c_Run) (h_Run_saved : HasM P w K mg base V.c_Run "saved" ["self"] 1 (m_Run_saved V)) (h_resumed : Has P w K mg base "resumed" ["game", "profile", "saved"] 7 (m_resumed V)) (h_law_plain : Has P w K mg base "_law_plain" ["answer"] 61 m_law_plain) (h_law_ask : Has P w K mg base "_law_ask" ["game", "journal"] 2 m_law_ask) (h_law_is : Has P w K mg base "_law_is" ["game", "run", "way", "end", "journal", "answers", "bag"] 62 (m_law_is V)) : Has P w K mg base "_law_saved" ["game", "profile", "run", "way", "end", "journal", "answers", "bag"] 63 (m_law_saved V) :=
  has_of (k := 62) (N := N_law_saved) d sc_law_saved fun cdv A outer s H E hr =>
  (mb_cons (ms_set (i := 8) sc_law_saved.nd (me_meth0 c_Run h_Run_saved (hr.mono (by decide)) (me_var 2)))
    (mb_cons (ms_set (i := 9) sc_law_saved.nd (me_tup (ma_cons (me_callTy cs_tuple rfl B.b_tuple bt_tuple (ma_cons (me_var 5) ma_nil)) (ma_cons (me_callTy cs_tuple rfl B.b_tuple bt_tuple (ma_cons (me_compG false (own := [("own", 11)]) rfl sc_law_saved.nd (mi_val (me_var 6)) (blkOk_by (own := [("own", 11)]) (N := N_law_saved) (sc := defScope s_law_saved) (by decide +kernel)) (fun _ _ _ _ _ => (mg_one (i := 11) sc_law_saved.nd)) (fun _ _ _ _ _ => mts_nil) (fun _ _ _ _ _ => (me_callTy cs_tuple rfl B.b_tuple bt_tuple (ma_cons (me_var 11) ma_nil)))) ma_nil)) ma_nil))))
    (mb_cons (ms_if (PW.pt (mw_or (mt_not (mt_val (me_callH h_law_plain (hr.mono (by decide)) (ma_cons (me_var 8) ma_nil)))) (mw_or1 (mt_cmp (os_ne hr.units) (me_var 8) (me_var 9))))) (mb_one (ms_ret me_non)) mb_nil)
    (mb_cons (ms_set (i := 10) sc_law_saved.nd (me_callH h_resumed (hr.mono (by decide)) (ma_cons (me_var 0) (ma_cons (me_var 1) (ma_cons (me_var 8) ma_nil)))))
    (mb_cons (ms_if (mt_not (mt_val (me_callH h_law_is (hr.mono (by decide)) (ma_cons (me_var 0) (ma_cons (me_var 10) (ma_cons (me_var 3) (ma_cons (me_var 4) (ma_cons (me_var 5) (ma_cons (me_var 6) (ma_cons (me_callH h_law_ask (hr.mono (by decide)) (ma_cons (me_var 0) (ma_cons (me_var 5) ma_nil))) ma_nil)))))))))) (mb_one (ms_ret me_non)) mb_nil)
    (mb_cons (ms_if (mt_not (mt_val (me_callH h_law_is (hr.mono (by decide)) (ma_cons (me_var 0) (ma_cons (me_var 2) (ma_cons (me_var 3) (ma_cons (me_var 4) (ma_cons (me_var 5) (ma_cons (me_var 6) (ma_cons (me_var 7) ma_nil)))))))))) (mb_one (ms_ret me_non)) mb_nil)
    (mb_one (ms_ret (me_var 10)))))))))
end
end PL
/-! printed by gen.py: _law_finished is worth its evaluator -/
namespace PL
open PySem PySem.Spec PyProof.Rows L2
section
variable {P : Program} {w : World} {K : PySem.W.Frag} {mg : Str → Option Value} {base : Heap}
theorem has_law_finished (B : Blt mg) (d : DefOf K mg "_law_finished" s_law_finished ["game", "run", "way", "end", "bag"])  {V : Fv} (c_Run : Cls K V.c_Run) (h_Run_finish : HasM P w K mg base V.c_Run "finish" ["self"] 7 (m_Run_finish V)) (h_Run_saved : HasM P w K mg base V.c_Run "saved" ["self"] 1 (m_Run_saved V)) (h_law_plain : Has P w K mg base "_law_plain" ["answer"] 61 m_law_plain) (h_law_owner : Has P w K mg base "_law_owner" ["rows", "name"] 1 m_law_owner) (h_law_is : Has P w K mg base "_law_is" ["game", "run", "way", "end", "journal", "answers", "bag"] 62 (m_law_is V)) : Has P w K mg base "_law_finished" ["game", "run", "way", "end", "bag"] 63 (m_law_finished V) :=
  has_of (k := 62) (N := N_law_finished) d sc_law_finished fun cdv A outer s H E hr =>
  (mb_cons (ms_set (i := 5) sc_law_finished.nd (me_meth0 c_Run h_Run_finish (hr.mono (by decide)) (me_var 1)))
    (mb_cons (ms_if (PW.pt (mw_or (mt_not (mt_val (me_callB cs_isi rfl B.b_isinstance bb_isinstance (ma_cons (me_var 5) (ma_cons (me_bval (v := .ty "str") rfl B.b_str bt_str rfl) ma_nil))))) (mw_or1 (mt_cmp (os_ne hr.units) (me_var 5) (me_var 3))))) (mb_one (ms_ret me_bl)) mb_nil)
    (mb_cons (ms_set (i := 6) sc_law_finished.nd (me_loc ma_nil))
    (mb_cons (ms_for PassesOwn.never rfl (mi_range1 rfl B.b_range me_int) (mg_one (i := 7) sc_law_finished.nd)
    (mb_one (ms_expr (me_bm mts_append PySem.F.plainAttrs_list PySem.F.slot_list_append PySem.F.type_list_append (me_var 6) (ma_cons (me_compG false (own := [("pair", 9)]) rfl sc_law_finished.nd (mi_val (me_var 2)) (blkOk_by (own := [("pair", 9)]) (N := N_law_finished) (sc := defScope s_law_finished) (by decide +kernel)) (fun _ _ _ _ _ => (mg_one (i := 9) sc_law_finished.nd)) (fun _ _ _ _ _ => (mts_one (mt_cmp (os_eq hr.units) (me_callH h_law_owner (hr.mono (by decide)) (ma_cons (me_ix is_ix (me_var 0) me_int) (ma_cons (me_ix is_ix (me_var 9) me_int) ma_nil))) (me_var 7)))) (fun _ _ _ _ _ => (me_var 9))) ma_nil)))))
    (mb_cons (ms_set (i := 8) sc_law_finished.nd (me_meth0 c_Run h_Run_saved (hr.mono (by decide)) (me_var 1)))
    (mb_cons (ms_if (PW.pt (mw_or (mt_not (mt_val (me_callH h_law_plain (hr.mono (by decide)) (ma_cons (me_var 8) ma_nil)))) (mw_or1 (mt_cmp (os_ne hr.units) (me_var 8) (me_tup (ma_cons (me_callTy cs_tuple rfl B.b_tuple bt_tuple (ma_cons (me_var 2) ma_nil)) (ma_cons (me_callTy cs_tuple rfl B.b_tuple bt_tuple (ma_cons (me_compG false (own := [("own", 10)]) rfl sc_law_finished.nd (mi_val (me_var 6)) (blkOk_by (own := [("own", 10)]) (N := N_law_finished) (sc := defScope s_law_finished) (by decide +kernel)) (fun _ _ _ _ _ => (mg_one (i := 10) sc_law_finished.nd)) (fun _ _ _ _ _ => mts_nil) (fun _ _ _ _ _ => (me_callTy cs_tuple rfl B.b_tuple bt_tuple (ma_cons (me_var 10) ma_nil)))) ma_nil)) ma_nil))))))) (mb_one (ms_ret me_bl)) mb_nil)
    (mb_one (ms_ret (me_callH h_law_is (hr.mono (by decide)) (ma_cons (me_var 0) (ma_cons (me_var 1) (ma_cons (me_var 2) (ma_cons (me_var 3) (ma_cons (me_callTy cs_list rfl B.b_list bt_list (ma_cons (me_var 2) ma_nil)) (ma_cons (me_var 6) (ma_cons (me_var 4) ma_nil))))))))))))))))
end
end PL
/-! printed by gen.py: _law_told is worth its evaluator -/
namespace PL
open PySem PySem.Spec PyProof.Rows L2
section
variable {P : Program} {w : World} {K : PySem.W.Frag} {mg : Str → Option Value} {base : Heap}
theorem has_law_told (B : Blt mg) (d : DefOf K mg "_law_told" s_law_told ["game", "choice", "run", "journal", "answers", "bag", "event"])  {V : Fv} (c_Run : Cls K V.c_Run) (h_Run_happen : HasM P w K mg base V.c_Run "happen" ["self", "event"] 5 (m_Run_happen V)) (h_law_event : Has P w K mg base "_law_event" ["game", "choice", "journal", "answers", "bag", "event"] 4 m_law_event) : Has P w K mg base "_law_told" ["game", "choice", "run", "journal", "answers", "bag", "event"] 6 (m_law_told V) :=
  has_of (k := 5) (N := N_law_told) d sc_law_told fun cdv A outer s H E hr =>
  (mb_cons (ms_set (i := 7) sc_law_told.nd (me_meth c_Run h_Run_happen (hr.mono (by decide)) (me_var 2) (ma_cons (me_var 6) ma_nil)))
    (mb_one (ms_ret (me_and (me_callB cs_isi rfl B.b_isinstance bb_isinstance (ma_cons (me_var 7) (ma_cons (me_bval (v := .ty "bool") rfl B.b_bool bt_bool rfl) ma_nil))) (me_one (me_cmp (os_eq hr.units) (me_var 7) (me_callH h_law_event (hr.mono (by decide)) (ma_cons (me_var 0) (ma_cons (me_var 1) (ma_cons (me_var 3) (ma_cons (me_var 4) (ma_cons (me_var 5) (ma_cons (me_var 6) ma_nil)))))))))))))
end
end PL
/-! printed by gen.py: law is worth its evaluator -/
namespace PL
open PySem PySem.Spec PyProof.Rows L2
section
variable {P : Program} {w : World} {K : PySem.W.Frag} {mg : Str → Option Value} {base : Heap}
theorem has_law (B : Blt mg) (d : DefOf K mg "law" s_law ["script"])  {V : Fv} (c_Run : Cls K V.c_Run) (h_Run_init : HasI P w K mg base "Run" V.c_Run ["self", "game", "profile"] 5 (m_Run_init V)) (h_play : Has P w K mg base "play" ["game", "profile", "events"] 8 (m_play V)) (h_law_source : Has P w K mg base "_law_source" ["script"] 1 m_law_source) (h_law_draw : Has P w K mg base "_law_draw" ["script", "source", "limit"] 1 m_law_draw) (h_law_game : Has P w K mg base "_law_game" ["script", "source", "many", "most", "nodes"] 63 m_law_game) (h_law_plan : Has P w K mg base "_law_plan" ["script", "source", "rows", "owner"] 2 m_law_plan) (h_law_choice : Has P w K mg base "_law_choice" ["rows", "profile"] 1 m_law_choice) (h_law_owner : Has P w K mg base "_law_owner" ["rows", "name"] 1 m_law_owner) (h_law_way : Has P w K mg base "_law_way" ["tree", "choice"] 1 m_law_way) (h_law_ask : Has P w K mg base "_law_ask" ["game", "journal"] 2 m_law_ask) (h_law_drawn_event : Has P w K mg base "_law_drawn_event" ["script", "source"] 2 m_law_drawn_event) (h_law_is : Has P w K mg base "_law_is" ["game", "run", "way", "end", "journal", "answers", "bag"] 62 (m_law_is V)) (h_law_saved : Has P w K mg base "_law_saved" ["game", "profile", "run", "way", "end", "journal", "answers", "bag"] 63 (m_law_saved V)) (h_law_finished : Has P w K mg base "_law_finished" ["game", "run", "way", "end", "bag"] 63 (m_law_finished V)) (h_law_told : Has P w K mg base "_law_told" ["game", "choice", "run", "journal", "answers", "bag", "event"] 6 (m_law_told V)) : Has P w K mg base "law" ["script"] 64 (m_law V) :=
  has_of (k := 63) (N := N_law) d sc_law fun cdv A outer s H E hr =>
  (mb_cons (ms_set (i := 1) sc_law.nd (me_callH h_law_source (hr.mono (by decide)) (ma_cons (me_var 0) ma_nil)))
    (mb_cons (ms_set (i := 2) sc_law.nd (me_callH h_law_game (hr.mono (by decide)) (ma_cons (me_var 0) (ma_cons (me_var 1) (ma_cons me_int (ma_cons me_int (ma_cons me_int ma_nil)))))))
    (mb_cons (ms_set (i := 3) sc_law.nd (me_callTy cs_tuple rfl B.b_tuple bt_tuple (ma_cons (me_compG false (own := [("owner", 20)]) rfl sc_law.nd (mi_range1 rfl B.b_range me_int) (blkOk_by (own := [("owner", 20)]) (N := N_law) (sc := defScope s_law) (by decide +kernel)) (fun _ _ _ _ _ => (mg_one (i := 20) sc_law.nd)) (fun _ _ _ _ _ => mts_nil) (fun _ _ _ _ _ => (me_callH h_law_plan (hr.mono (by decide)) (ma_cons (me_var 0) (ma_cons (me_var 1) (ma_cons (me_ix is_ix (me_var 2) me_int) (ma_cons (me_var 20) ma_nil))))))) ma_nil)))
    (mb_cons (ms_set (i := 4) sc_law.nd (me_callH h_law_choice (hr.mono (by decide)) (ma_cons (me_ix is_ix (me_var 2) me_int) (ma_cons (me_var 3) ma_nil))))
    (mb_cons (ms_tg (mg_tup rfl (mgs_cons (i := 15) sc_law.nd (mgs_cons (i := 16) sc_law.nd mgs_nil))) (me_callH h_law_way (hr.mono (by decide)) (ma_cons (me_ix is_ix (me_var 2) me_int) (ma_cons (me_var 4) ma_nil))))
    (mb_cons (ms_set (i := 5) sc_law.nd (me_callH h_law_draw (hr.mono (by decide)) (ma_cons (me_var 0) (ma_cons (me_var 1) (ma_cons me_int ma_nil)))))
    (mb_cons (ms_if (mt_cmp (os_eq hr.units) (me_callH h_law_draw (hr.mono (by decide)) (ma_cons (me_var 0) (ma_cons (me_var 1) (ma_cons me_int ma_nil)))) me_int) (mb_one (ms_set (i := 5) sc_law.nd (me_bin os_add me_int (me_callH h_law_draw (hr.mono (by decide)) (ma_cons (me_var 0) (ma_cons (me_var 1) (ma_cons me_int ma_nil))))))) mb_nil)
    (mb_cons (ms_setCompG false (i := 6) (own := [("k", 10)]) rfl sc_law.nd (mi_range1 rfl B.b_range (me_var 5)) (blkOk_by (own := [("k", 10)]) (N := N_law) (sc := defScope s_law) (by decide +kernel)) (fun _ _ _ _ _ => (mg_one (i := 10) sc_law.nd)) (fun _ _ _ _ _ => mts_nil) (fun _ _ _ _ _ => (me_callH h_law_drawn_event (hr.mono (by decide)) (ma_cons (me_var 0) (ma_cons (me_var 1) ma_nil)))))
    (mb_cons (ms_set (i := 7) sc_law.nd (me_callH h_law_draw (hr.mono (by decide)) (ma_cons (me_var 0) (ma_cons (me_var 1) (ma_cons (me_bin os_add (me_bin os_mulL me_int (me_var 5)) me_int) ma_nil)))))
    (mb_cons (ms_par3 (i := 11) (j := 12) (l := 17) rfl sc_law.nd (by decide) (by decide) (by decide) (ma_cons (me_loc ma_nil) (ma_cons (me_lst (ma_cons (me_loc ma_nil) (ma_cons (me_loc ma_nil) (ma_cons (me_loc ma_nil) ma_nil)))) (ma_cons (me_loc ma_nil) ma_nil))))
    (mb_cons (ms_expr (me_bm mts_extend PySem.F.plainAttrs_list PySem.F.slot_list_extend PySem.F.type_list_extend (me_var 17) (ma_cons (me_callH h_law_ask (hr.mono (by decide)) (ma_cons (me_var 2) (ma_cons (me_var 11) ma_nil))) ma_nil)))
    (mb_cons (ms_set (i := 8) sc_law.nd (me_make h_Run_init (hr.mono (by decide)) (ma_cons (me_var 2) (ma_cons (me_var 3) ma_nil))))
    (mb_cons (ms_set (i := 9) sc_law.nd me_non)
    (mb_cons (ms_for PassesOwn.never rfl (mi_range1 rfl B.b_range (me_bin os_add (me_var 5) me_int)) (mg_one (i := 10) sc_law.nd)
    (mb_cons (ms_if (mt_not (mt_val (me_callH h_law_is (hr.mono (by decide)) (ma_cons (me_var 2) (ma_cons (me_var 8) (ma_cons (me_var 15) (ma_cons (me_var 16) (ma_cons (me_var 11) (ma_cons (me_var 12) (ma_cons (me_var 17) ma_nil)))))))))) (mb_one (ms_ret me_bl)) mb_nil)
    (mb_cons (ms_if (mt_cmp (os_eq hr.units) (me_var 10) (me_var 7)) (mb_cons (ms_set (i := 9) sc_law.nd (me_var 8))
    (mb_cons (ms_set (i := 8) sc_law.nd (me_callH h_law_saved (hr.mono (by decide)) (ma_cons (me_var 2) (ma_cons (me_var 3) (ma_cons (me_var 9) (ma_cons (me_var 15) (ma_cons (me_var 16) (ma_cons (me_var 11) (ma_cons (me_var 12) (ma_cons (me_var 17) ma_nil))))))))))
    (mb_cons (ms_if (mt_cmp os_is (me_var 8) me_non) (mb_one (ms_ret me_bl)) mb_nil)
    (mb_cons (ms_set (i := 19) sc_law.nd (me_lst (ma_cons (me_callTy cs_list rfl B.b_list bt_list (ma_cons (me_var 11) ma_nil)) (ma_cons (me_compG false (own := [("own", 22)]) rfl sc_law.nd (mi_val (me_var 12)) (blkOk_by (own := [("own", 22)]) (N := N_law) (sc := defScope s_law) (by decide +kernel)) (fun _ _ _ _ _ => (mg_one (i := 22) sc_law.nd)) (fun _ _ _ _ _ => mts_nil) (fun _ _ _ _ _ => (me_callTy cs_list rfl B.b_list bt_list (ma_cons (me_var 22) ma_nil)))) (ma_cons (me_callTy cs_list rfl B.b_list bt_list (ma_cons (me_var 17) ma_nil)) ma_nil)))))
    (mb_one (ms_set (i := 17) sc_law.nd (me_callH h_law_ask (hr.mono (by decide)) (ma_cons (me_var 2) (ma_cons (me_var 11) ma_nil))))))))) mb_nil)
    (mb_one (ms_if (PW.pt (mw_and (mt_cmp (os_lt hr.units) (me_var 10) (me_var 5)) (mw_and1 (mt_not (mt_val (me_callH h_law_told (hr.mono (by decide)) (ma_cons (me_var 2) (ma_cons (me_var 4) (ma_cons (me_var 8) (ma_cons (me_var 11) (ma_cons (me_var 12) (ma_cons (me_var 17) (ma_cons (me_ix is_ix (me_var 6) (me_var 10)) ma_nil))))))))))))) (mb_one (ms_ret me_bl)) mb_nil)))))
    (mb_cons (ms_if (mt_not (mt_val (me_callH h_law_finished (hr.mono (by decide)) (ma_cons (me_var 2) (ma_cons (me_var 8) (ma_cons (me_var 15) (ma_cons (me_var 16) (ma_cons (me_var 17) ma_nil)))))))) (mb_one (ms_ret me_bl)) mb_nil)
    (mb_cons (ms_set (i := 11) sc_law.nd (me_callTy cs_listLoc rfl B.b_list bt_list (ma_cons (me_var 15) ma_nil)))
    (mb_cons (ms_setCompG false (i := 12) (own := [("owner", 20)]) rfl sc_law.nd (mi_range1 rfl B.b_range me_int) (blkOk_by (own := [("owner", 20)]) (N := N_law) (sc := defScope s_law) (by decide +kernel)) (fun _ _ _ _ _ => (mg_one (i := 20) sc_law.nd)) (fun _ _ _ _ _ => mts_nil) (fun _ _ _ _ _ => (me_compG true (own := [("pair", 21)]) rfl sc_law.nd (mi_val (me_var 15)) (blkOk_by (own := [("pair", 21)]) (N := N_law) (by first | rfl | decide +kernel)) (fun _ _ _ _ _ => (mg_one (i := 21) sc_law.nd)) (fun _ _ _ _ _ => (mts_one (mt_cmp (os_eq hr.units) (me_callH h_law_owner (hr.mono (by decide)) (ma_cons (me_ix is_ix (me_var 2) me_int) (ma_cons (me_ix is_ix (me_var 21) me_int) ma_nil))) (me_var 20)))) (fun _ _ _ _ _ => (me_var 21)))))
    (mb_cons (ms_for PassesOwn.never rfl (mi_range1 rfl B.b_range (me_callH h_law_draw (hr.mono (by decide)) (ma_cons (me_var 0) (ma_cons (me_var 1) (ma_cons me_int ma_nil))))) (mg_one (i := 10) sc_law.nd)
    (mb_cons (ms_set (i := 18) sc_law.nd (me_callH h_law_drawn_event (hr.mono (by decide)) (ma_cons (me_var 0) (ma_cons (me_var 1) ma_nil))))
    (mb_cons (ms_if (mt_not (mt_val (me_callH h_law_told (hr.mono (by decide)) (ma_cons (me_var 2) (ma_cons (me_var 4) (ma_cons (me_var 8) (ma_cons (me_var 11) (ma_cons (me_var 12) (ma_cons (me_var 17) (ma_cons (me_var 18) ma_nil)))))))))) (mb_one (ms_ret me_bl)) mb_nil)
    (mb_one (ms_if (mt_not (mt_val (me_callH h_law_is (hr.mono (by decide)) (ma_cons (me_var 2) (ma_cons (me_var 8) (ma_cons (me_var 15) (ma_cons (me_var 16) (ma_cons (me_var 11) (ma_cons (me_var 12) (ma_cons (me_var 17) ma_nil)))))))))) (mb_one (ms_ret me_bl)) mb_nil)))))
    (mb_cons (ms_if (mt_cmp os_isNot (me_var 9) me_non) (mb_cons (ms_if (mt_not (mt_val (me_callH h_law_is (hr.mono (by decide)) (ma_cons (me_var 2) (ma_cons (me_var 9) (ma_cons (me_var 15) (ma_cons (me_var 16) (ma_cons (me_ix is_ix (me_var 19) me_int) (ma_cons (me_ix is_ix (me_var 19) me_int) (ma_cons (me_ix is_ix (me_var 19) me_int) ma_nil)))))))))) (mb_one (ms_ret me_bl)) mb_nil)
    (mb_one (ms_if (mt_not (mt_val (me_callH h_law_finished (hr.mono (by decide)) (ma_cons (me_var 2) (ma_cons (me_var 9) (ma_cons (me_var 15) (ma_cons (me_var 16) (ma_cons (me_ix is_ix (me_var 19) me_int) ma_nil)))))))) (mb_one (ms_ret me_bl)) mb_nil))) mb_nil)
    (mb_cons (ms_set (i := 13) sc_law.nd (me_callTy cs_list rfl B.b_list bt_list (ma_cons (me_var 6) ma_nil)))
    (mb_cons (ms_set (i := 14) sc_law.nd (me_callH h_play (hr.mono (by decide)) (ma_cons (me_var 2) (ma_cons (me_var 3) (ma_cons (me_var 6) ma_nil)))))
    (mb_cons (ms_if (PW.pt (mw_or (mt_not (mt_val (me_callB cs_isi rfl B.b_isinstance bb_isinstance (ma_cons (me_var 14) (ma_cons (me_bval (v := .ty "str") rfl B.b_str bt_str rfl) ma_nil))))) (mw_or (mt_cmp (os_ne hr.units) (me_var 14) (me_var 16)) (mw_or (mt_cmp (os_ne hr.units) (me_var 6) (me_var 13)) (mw_or1 (mt_cmp (os_ne hr.units) (me_callH h_play (hr.mono (by decide)) (ma_cons (me_var 2) (ma_cons (me_var 3) (ma_cons (me_callTy cs_tuple rfl B.b_tuple bt_tuple (ma_cons (me_sl ss_sl (me_var 6) (mo_some me_int) mo_none) ma_nil)) ma_nil)))) (me_var 16))))))) (mb_one (ms_ret me_bl)) mb_nil)
    (mb_one (ms_ret (me_cmp (os_eq hr.units) (me_callH h_play (hr.mono (by decide)) (ma_cons (me_var 2) (ma_cons (me_var 3) (ma_cons (me_sl ss_sl (me_bin os_mulL (me_var 6) me_int) mo_none (mo_some me_int)) ma_nil)))) (me_var 16))))))))))))))))))))))))))
end
end PL
/-! printed by genend.py: the end -/
namespace PL
open PySem PySem.Spec PyProof.Rows L2
abbrev rwL : PySem.W.OpenLaw := PySem.Challenge.rw_sequencesandadvice_k78_whole_runs_by_let
theorem end_mk {w : World} {K : PySem.W.Frag} {h : Heap} {mg : Str → Option Value} {fa : Addr} (X : K.In h) (G : h.Ns mainGlobals mg) (hfa : mg "law" = some (.ref fa))
    {C_Agent : Addr}
    {C_Referee : Addr}
    {C_Run : Addr}
    {f_Agent_init : Addr} {od_Agent_init an_Agent_init : Option Addr} {sl_Agent_init : Array (Option Value)} {oc_Agent_init kV_Agent_init dc_Agent_init pm_Agent_init cd_Agent_init ct_Agent_init : Value}
    {f_Agent_call : Addr} {od_Agent_call an_Agent_call : Option Addr} {sl_Agent_call : Array (Option Value)} {oc_Agent_call kV_Agent_call dc_Agent_call pm_Agent_call cd_Agent_call ct_Agent_call : Value}
    {f_Referee_init : Addr} {od_Referee_init an_Referee_init : Option Addr} {sl_Referee_init : Array (Option Value)} {oc_Referee_init kV_Referee_init dc_Referee_init pm_Referee_init cd_Referee_init ct_Referee_init : Value}
    {f_Referee_place : Addr} {od_Referee_place an_Referee_place : Option Addr} {sl_Referee_place : Array (Option Value)} {oc_Referee_place kV_Referee_place dc_Referee_place pm_Referee_place cd_Referee_place ct_Referee_place : Value}
    {p_Referee_place : Addr} {rest_Referee_place : List Value}
    {f_Referee_ending : Addr} {od_Referee_ending an_Referee_ending : Option Addr} {sl_Referee_ending : Array (Option Value)} {oc_Referee_ending kV_Referee_ending dc_Referee_ending pm_Referee_ending cd_Referee_ending ct_Referee_ending : Value}
    {p_Referee_ending : Addr} {rest_Referee_ending : List Value}
    {f_Referee_ask : Addr} {od_Referee_ask an_Referee_ask : Option Addr} {sl_Referee_ask : Array (Option Value)} {oc_Referee_ask kV_Referee_ask dc_Referee_ask pm_Referee_ask cd_Referee_ask ct_Referee_ask : Value}
    {f_Referee_hear : Addr} {od_Referee_hear an_Referee_hear : Option Addr} {sl_Referee_hear : Array (Option Value)} {oc_Referee_hear kV_Referee_hear dc_Referee_hear pm_Referee_hear cd_Referee_hear ct_Referee_hear : Value}
    {f_Run_send : Addr} {od_Run_send an_Run_send : Option Addr} {sl_Run_send : Array (Option Value)} {oc_Run_send kV_Run_send dc_Run_send pm_Run_send cd_Run_send ct_Run_send : Value}
    {f_Run_init : Addr} {od_Run_init an_Run_init : Option Addr} {sl_Run_init : Array (Option Value)} {oc_Run_init kV_Run_init dc_Run_init pm_Run_init cd_Run_init ct_Run_init : Value}
    {f_Run_record : Addr} {od_Run_record an_Run_record : Option Addr} {sl_Run_record : Array (Option Value)} {oc_Run_record kV_Run_record dc_Run_record pm_Run_record cd_Run_record ct_Run_record : Value}
    {p_Run_record : Addr} {rest_Run_record : List Value}
    {f_Run_ending : Addr} {od_Run_ending an_Run_ending : Option Addr} {sl_Run_ending : Array (Option Value)} {oc_Run_ending kV_Run_ending dc_Run_ending pm_Run_ending cd_Run_ending ct_Run_ending : Value}
    {p_Run_ending : Addr} {rest_Run_ending : List Value}
    {f_Run_view : Addr} {od_Run_view an_Run_view : Option Addr} {sl_Run_view : Array (Option Value)} {oc_Run_view kV_Run_view dc_Run_view pm_Run_view cd_Run_view ct_Run_view : Value}
    {f_Run_deliver : Addr} {od_Run_deliver an_Run_deliver : Option Addr} {sl_Run_deliver : Array (Option Value)} {oc_Run_deliver kV_Run_deliver dc_Run_deliver pm_Run_deliver cd_Run_deliver ct_Run_deliver : Value}
    {f_Run_happen : Addr} {od_Run_happen an_Run_happen : Option Addr} {sl_Run_happen : Array (Option Value)} {oc_Run_happen kV_Run_happen dc_Run_happen pm_Run_happen cd_Run_happen ct_Run_happen : Value}
    {f_Run_finish : Addr} {od_Run_finish an_Run_finish : Option Addr} {sl_Run_finish : Array (Option Value)} {oc_Run_finish kV_Run_finish dc_Run_finish pm_Run_finish cd_Run_finish ct_Run_finish : Value}
    {f_Run_saved : Addr} {od_Run_saved an_Run_saved : Option Addr} {sl_Run_saved : Array (Option Value)} {oc_Run_saved kV_Run_saved dc_Run_saved pm_Run_saved cd_Run_saved ct_Run_saved : Value}
    {f_Run_restore : Addr} {od_Run_restore an_Run_restore : Option Addr} {sl_Run_restore : Array (Option Value)} {oc_Run_restore kV_Run_restore dc_Run_restore pm_Run_restore cd_Run_restore ct_Run_restore : Value}
    {f_row_of : Addr} {od_row_of an_row_of : Option Addr} {sl_row_of : Array (Option Value)} {oc_row_of kV_row_of dc_row_of pm_row_of cd_row_of ct_row_of : Value}
    {f_sets_of : Addr} {od_sets_of an_sets_of : Option Addr} {sl_sets_of : Array (Option Value)} {oc_sets_of kV_sets_of dc_sets_of pm_sets_of cd_sets_of ct_sets_of : Value}
    {f_choice_of : Addr} {od_choice_of an_choice_of : Option Addr} {sl_choice_of : Array (Option Value)} {oc_choice_of kV_choice_of dc_choice_of pm_choice_of cd_choice_of ct_choice_of : Value}
    {f_node_at : Addr} {od_node_at an_node_at : Option Addr} {sl_node_at : Array (Option Value)} {oc_node_at kV_node_at dc_node_at pm_node_at cd_node_at ct_node_at : Value}
    {f_resumed : Addr} {od_resumed an_resumed : Option Addr} {sl_resumed : Array (Option Value)} {oc_resumed kV_resumed dc_resumed pm_resumed cd_resumed ct_resumed : Value}
    {f_play : Addr} {od_play an_play : Option Addr} {sl_play : Array (Option Value)} {oc_play kV_play dc_play pm_play cd_play ct_play : Value}
    {f_law_source : Addr} {od_law_source an_law_source : Option Addr} {sl_law_source : Array (Option Value)} {oc_law_source kV_law_source dc_law_source pm_law_source cd_law_source ct_law_source : Value}
    {f_law_draw : Addr} {od_law_draw an_law_draw : Option Addr} {sl_law_draw : Array (Option Value)} {oc_law_draw kV_law_draw dc_law_draw pm_law_draw cd_law_draw ct_law_draw : Value}
    {f_law_name : Addr} {od_law_name an_law_name : Option Addr} {sl_law_name : Array (Option Value)} {oc_law_name kV_law_name dc_law_name pm_law_name cd_law_name ct_law_name : Value}
    {f_law_gcd : Addr} {od_law_gcd an_law_gcd : Option Addr} {sl_law_gcd : Array (Option Value)} {oc_law_gcd kV_law_gcd dc_law_gcd pm_law_gcd cd_law_gcd ct_law_gcd : Value}
    {f_law_reduced : Addr} {od_law_reduced an_law_reduced : Option Addr} {sl_law_reduced : Array (Option Value)} {oc_law_reduced kV_law_reduced dc_law_reduced pm_law_reduced cd_law_reduced ct_law_reduced : Value}
    {f_law_sets : Addr} {od_law_sets an_law_sets : Option Addr} {sl_law_sets : Array (Option Value)} {oc_law_sets kV_law_sets dc_law_sets pm_law_sets cd_law_sets ct_law_sets : Value}
    {f_law_tree : Addr} {od_law_tree an_law_tree : Option Addr} {sl_law_tree : Array (Option Value)} {oc_law_tree kV_law_tree dc_law_tree pm_law_tree cd_law_tree ct_law_tree : Value}
    {f_law_game : Addr} {od_law_game an_law_game : Option Addr} {sl_law_game : Array (Option Value)} {oc_law_game kV_law_game dc_law_game pm_law_game cd_law_game ct_law_game : Value}
    {f_law_plain : Addr} {od_law_plain an_law_plain : Option Addr} {sl_law_plain : Array (Option Value)} {oc_law_plain kV_law_plain dc_law_plain pm_law_plain cd_law_plain ct_law_plain : Value}
    {f_law_plan : Addr} {od_law_plan an_law_plan : Option Addr} {sl_law_plan : Array (Option Value)} {oc_law_plan kV_law_plan dc_law_plan pm_law_plan cd_law_plan ct_law_plan : Value}
    {f_law_choice : Addr} {od_law_choice an_law_choice : Option Addr} {sl_law_choice : Array (Option Value)} {oc_law_choice kV_law_choice dc_law_choice pm_law_choice cd_law_choice ct_law_choice : Value}
    {f_law_owner : Addr} {od_law_owner an_law_owner : Option Addr} {sl_law_owner : Array (Option Value)} {oc_law_owner kV_law_owner dc_law_owner pm_law_owner cd_law_owner ct_law_owner : Value}
    {f_law_way : Addr} {od_law_way an_law_way : Option Addr} {sl_law_way : Array (Option Value)} {oc_law_way kV_law_way dc_law_way pm_law_way cd_law_way ct_law_way : Value}
    {f_law_ask : Addr} {od_law_ask an_law_ask : Option Addr} {sl_law_ask : Array (Option Value)} {oc_law_ask kV_law_ask dc_law_ask pm_law_ask cd_law_ask ct_law_ask : Value}
    {f_law_deliver : Addr} {od_law_deliver an_law_deliver : Option Addr} {sl_law_deliver : Array (Option Value)} {oc_law_deliver kV_law_deliver dc_law_deliver pm_law_deliver cd_law_deliver ct_law_deliver : Value}
    {f_law_event : Addr} {od_law_event an_law_event : Option Addr} {sl_law_event : Array (Option Value)} {oc_law_event kV_law_event dc_law_event pm_law_event cd_law_event ct_law_event : Value}
    {f_law_drawn_event : Addr} {od_law_drawn_event an_law_drawn_event : Option Addr} {sl_law_drawn_event : Array (Option Value)} {oc_law_drawn_event kV_law_drawn_event dc_law_drawn_event pm_law_drawn_event cd_law_drawn_event ct_law_drawn_event : Value}
    {f_law_is : Addr} {od_law_is an_law_is : Option Addr} {sl_law_is : Array (Option Value)} {oc_law_is kV_law_is dc_law_is pm_law_is cd_law_is ct_law_is : Value}
    {f_law_saved : Addr} {od_law_saved an_law_saved : Option Addr} {sl_law_saved : Array (Option Value)} {oc_law_saved kV_law_saved dc_law_saved pm_law_saved cd_law_saved ct_law_saved : Value}
    {f_law_finished : Addr} {od_law_finished an_law_finished : Option Addr} {sl_law_finished : Array (Option Value)} {oc_law_finished kV_law_finished dc_law_finished pm_law_finished cd_law_finished ct_law_finished : Value}
    {f_law_told : Addr} {od_law_told an_law_told : Option Addr} {sl_law_told : Array (Option Value)} {oc_law_told kV_law_told dc_law_told pm_law_told cd_law_told ct_law_told : Value}
    {f_law : Addr} {od_law an_law : Option Addr} {sl_law : Array (Option Value)} {oc_law kV_law dc_law pm_law cd_law ct_law : Value}
    (z_abs : PySem.W.nsIn K mainGlobals "abs" = some none)
    (z_bool : PySem.W.nsIn K mainGlobals "bool" = some none)
    (z_dict : PySem.W.nsIn K mainGlobals "dict" = some none)
    (z_int : PySem.W.nsIn K mainGlobals "int" = some none)
    (z_isinstance : PySem.W.nsIn K mainGlobals "isinstance" = some none)
    (z_len : PySem.W.nsIn K mainGlobals "len" = some none)
    (z_list : PySem.W.nsIn K mainGlobals "list" = some none)
    (z_range : PySem.W.nsIn K mainGlobals "range" = some none)
    (z_sorted : PySem.W.nsIn K mainGlobals "sorted" = some none)
    (z_str : PySem.W.nsIn K mainGlobals "str" = some none)
    (z_tuple : PySem.W.nsIn K mainGlobals "tuple" = some none)
    (z_zip : PySem.W.nsIn K mainGlobals "zip" = some none)
    (g_Agent : PySem.W.nsIn K mainGlobals "Agent" = some (some (.ref C_Agent)))
    (opg_Agent : PySem.W.plainGet K C_Agent Str.empty = true)
    (ohd_Agent : PySem.W.hasDictIn K C_Agent = true)
    (opo_Agent : PySem.W.plainOver K C_Agent = true)
    (osa_Agent : PySem.W.findIn K (.ref C_Agent) "__setattr__" = some (some (.builtin "object.__setattr__")))
    (omk_Agent : PySem.W.makesIn K C_Agent = true)
    (okc_Agent : PySem.W.keepIn K (.ref C_Agent) = true)
    (g_Referee : PySem.W.nsIn K mainGlobals "Referee" = some (some (.ref C_Referee)))
    (opg_Referee : PySem.W.plainGet K C_Referee Str.empty = true)
    (ohd_Referee : PySem.W.hasDictIn K C_Referee = true)
    (opo_Referee : PySem.W.plainOver K C_Referee = true)
    (osa_Referee : PySem.W.findIn K (.ref C_Referee) "__setattr__" = some (some (.builtin "object.__setattr__")))
    (omk_Referee : PySem.W.makesIn K C_Referee = true)
    (okc_Referee : PySem.W.keepIn K (.ref C_Referee) = true)
    (g_Run : PySem.W.nsIn K mainGlobals "Run" = some (some (.ref C_Run)))
    (opg_Run : PySem.W.plainGet K C_Run Str.empty = true)
    (ohd_Run : PySem.W.hasDictIn K C_Run = true)
    (opo_Run : PySem.W.plainOver K C_Run = true)
    (osa_Run : PySem.W.findIn K (.ref C_Run) "__setattr__" = some (some (.builtin "object.__setattr__")))
    (omk_Run : PySem.W.makesIn K C_Run = true)
    (okc_Run : PySem.W.keepIn K (.ref C_Run) = true)
    (nof_Agent_moves : PySem.W.findIn K (.ref C_Agent) "_moves" = some none)
    (nof_Agent_owner : PySem.W.findIn K (.ref C_Agent) "_owner" = some none)
    (nof_Agent_journal : PySem.W.findIn K (.ref C_Agent) "journal" = some none)
    (nof_Referee_game : PySem.W.findIn K (.ref C_Referee) "_game" = some none)
    (nof_Referee_journal : PySem.W.findIn K (.ref C_Referee) "journal" = some none)
    (nof_Run_agents : PySem.W.findIn K (.ref C_Run) "_agents" = some none)
    (nof_Run_referee : PySem.W.findIn K (.ref C_Run) "_referee" = some none)
    (nof_Run_bag : PySem.W.findIn K (.ref C_Run) "bag" = some none)
    (a_Agent_init : PySem.W.findIn K (.ref C_Agent) "__init__" = some (some (.ref f_Agent_init)))
    (i_Agent_init : PySem.W.isFn K (.ref f_Agent_init) = true)
    (l_Agent_init : K.lookup f_Agent_init = some ⟨oc_Agent_init, od_Agent_init, .func (PySem.W.fnOf "__init__" "Agent.__init__" (defArgs s_Agent_init) (defBody s_Agent_init) (defScope s_Agent_init) .none kV_Agent_init dc_Agent_init pm_Agent_init an_Agent_init cd_Agent_init ct_Agent_init), sl_Agent_init⟩)
    (c_Agent_init : PySem.W.codeIn K cd_Agent_init "Agent.__init__" = true)
    (k_Agent_init : PySem.W.keepIn K (.ref f_Agent_init) = true)
    (a_Agent_call : PySem.W.findIn K (.ref C_Agent) "__call__" = some (some (.ref f_Agent_call)))
    (i_Agent_call : PySem.W.isFn K (.ref f_Agent_call) = true)
    (fi_Agent_call : PySem.W.fnIn K f_Agent_call = true)
    (l_Agent_call : K.lookup f_Agent_call = some ⟨oc_Agent_call, od_Agent_call, .func (PySem.W.fnOf "__call__" "Agent.__call__" (defArgs s_Agent_call) (defBody s_Agent_call) (defScope s_Agent_call) .none kV_Agent_call dc_Agent_call pm_Agent_call an_Agent_call cd_Agent_call ct_Agent_call), sl_Agent_call⟩)
    (c_Agent_call : PySem.W.codeIn K cd_Agent_call "Agent.__call__" = true)
    (k_Agent_call : PySem.W.keepIn K (.ref f_Agent_call) = true)
    (a_Referee_init : PySem.W.findIn K (.ref C_Referee) "__init__" = some (some (.ref f_Referee_init)))
    (i_Referee_init : PySem.W.isFn K (.ref f_Referee_init) = true)
    (l_Referee_init : K.lookup f_Referee_init = some ⟨oc_Referee_init, od_Referee_init, .func (PySem.W.fnOf "__init__" "Referee.__init__" (defArgs s_Referee_init) (defBody s_Referee_init) (defScope s_Referee_init) .none kV_Referee_init dc_Referee_init pm_Referee_init an_Referee_init cd_Referee_init ct_Referee_init), sl_Referee_init⟩)
    (c_Referee_init : PySem.W.codeIn K cd_Referee_init "Referee.__init__" = true)
    (k_Referee_init : PySem.W.keepIn K (.ref f_Referee_init) = true)
    (a_Referee_place : PySem.W.findIn K (.ref C_Referee) "place" = some (some (.ref p_Referee_place)))
    (pg_Referee_place : PySem.W.specialIn K (.ref p_Referee_place) "__get__" = some (some (.builtin "property.__get__")))
    (pt_Referee_place : PySem.W.takesIn K (.ref p_Referee_place) = some true)
    (pr_Referee_place : PySem.W.recIn K p_Referee_place "property" = some (.ref f_Referee_place :: rest_Referee_place))
    (l_Referee_place : K.lookup f_Referee_place = some ⟨oc_Referee_place, od_Referee_place, .func (PySem.W.fnOf "place" "Referee.place" (defArgs s_Referee_place) (defBody s_Referee_place) (defScope s_Referee_place) .none kV_Referee_place dc_Referee_place pm_Referee_place an_Referee_place cd_Referee_place ct_Referee_place), sl_Referee_place⟩)
    (c_Referee_place : PySem.W.codeIn K cd_Referee_place "Referee.place" = true)
    (k_Referee_place : PySem.W.keepIn K (.ref f_Referee_place) = true)
    (a_Referee_ending : PySem.W.findIn K (.ref C_Referee) "ending" = some (some (.ref p_Referee_ending)))
    (pg_Referee_ending : PySem.W.specialIn K (.ref p_Referee_ending) "__get__" = some (some (.builtin "property.__get__")))
    (pt_Referee_ending : PySem.W.takesIn K (.ref p_Referee_ending) = some true)
    (pr_Referee_ending : PySem.W.recIn K p_Referee_ending "property" = some (.ref f_Referee_ending :: rest_Referee_ending))
    (l_Referee_ending : K.lookup f_Referee_ending = some ⟨oc_Referee_ending, od_Referee_ending, .func (PySem.W.fnOf "ending" "Referee.ending" (defArgs s_Referee_ending) (defBody s_Referee_ending) (defScope s_Referee_ending) .none kV_Referee_ending dc_Referee_ending pm_Referee_ending an_Referee_ending cd_Referee_ending ct_Referee_ending), sl_Referee_ending⟩)
    (c_Referee_ending : PySem.W.codeIn K cd_Referee_ending "Referee.ending" = true)
    (k_Referee_ending : PySem.W.keepIn K (.ref f_Referee_ending) = true)
    (a_Referee_ask : PySem.W.findIn K (.ref C_Referee) "ask" = some (some (.ref f_Referee_ask)))
    (i_Referee_ask : PySem.W.isFn K (.ref f_Referee_ask) = true)
    (l_Referee_ask : K.lookup f_Referee_ask = some ⟨oc_Referee_ask, od_Referee_ask, .func (PySem.W.fnOf "ask" "Referee.ask" (defArgs s_Referee_ask) (defBody s_Referee_ask) (defScope s_Referee_ask) .none kV_Referee_ask dc_Referee_ask pm_Referee_ask an_Referee_ask cd_Referee_ask ct_Referee_ask), sl_Referee_ask⟩)
    (c_Referee_ask : PySem.W.codeIn K cd_Referee_ask "Referee.ask" = true)
    (k_Referee_ask : PySem.W.keepIn K (.ref f_Referee_ask) = true)
    (a_Referee_hear : PySem.W.findIn K (.ref C_Referee) "hear" = some (some (.ref f_Referee_hear)))
    (i_Referee_hear : PySem.W.isFn K (.ref f_Referee_hear) = true)
    (l_Referee_hear : K.lookup f_Referee_hear = some ⟨oc_Referee_hear, od_Referee_hear, .func (PySem.W.fnOf "hear" "Referee.hear" (defArgs s_Referee_hear) (defBody s_Referee_hear) (defScope s_Referee_hear) .none kV_Referee_hear dc_Referee_hear pm_Referee_hear an_Referee_hear cd_Referee_hear ct_Referee_hear), sl_Referee_hear⟩)
    (c_Referee_hear : PySem.W.codeIn K cd_Referee_hear "Referee.hear" = true)
    (k_Referee_hear : PySem.W.keepIn K (.ref f_Referee_hear) = true)
    (a_Run_send : PySem.W.findIn K (.ref C_Run) "_send" = some (some (.ref f_Run_send)))
    (i_Run_send : PySem.W.isFn K (.ref f_Run_send) = true)
    (l_Run_send : K.lookup f_Run_send = some ⟨oc_Run_send, od_Run_send, .func (PySem.W.fnOf "_send" "Run._send" (defArgs s_Run_send) (defBody s_Run_send) (defScope s_Run_send) .none kV_Run_send dc_Run_send pm_Run_send an_Run_send cd_Run_send ct_Run_send), sl_Run_send⟩)
    (c_Run_send : PySem.W.codeIn K cd_Run_send "Run._send" = true)
    (k_Run_send : PySem.W.keepIn K (.ref f_Run_send) = true)
    (a_Run_init : PySem.W.findIn K (.ref C_Run) "__init__" = some (some (.ref f_Run_init)))
    (i_Run_init : PySem.W.isFn K (.ref f_Run_init) = true)
    (l_Run_init : K.lookup f_Run_init = some ⟨oc_Run_init, od_Run_init, .func (PySem.W.fnOf "__init__" "Run.__init__" (defArgs s_Run_init) (defBody s_Run_init) (defScope s_Run_init) .none kV_Run_init dc_Run_init pm_Run_init an_Run_init cd_Run_init ct_Run_init), sl_Run_init⟩)
    (c_Run_init : PySem.W.codeIn K cd_Run_init "Run.__init__" = true)
    (k_Run_init : PySem.W.keepIn K (.ref f_Run_init) = true)
    (a_Run_record : PySem.W.findIn K (.ref C_Run) "record" = some (some (.ref p_Run_record)))
    (pg_Run_record : PySem.W.specialIn K (.ref p_Run_record) "__get__" = some (some (.builtin "property.__get__")))
    (pt_Run_record : PySem.W.takesIn K (.ref p_Run_record) = some true)
    (pr_Run_record : PySem.W.recIn K p_Run_record "property" = some (.ref f_Run_record :: rest_Run_record))
    (l_Run_record : K.lookup f_Run_record = some ⟨oc_Run_record, od_Run_record, .func (PySem.W.fnOf "record" "Run.record" (defArgs s_Run_record) (defBody s_Run_record) (defScope s_Run_record) .none kV_Run_record dc_Run_record pm_Run_record an_Run_record cd_Run_record ct_Run_record), sl_Run_record⟩)
    (c_Run_record : PySem.W.codeIn K cd_Run_record "Run.record" = true)
    (k_Run_record : PySem.W.keepIn K (.ref f_Run_record) = true)
    (a_Run_ending : PySem.W.findIn K (.ref C_Run) "ending" = some (some (.ref p_Run_ending)))
    (pg_Run_ending : PySem.W.specialIn K (.ref p_Run_ending) "__get__" = some (some (.builtin "property.__get__")))
    (pt_Run_ending : PySem.W.takesIn K (.ref p_Run_ending) = some true)
    (pr_Run_ending : PySem.W.recIn K p_Run_ending "property" = some (.ref f_Run_ending :: rest_Run_ending))
    (l_Run_ending : K.lookup f_Run_ending = some ⟨oc_Run_ending, od_Run_ending, .func (PySem.W.fnOf "ending" "Run.ending" (defArgs s_Run_ending) (defBody s_Run_ending) (defScope s_Run_ending) .none kV_Run_ending dc_Run_ending pm_Run_ending an_Run_ending cd_Run_ending ct_Run_ending), sl_Run_ending⟩)
    (c_Run_ending : PySem.W.codeIn K cd_Run_ending "Run.ending" = true)
    (k_Run_ending : PySem.W.keepIn K (.ref f_Run_ending) = true)
    (a_Run_view : PySem.W.findIn K (.ref C_Run) "view" = some (some (.ref f_Run_view)))
    (i_Run_view : PySem.W.isFn K (.ref f_Run_view) = true)
    (l_Run_view : K.lookup f_Run_view = some ⟨oc_Run_view, od_Run_view, .func (PySem.W.fnOf "view" "Run.view" (defArgs s_Run_view) (defBody s_Run_view) (defScope s_Run_view) .none kV_Run_view dc_Run_view pm_Run_view an_Run_view cd_Run_view ct_Run_view), sl_Run_view⟩)
    (c_Run_view : PySem.W.codeIn K cd_Run_view "Run.view" = true)
    (k_Run_view : PySem.W.keepIn K (.ref f_Run_view) = true)
    (a_Run_deliver : PySem.W.findIn K (.ref C_Run) "_deliver" = some (some (.ref f_Run_deliver)))
    (i_Run_deliver : PySem.W.isFn K (.ref f_Run_deliver) = true)
    (l_Run_deliver : K.lookup f_Run_deliver = some ⟨oc_Run_deliver, od_Run_deliver, .func (PySem.W.fnOf "_deliver" "Run._deliver" (defArgs s_Run_deliver) (defBody s_Run_deliver) (defScope s_Run_deliver) .none kV_Run_deliver dc_Run_deliver pm_Run_deliver an_Run_deliver cd_Run_deliver ct_Run_deliver), sl_Run_deliver⟩)
    (c_Run_deliver : PySem.W.codeIn K cd_Run_deliver "Run._deliver" = true)
    (k_Run_deliver : PySem.W.keepIn K (.ref f_Run_deliver) = true)
    (a_Run_happen : PySem.W.findIn K (.ref C_Run) "happen" = some (some (.ref f_Run_happen)))
    (i_Run_happen : PySem.W.isFn K (.ref f_Run_happen) = true)
    (l_Run_happen : K.lookup f_Run_happen = some ⟨oc_Run_happen, od_Run_happen, .func (PySem.W.fnOf "happen" "Run.happen" (defArgs s_Run_happen) (defBody s_Run_happen) (defScope s_Run_happen) .none kV_Run_happen dc_Run_happen pm_Run_happen an_Run_happen cd_Run_happen ct_Run_happen), sl_Run_happen⟩)
    (c_Run_happen : PySem.W.codeIn K cd_Run_happen "Run.happen" = true)
    (k_Run_happen : PySem.W.keepIn K (.ref f_Run_happen) = true)
    (a_Run_finish : PySem.W.findIn K (.ref C_Run) "finish" = some (some (.ref f_Run_finish)))
    (i_Run_finish : PySem.W.isFn K (.ref f_Run_finish) = true)
    (l_Run_finish : K.lookup f_Run_finish = some ⟨oc_Run_finish, od_Run_finish, .func (PySem.W.fnOf "finish" "Run.finish" (defArgs s_Run_finish) (defBody s_Run_finish) (defScope s_Run_finish) .none kV_Run_finish dc_Run_finish pm_Run_finish an_Run_finish cd_Run_finish ct_Run_finish), sl_Run_finish⟩)
    (c_Run_finish : PySem.W.codeIn K cd_Run_finish "Run.finish" = true)
    (k_Run_finish : PySem.W.keepIn K (.ref f_Run_finish) = true)
    (a_Run_saved : PySem.W.findIn K (.ref C_Run) "saved" = some (some (.ref f_Run_saved)))
    (i_Run_saved : PySem.W.isFn K (.ref f_Run_saved) = true)
    (l_Run_saved : K.lookup f_Run_saved = some ⟨oc_Run_saved, od_Run_saved, .func (PySem.W.fnOf "saved" "Run.saved" (defArgs s_Run_saved) (defBody s_Run_saved) (defScope s_Run_saved) .none kV_Run_saved dc_Run_saved pm_Run_saved an_Run_saved cd_Run_saved ct_Run_saved), sl_Run_saved⟩)
    (c_Run_saved : PySem.W.codeIn K cd_Run_saved "Run.saved" = true)
    (k_Run_saved : PySem.W.keepIn K (.ref f_Run_saved) = true)
    (a_Run_restore : PySem.W.findIn K (.ref C_Run) "_restore" = some (some (.ref f_Run_restore)))
    (i_Run_restore : PySem.W.isFn K (.ref f_Run_restore) = true)
    (l_Run_restore : K.lookup f_Run_restore = some ⟨oc_Run_restore, od_Run_restore, .func (PySem.W.fnOf "_restore" "Run._restore" (defArgs s_Run_restore) (defBody s_Run_restore) (defScope s_Run_restore) .none kV_Run_restore dc_Run_restore pm_Run_restore an_Run_restore cd_Run_restore ct_Run_restore), sl_Run_restore⟩)
    (c_Run_restore : PySem.W.codeIn K cd_Run_restore "Run._restore" = true)
    (k_Run_restore : PySem.W.keepIn K (.ref f_Run_restore) = true)
    (a_row_of : PySem.W.nsIn K mainGlobals "row_of" = some (some (.ref f_row_of)))
    (l_row_of : K.lookup f_row_of = some ⟨oc_row_of, od_row_of, .func (PySem.W.fnOf "row_of" "row_of" (defArgs s_row_of) (defBody s_row_of) (defScope s_row_of) .none kV_row_of dc_row_of pm_row_of an_row_of cd_row_of ct_row_of), sl_row_of⟩)
    (c_row_of : PySem.W.codeIn K cd_row_of "row_of" = true)
    (k_row_of : PySem.W.keepIn K (.ref f_row_of) = true)
    (a_sets_of : PySem.W.nsIn K mainGlobals "sets_of" = some (some (.ref f_sets_of)))
    (l_sets_of : K.lookup f_sets_of = some ⟨oc_sets_of, od_sets_of, .func (PySem.W.fnOf "sets_of" "sets_of" (defArgs s_sets_of) (defBody s_sets_of) (defScope s_sets_of) .none kV_sets_of dc_sets_of pm_sets_of an_sets_of cd_sets_of ct_sets_of), sl_sets_of⟩)
    (c_sets_of : PySem.W.codeIn K cd_sets_of "sets_of" = true)
    (k_sets_of : PySem.W.keepIn K (.ref f_sets_of) = true)
    (a_choice_of : PySem.W.nsIn K mainGlobals "choice_of" = some (some (.ref f_choice_of)))
    (l_choice_of : K.lookup f_choice_of = some ⟨oc_choice_of, od_choice_of, .func (PySem.W.fnOf "choice_of" "choice_of" (defArgs s_choice_of) (defBody s_choice_of) (defScope s_choice_of) .none kV_choice_of dc_choice_of pm_choice_of an_choice_of cd_choice_of ct_choice_of), sl_choice_of⟩)
    (c_choice_of : PySem.W.codeIn K cd_choice_of "choice_of" = true)
    (k_choice_of : PySem.W.keepIn K (.ref f_choice_of) = true)
    (a_node_at : PySem.W.nsIn K mainGlobals "node_at" = some (some (.ref f_node_at)))
    (l_node_at : K.lookup f_node_at = some ⟨oc_node_at, od_node_at, .func (PySem.W.fnOf "node_at" "node_at" (defArgs s_node_at) (defBody s_node_at) (defScope s_node_at) .none kV_node_at dc_node_at pm_node_at an_node_at cd_node_at ct_node_at), sl_node_at⟩)
    (c_node_at : PySem.W.codeIn K cd_node_at "node_at" = true)
    (k_node_at : PySem.W.keepIn K (.ref f_node_at) = true)
    (a_resumed : PySem.W.nsIn K mainGlobals "resumed" = some (some (.ref f_resumed)))
    (l_resumed : K.lookup f_resumed = some ⟨oc_resumed, od_resumed, .func (PySem.W.fnOf "resumed" "resumed" (defArgs s_resumed) (defBody s_resumed) (defScope s_resumed) .none kV_resumed dc_resumed pm_resumed an_resumed cd_resumed ct_resumed), sl_resumed⟩)
    (c_resumed : PySem.W.codeIn K cd_resumed "resumed" = true)
    (k_resumed : PySem.W.keepIn K (.ref f_resumed) = true)
    (a_play : PySem.W.nsIn K mainGlobals "play" = some (some (.ref f_play)))
    (l_play : K.lookup f_play = some ⟨oc_play, od_play, .func (PySem.W.fnOf "play" "play" (defArgs s_play) (defBody s_play) (defScope s_play) .none kV_play dc_play pm_play an_play cd_play ct_play), sl_play⟩)
    (c_play : PySem.W.codeIn K cd_play "play" = true)
    (k_play : PySem.W.keepIn K (.ref f_play) = true)
    (a_law_source : PySem.W.nsIn K mainGlobals "_law_source" = some (some (.ref f_law_source)))
    (l_law_source : K.lookup f_law_source = some ⟨oc_law_source, od_law_source, .func (PySem.W.fnOf "_law_source" "_law_source" (defArgs s_law_source) (defBody s_law_source) (defScope s_law_source) .none kV_law_source dc_law_source pm_law_source an_law_source cd_law_source ct_law_source), sl_law_source⟩)
    (c_law_source : PySem.W.codeIn K cd_law_source "_law_source" = true)
    (k_law_source : PySem.W.keepIn K (.ref f_law_source) = true)
    (a_law_draw : PySem.W.nsIn K mainGlobals "_law_draw" = some (some (.ref f_law_draw)))
    (l_law_draw : K.lookup f_law_draw = some ⟨oc_law_draw, od_law_draw, .func (PySem.W.fnOf "_law_draw" "_law_draw" (defArgs s_law_draw) (defBody s_law_draw) (defScope s_law_draw) .none kV_law_draw dc_law_draw pm_law_draw an_law_draw cd_law_draw ct_law_draw), sl_law_draw⟩)
    (c_law_draw : PySem.W.codeIn K cd_law_draw "_law_draw" = true)
    (k_law_draw : PySem.W.keepIn K (.ref f_law_draw) = true)
    (a_law_name : PySem.W.nsIn K mainGlobals "_law_name" = some (some (.ref f_law_name)))
    (l_law_name : K.lookup f_law_name = some ⟨oc_law_name, od_law_name, .func (PySem.W.fnOf "_law_name" "_law_name" (defArgs s_law_name) (defBody s_law_name) (defScope s_law_name) .none kV_law_name dc_law_name pm_law_name an_law_name cd_law_name ct_law_name), sl_law_name⟩)
    (c_law_name : PySem.W.codeIn K cd_law_name "_law_name" = true)
    (k_law_name : PySem.W.keepIn K (.ref f_law_name) = true)
    (a_law_gcd : PySem.W.nsIn K mainGlobals "_law_gcd" = some (some (.ref f_law_gcd)))
    (l_law_gcd : K.lookup f_law_gcd = some ⟨oc_law_gcd, od_law_gcd, .func (PySem.W.fnOf "_law_gcd" "_law_gcd" (defArgs s_law_gcd) (defBody s_law_gcd) (defScope s_law_gcd) .none kV_law_gcd dc_law_gcd pm_law_gcd an_law_gcd cd_law_gcd ct_law_gcd), sl_law_gcd⟩)
    (c_law_gcd : PySem.W.codeIn K cd_law_gcd "_law_gcd" = true)
    (k_law_gcd : PySem.W.keepIn K (.ref f_law_gcd) = true)
    (a_law_reduced : PySem.W.nsIn K mainGlobals "_law_reduced" = some (some (.ref f_law_reduced)))
    (l_law_reduced : K.lookup f_law_reduced = some ⟨oc_law_reduced, od_law_reduced, .func (PySem.W.fnOf "_law_reduced" "_law_reduced" (defArgs s_law_reduced) (defBody s_law_reduced) (defScope s_law_reduced) .none kV_law_reduced dc_law_reduced pm_law_reduced an_law_reduced cd_law_reduced ct_law_reduced), sl_law_reduced⟩)
    (c_law_reduced : PySem.W.codeIn K cd_law_reduced "_law_reduced" = true)
    (k_law_reduced : PySem.W.keepIn K (.ref f_law_reduced) = true)
    (a_law_sets : PySem.W.nsIn K mainGlobals "_law_sets" = some (some (.ref f_law_sets)))
    (l_law_sets : K.lookup f_law_sets = some ⟨oc_law_sets, od_law_sets, .func (PySem.W.fnOf "_law_sets" "_law_sets" (defArgs s_law_sets) (defBody s_law_sets) (defScope s_law_sets) .none kV_law_sets dc_law_sets pm_law_sets an_law_sets cd_law_sets ct_law_sets), sl_law_sets⟩)
    (c_law_sets : PySem.W.codeIn K cd_law_sets "_law_sets" = true)
    (k_law_sets : PySem.W.keepIn K (.ref f_law_sets) = true)
    (a_law_tree : PySem.W.nsIn K mainGlobals "_law_tree" = some (some (.ref f_law_tree)))
    (l_law_tree : K.lookup f_law_tree = some ⟨oc_law_tree, od_law_tree, .func (PySem.W.fnOf "_law_tree" "_law_tree" (defArgs s_law_tree) (defBody s_law_tree) (defScope s_law_tree) .none kV_law_tree dc_law_tree pm_law_tree an_law_tree cd_law_tree ct_law_tree), sl_law_tree⟩)
    (c_law_tree : PySem.W.codeIn K cd_law_tree "_law_tree" = true)
    (k_law_tree : PySem.W.keepIn K (.ref f_law_tree) = true)
    (a_law_game : PySem.W.nsIn K mainGlobals "_law_game" = some (some (.ref f_law_game)))
    (l_law_game : K.lookup f_law_game = some ⟨oc_law_game, od_law_game, .func (PySem.W.fnOf "_law_game" "_law_game" (defArgs s_law_game) (defBody s_law_game) (defScope s_law_game) .none kV_law_game dc_law_game pm_law_game an_law_game cd_law_game ct_law_game), sl_law_game⟩)
    (c_law_game : PySem.W.codeIn K cd_law_game "_law_game" = true)
    (k_law_game : PySem.W.keepIn K (.ref f_law_game) = true)
    (a_law_plain : PySem.W.nsIn K mainGlobals "_law_plain" = some (some (.ref f_law_plain)))
    (l_law_plain : K.lookup f_law_plain = some ⟨oc_law_plain, od_law_plain, .func (PySem.W.fnOf "_law_plain" "_law_plain" (defArgs s_law_plain) (defBody s_law_plain) (defScope s_law_plain) .none kV_law_plain dc_law_plain pm_law_plain an_law_plain cd_law_plain ct_law_plain), sl_law_plain⟩)
    (c_law_plain : PySem.W.codeIn K cd_law_plain "_law_plain" = true)
    (k_law_plain : PySem.W.keepIn K (.ref f_law_plain) = true)
    (a_law_plan : PySem.W.nsIn K mainGlobals "_law_plan" = some (some (.ref f_law_plan)))
    (l_law_plan : K.lookup f_law_plan = some ⟨oc_law_plan, od_law_plan, .func (PySem.W.fnOf "_law_plan" "_law_plan" (defArgs s_law_plan) (defBody s_law_plan) (defScope s_law_plan) .none kV_law_plan dc_law_plan pm_law_plan an_law_plan cd_law_plan ct_law_plan), sl_law_plan⟩)
    (c_law_plan : PySem.W.codeIn K cd_law_plan "_law_plan" = true)
    (k_law_plan : PySem.W.keepIn K (.ref f_law_plan) = true)
    (a_law_choice : PySem.W.nsIn K mainGlobals "_law_choice" = some (some (.ref f_law_choice)))
    (l_law_choice : K.lookup f_law_choice = some ⟨oc_law_choice, od_law_choice, .func (PySem.W.fnOf "_law_choice" "_law_choice" (defArgs s_law_choice) (defBody s_law_choice) (defScope s_law_choice) .none kV_law_choice dc_law_choice pm_law_choice an_law_choice cd_law_choice ct_law_choice), sl_law_choice⟩)
    (c_law_choice : PySem.W.codeIn K cd_law_choice "_law_choice" = true)
    (k_law_choice : PySem.W.keepIn K (.ref f_law_choice) = true)
    (a_law_owner : PySem.W.nsIn K mainGlobals "_law_owner" = some (some (.ref f_law_owner)))
    (l_law_owner : K.lookup f_law_owner = some ⟨oc_law_owner, od_law_owner, .func (PySem.W.fnOf "_law_owner" "_law_owner" (defArgs s_law_owner) (defBody s_law_owner) (defScope s_law_owner) .none kV_law_owner dc_law_owner pm_law_owner an_law_owner cd_law_owner ct_law_owner), sl_law_owner⟩)
    (c_law_owner : PySem.W.codeIn K cd_law_owner "_law_owner" = true)
    (k_law_owner : PySem.W.keepIn K (.ref f_law_owner) = true)
    (a_law_way : PySem.W.nsIn K mainGlobals "_law_way" = some (some (.ref f_law_way)))
    (l_law_way : K.lookup f_law_way = some ⟨oc_law_way, od_law_way, .func (PySem.W.fnOf "_law_way" "_law_way" (defArgs s_law_way) (defBody s_law_way) (defScope s_law_way) .none kV_law_way dc_law_way pm_law_way an_law_way cd_law_way ct_law_way), sl_law_way⟩)
    (c_law_way : PySem.W.codeIn K cd_law_way "_law_way" = true)
    (k_law_way : PySem.W.keepIn K (.ref f_law_way) = true)
    (a_law_ask : PySem.W.nsIn K mainGlobals "_law_ask" = some (some (.ref f_law_ask)))
    (l_law_ask : K.lookup f_law_ask = some ⟨oc_law_ask, od_law_ask, .func (PySem.W.fnOf "_law_ask" "_law_ask" (defArgs s_law_ask) (defBody s_law_ask) (defScope s_law_ask) .none kV_law_ask dc_law_ask pm_law_ask an_law_ask cd_law_ask ct_law_ask), sl_law_ask⟩)
    (c_law_ask : PySem.W.codeIn K cd_law_ask "_law_ask" = true)
    (k_law_ask : PySem.W.keepIn K (.ref f_law_ask) = true)
    (a_law_deliver : PySem.W.nsIn K mainGlobals "_law_deliver" = some (some (.ref f_law_deliver)))
    (l_law_deliver : K.lookup f_law_deliver = some ⟨oc_law_deliver, od_law_deliver, .func (PySem.W.fnOf "_law_deliver" "_law_deliver" (defArgs s_law_deliver) (defBody s_law_deliver) (defScope s_law_deliver) .none kV_law_deliver dc_law_deliver pm_law_deliver an_law_deliver cd_law_deliver ct_law_deliver), sl_law_deliver⟩)
    (c_law_deliver : PySem.W.codeIn K cd_law_deliver "_law_deliver" = true)
    (k_law_deliver : PySem.W.keepIn K (.ref f_law_deliver) = true)
    (a_law_event : PySem.W.nsIn K mainGlobals "_law_event" = some (some (.ref f_law_event)))
    (l_law_event : K.lookup f_law_event = some ⟨oc_law_event, od_law_event, .func (PySem.W.fnOf "_law_event" "_law_event" (defArgs s_law_event) (defBody s_law_event) (defScope s_law_event) .none kV_law_event dc_law_event pm_law_event an_law_event cd_law_event ct_law_event), sl_law_event⟩)
    (c_law_event : PySem.W.codeIn K cd_law_event "_law_event" = true)
    (k_law_event : PySem.W.keepIn K (.ref f_law_event) = true)
    (a_law_drawn_event : PySem.W.nsIn K mainGlobals "_law_drawn_event" = some (some (.ref f_law_drawn_event)))
    (l_law_drawn_event : K.lookup f_law_drawn_event = some ⟨oc_law_drawn_event, od_law_drawn_event, .func (PySem.W.fnOf "_law_drawn_event" "_law_drawn_event" (defArgs s_law_drawn_event) (defBody s_law_drawn_event) (defScope s_law_drawn_event) .none kV_law_drawn_event dc_law_drawn_event pm_law_drawn_event an_law_drawn_event cd_law_drawn_event ct_law_drawn_event), sl_law_drawn_event⟩)
    (c_law_drawn_event : PySem.W.codeIn K cd_law_drawn_event "_law_drawn_event" = true)
    (k_law_drawn_event : PySem.W.keepIn K (.ref f_law_drawn_event) = true)
    (a_law_is : PySem.W.nsIn K mainGlobals "_law_is" = some (some (.ref f_law_is)))
    (l_law_is : K.lookup f_law_is = some ⟨oc_law_is, od_law_is, .func (PySem.W.fnOf "_law_is" "_law_is" (defArgs s_law_is) (defBody s_law_is) (defScope s_law_is) .none kV_law_is dc_law_is pm_law_is an_law_is cd_law_is ct_law_is), sl_law_is⟩)
    (c_law_is : PySem.W.codeIn K cd_law_is "_law_is" = true)
    (k_law_is : PySem.W.keepIn K (.ref f_law_is) = true)
    (a_law_saved : PySem.W.nsIn K mainGlobals "_law_saved" = some (some (.ref f_law_saved)))
    (l_law_saved : K.lookup f_law_saved = some ⟨oc_law_saved, od_law_saved, .func (PySem.W.fnOf "_law_saved" "_law_saved" (defArgs s_law_saved) (defBody s_law_saved) (defScope s_law_saved) .none kV_law_saved dc_law_saved pm_law_saved an_law_saved cd_law_saved ct_law_saved), sl_law_saved⟩)
    (c_law_saved : PySem.W.codeIn K cd_law_saved "_law_saved" = true)
    (k_law_saved : PySem.W.keepIn K (.ref f_law_saved) = true)
    (a_law_finished : PySem.W.nsIn K mainGlobals "_law_finished" = some (some (.ref f_law_finished)))
    (l_law_finished : K.lookup f_law_finished = some ⟨oc_law_finished, od_law_finished, .func (PySem.W.fnOf "_law_finished" "_law_finished" (defArgs s_law_finished) (defBody s_law_finished) (defScope s_law_finished) .none kV_law_finished dc_law_finished pm_law_finished an_law_finished cd_law_finished ct_law_finished), sl_law_finished⟩)
    (c_law_finished : PySem.W.codeIn K cd_law_finished "_law_finished" = true)
    (k_law_finished : PySem.W.keepIn K (.ref f_law_finished) = true)
    (a_law_told : PySem.W.nsIn K mainGlobals "_law_told" = some (some (.ref f_law_told)))
    (l_law_told : K.lookup f_law_told = some ⟨oc_law_told, od_law_told, .func (PySem.W.fnOf "_law_told" "_law_told" (defArgs s_law_told) (defBody s_law_told) (defScope s_law_told) .none kV_law_told dc_law_told pm_law_told an_law_told cd_law_told ct_law_told), sl_law_told⟩)
    (c_law_told : PySem.W.codeIn K cd_law_told "_law_told" = true)
    (k_law_told : PySem.W.keepIn K (.ref f_law_told) = true)
    (a_law : PySem.W.nsIn K mainGlobals "law" = some (some (.ref f_law)))
    (l_law : K.lookup f_law = some ⟨oc_law, od_law, .func (PySem.W.fnOf "law" "law" (defArgs s_law) (defBody s_law) (defScope s_law) .none kV_law dc_law pm_law an_law cd_law ct_law), sl_law⟩)
    (c_law : PySem.W.codeIn K cd_law "law" = true)
    (k_law : PySem.W.keepIn K (.ref f_law) = true) :
    ∃ fd : FuncData, (∀ (s : Shared) (v : Value), BindsTo s fd ⟨[v], []⟩ [("script", v)]) ∧ ∀ base : Heap, K.In base → base.Ns mainGlobals mg → FnOk rwL.prog w K mg base CX0 64 fa fd ["script"] (spScr K fun _ _ => .stuck) := by
  have e := hfa.symm.trans (PySem.W.mg_of X G a_law)
  cases e
  have B : Blt mg := { b_abs := PySem.W.mg_none_of X G z_abs, b_bool := PySem.W.mg_none_of X G z_bool, b_dict := PySem.W.mg_none_of X G z_dict, b_int := PySem.W.mg_none_of X G z_int, b_isinstance := PySem.W.mg_none_of X G z_isinstance, b_len := PySem.W.mg_none_of X G z_len, b_list := PySem.W.mg_none_of X G z_list, b_range := PySem.W.mg_none_of X G z_range, b_sorted := PySem.W.mg_none_of X G z_sorted, b_str := PySem.W.mg_none_of X G z_str, b_tuple := PySem.W.mg_none_of X G z_tuple, b_zip := PySem.W.mg_none_of X G z_zip }
  have cl_Agent : Cls K C_Agent := ⟨opg_Agent, ohd_Agent, opo_Agent, osa_Agent⟩
  have cl_Referee : Cls K C_Referee := ⟨opg_Referee, ohd_Referee, opo_Referee, osa_Referee⟩
  have cl_Run : Cls K C_Run := ⟨opg_Run, ohd_Run, opo_Run, osa_Run⟩
  have d_Agent_init : InitOf K mg "Agent" C_Agent "Agent.__init__" s_Agent_init ["self", "game", "owner", "strategy"] := ⟨⟨_, _, (fun_mk (st := s_Agent_init) l_Agent_init c_Agent_init k_Agent_init), ⟨omk_Agent, a_Agent_init, i_Agent_init, okc_Agent⟩, (Fun.binds (ps := ["self", "game", "owner", "strategy"]) (fun_mk (st := s_Agent_init) l_Agent_init c_Agent_init k_Agent_init) fun _ _ _ _ _ _ us hl => match us, hl with | [_, _, _, _], _ => rfl), PySem.W.mg_of X G g_Agent⟩⟩
  have d_Agent_call : CallOf K C_Agent "Agent.__call__" s_Agent_call ["self", "letter"] := ⟨⟨_, _, (fun_mk (st := s_Agent_call) l_Agent_call c_Agent_call k_Agent_call), ⟨a_Agent_call, i_Agent_call, fi_Agent_call⟩, (Fun.binds (ps := ["self", "letter"]) (fun_mk (st := s_Agent_call) l_Agent_call c_Agent_call k_Agent_call) fun _ _ _ _ _ _ us hl => match us, hl with | [_, _], _ => rfl)⟩⟩
  have d_Referee_init : InitOf K mg "Referee" C_Referee "Referee.__init__" s_Referee_init ["self", "game"] := ⟨⟨_, _, (fun_mk (st := s_Referee_init) l_Referee_init c_Referee_init k_Referee_init), ⟨omk_Referee, a_Referee_init, i_Referee_init, okc_Referee⟩, (Fun.binds (ps := ["self", "game"]) (fun_mk (st := s_Referee_init) l_Referee_init c_Referee_init k_Referee_init) fun _ _ _ _ _ _ us hl => match us, hl with | [_, _], _ => rfl), PySem.W.mg_of X G g_Referee⟩⟩
  have d_Referee_place : PropOfC K C_Referee "place" "Referee.place" s_Referee_place ["self"] := ⟨⟨_, _, _, (fun_mk (st := s_Referee_place) l_Referee_place c_Referee_place k_Referee_place), ⟨a_Referee_place, pg_Referee_place, pt_Referee_place, ⟨_, pr_Referee_place⟩⟩, (Fun.binds (ps := ["self"]) (fun_mk (st := s_Referee_place) l_Referee_place c_Referee_place k_Referee_place) fun _ _ _ _ _ _ us hl => match us, hl with | [_], _ => rfl), rfl⟩⟩
  have d_Referee_ending : PropOfC K C_Referee "ending" "Referee.ending" s_Referee_ending ["self"] := ⟨⟨_, _, _, (fun_mk (st := s_Referee_ending) l_Referee_ending c_Referee_ending k_Referee_ending), ⟨a_Referee_ending, pg_Referee_ending, pt_Referee_ending, ⟨_, pr_Referee_ending⟩⟩, (Fun.binds (ps := ["self"]) (fun_mk (st := s_Referee_ending) l_Referee_ending c_Referee_ending k_Referee_ending) fun _ _ _ _ _ _ us hl => match us, hl with | [_], _ => rfl), rfl⟩⟩
  have d_Referee_ask : MethOf K C_Referee "ask" "Referee.ask" s_Referee_ask ["self"] := ⟨⟨_, _, (fun_mk (st := s_Referee_ask) l_Referee_ask c_Referee_ask k_Referee_ask), ⟨a_Referee_ask, i_Referee_ask, k_Referee_ask⟩, (Fun.binds (ps := ["self"]) (fun_mk (st := s_Referee_ask) l_Referee_ask c_Referee_ask k_Referee_ask) fun _ _ _ _ _ _ us hl => match us, hl with | [_], _ => rfl)⟩⟩
  have d_Referee_hear : MethOf K C_Referee "hear" "Referee.hear" s_Referee_hear ["self", "letter"] := ⟨⟨_, _, (fun_mk (st := s_Referee_hear) l_Referee_hear c_Referee_hear k_Referee_hear), ⟨a_Referee_hear, i_Referee_hear, k_Referee_hear⟩, (Fun.binds (ps := ["self", "letter"]) (fun_mk (st := s_Referee_hear) l_Referee_hear c_Referee_hear k_Referee_hear) fun _ _ _ _ _ _ us hl => match us, hl with | [_, _], _ => rfl)⟩⟩
  have d_Run_send : MethOf K C_Run "_send" "Run._send" s_Run_send ["self", "letter"] := ⟨⟨_, _, (fun_mk (st := s_Run_send) l_Run_send c_Run_send k_Run_send), ⟨a_Run_send, i_Run_send, k_Run_send⟩, (Fun.binds (ps := ["self", "letter"]) (fun_mk (st := s_Run_send) l_Run_send c_Run_send k_Run_send) fun _ _ _ _ _ _ us hl => match us, hl with | [_, _], _ => rfl)⟩⟩
  have d_Run_init : InitOf K mg "Run" C_Run "Run.__init__" s_Run_init ["self", "game", "profile"] := ⟨⟨_, _, (fun_mk (st := s_Run_init) l_Run_init c_Run_init k_Run_init), ⟨omk_Run, a_Run_init, i_Run_init, okc_Run⟩, (Fun.binds (ps := ["self", "game", "profile"]) (fun_mk (st := s_Run_init) l_Run_init c_Run_init k_Run_init) fun _ _ _ _ _ _ us hl => match us, hl with | [_, _, _], _ => rfl), PySem.W.mg_of X G g_Run⟩⟩
  have d_Run_record : PropOfC K C_Run "record" "Run.record" s_Run_record ["self"] := ⟨⟨_, _, _, (fun_mk (st := s_Run_record) l_Run_record c_Run_record k_Run_record), ⟨a_Run_record, pg_Run_record, pt_Run_record, ⟨_, pr_Run_record⟩⟩, (Fun.binds (ps := ["self"]) (fun_mk (st := s_Run_record) l_Run_record c_Run_record k_Run_record) fun _ _ _ _ _ _ us hl => match us, hl with | [_], _ => rfl), rfl⟩⟩
  have d_Run_ending : PropOfC K C_Run "ending" "Run.ending" s_Run_ending ["self"] := ⟨⟨_, _, _, (fun_mk (st := s_Run_ending) l_Run_ending c_Run_ending k_Run_ending), ⟨a_Run_ending, pg_Run_ending, pt_Run_ending, ⟨_, pr_Run_ending⟩⟩, (Fun.binds (ps := ["self"]) (fun_mk (st := s_Run_ending) l_Run_ending c_Run_ending k_Run_ending) fun _ _ _ _ _ _ us hl => match us, hl with | [_], _ => rfl), rfl⟩⟩
  have d_Run_view : MethOf K C_Run "view" "Run.view" s_Run_view ["self", "owner"] := ⟨⟨_, _, (fun_mk (st := s_Run_view) l_Run_view c_Run_view k_Run_view), ⟨a_Run_view, i_Run_view, k_Run_view⟩, (Fun.binds (ps := ["self", "owner"]) (fun_mk (st := s_Run_view) l_Run_view c_Run_view k_Run_view) fun _ _ _ _ _ _ us hl => match us, hl with | [_, _], _ => rfl)⟩⟩
  have d_Run_deliver : MethOf K C_Run "_deliver" "Run._deliver" s_Run_deliver ["self", "letter"] := ⟨⟨_, _, (fun_mk (st := s_Run_deliver) l_Run_deliver c_Run_deliver k_Run_deliver), ⟨a_Run_deliver, i_Run_deliver, k_Run_deliver⟩, (Fun.binds (ps := ["self", "letter"]) (fun_mk (st := s_Run_deliver) l_Run_deliver c_Run_deliver k_Run_deliver) fun _ _ _ _ _ _ us hl => match us, hl with | [_, _], _ => rfl)⟩⟩
  have d_Run_happen : MethOf K C_Run "happen" "Run.happen" s_Run_happen ["self", "event"] := ⟨⟨_, _, (fun_mk (st := s_Run_happen) l_Run_happen c_Run_happen k_Run_happen), ⟨a_Run_happen, i_Run_happen, k_Run_happen⟩, (Fun.binds (ps := ["self", "event"]) (fun_mk (st := s_Run_happen) l_Run_happen c_Run_happen k_Run_happen) fun _ _ _ _ _ _ us hl => match us, hl with | [_, _], _ => rfl)⟩⟩
  have d_Run_finish : MethOf K C_Run "finish" "Run.finish" s_Run_finish ["self"] := ⟨⟨_, _, (fun_mk (st := s_Run_finish) l_Run_finish c_Run_finish k_Run_finish), ⟨a_Run_finish, i_Run_finish, k_Run_finish⟩, (Fun.binds (ps := ["self"]) (fun_mk (st := s_Run_finish) l_Run_finish c_Run_finish k_Run_finish) fun _ _ _ _ _ _ us hl => match us, hl with | [_], _ => rfl)⟩⟩
  have d_Run_saved : MethOf K C_Run "saved" "Run.saved" s_Run_saved ["self"] := ⟨⟨_, _, (fun_mk (st := s_Run_saved) l_Run_saved c_Run_saved k_Run_saved), ⟨a_Run_saved, i_Run_saved, k_Run_saved⟩, (Fun.binds (ps := ["self"]) (fun_mk (st := s_Run_saved) l_Run_saved c_Run_saved k_Run_saved) fun _ _ _ _ _ _ us hl => match us, hl with | [_], _ => rfl)⟩⟩
  have d_Run_restore : MethOf K C_Run "_restore" "Run._restore" s_Run_restore ["self", "journals"] := ⟨⟨_, _, (fun_mk (st := s_Run_restore) l_Run_restore c_Run_restore k_Run_restore), ⟨a_Run_restore, i_Run_restore, k_Run_restore⟩, (Fun.binds (ps := ["self", "journals"]) (fun_mk (st := s_Run_restore) l_Run_restore c_Run_restore k_Run_restore) fun _ _ _ _ _ _ us hl => match us, hl with | [_, _], _ => rfl)⟩⟩
  have d_row_of : DefOf K mg "row_of" s_row_of ["game", "name"] := defOf_mk X G a_row_of l_row_of c_row_of k_row_of fun _ _ _ _ _ _ us hl => match us, hl with | [_, _], _ => rfl
  have d_sets_of : DefOf K mg "sets_of" s_sets_of ["game", "owner"] := defOf_mk X G a_sets_of l_sets_of c_sets_of k_sets_of fun _ _ _ _ _ _ us hl => match us, hl with | [_, _], _ => rfl
  have d_choice_of : DefOf K mg "choice_of" s_choice_of ["game", "owner", "strategy"] := defOf_mk X G a_choice_of l_choice_of c_choice_of k_choice_of fun _ _ _ _ _ _ us hl => match us, hl with | [_, _, _], _ => rfl
  have d_node_at : DefOf K mg "node_at" s_node_at ["tree", "path"] := defOf_mk X G a_node_at l_node_at c_node_at k_node_at fun _ _ _ _ _ _ us hl => match us, hl with | [_, _], _ => rfl
  have d_resumed : DefOf K mg "resumed" s_resumed ["game", "profile", "saved"] := defOf_mk X G a_resumed l_resumed c_resumed k_resumed fun _ _ _ _ _ _ us hl => match us, hl with | [_, _, _], _ => rfl
  have d_play : DefOf K mg "play" s_play ["game", "profile", "events"] := defOf_mk X G a_play l_play c_play k_play fun _ _ _ _ _ _ us hl => match us, hl with | [_, _, _], _ => rfl
  have d_law_source : DefOf K mg "_law_source" s_law_source ["script"] := defOf_mk X G a_law_source l_law_source c_law_source k_law_source fun _ _ _ _ _ _ us hl => match us, hl with | [_], _ => rfl
  have d_law_draw : DefOf K mg "_law_draw" s_law_draw ["script", "source", "limit"] := defOf_mk X G a_law_draw l_law_draw c_law_draw k_law_draw fun _ _ _ _ _ _ us hl => match us, hl with | [_, _, _], _ => rfl
  have d_law_name : DefOf K mg "_law_name" s_law_name ["script", "source", "used"] := defOf_mk X G a_law_name l_law_name c_law_name k_law_name fun _ _ _ _ _ _ us hl => match us, hl with | [_, _, _], _ => rfl
  have d_law_gcd : DefOf K mg "_law_gcd" s_law_gcd ["a", "b"] := defOf_mk X G a_law_gcd l_law_gcd c_law_gcd k_law_gcd fun _ _ _ _ _ _ us hl => match us, hl with | [_, _], _ => rfl
  have d_law_reduced : DefOf K mg "_law_reduced" s_law_reduced ["weights"] := defOf_mk X G a_law_reduced l_law_reduced c_law_reduced k_law_reduced fun _ _ _ _ _ _ us hl => match us, hl with | [_], _ => rfl
  have d_law_sets : DefOf K mg "_law_sets" s_law_sets ["script", "source", "many", "most"] := defOf_mk X G a_law_sets l_law_sets c_law_sets k_law_sets fun _ _ _ _ _ _ us hl => match us, hl with | [_, _, _, _], _ => rfl
  have d_law_tree : DefOf K mg "_law_tree" s_law_tree ["script", "source", "free", "outcomes", "room", "wish"] := defOf_mk X G a_law_tree l_law_tree c_law_tree k_law_tree fun _ _ _ _ _ _ us hl => match us, hl with | [_, _, _, _, _, _], _ => rfl
  have d_law_game : DefOf K mg "_law_game" s_law_game ["script", "source", "many", "most", "nodes"] := defOf_mk X G a_law_game l_law_game c_law_game k_law_game fun _ _ _ _ _ _ us hl => match us, hl with | [_, _, _, _, _], _ => rfl
  have d_law_plain : DefOf K mg "_law_plain" s_law_plain ["answer"] := defOf_mk X G a_law_plain l_law_plain c_law_plain k_law_plain fun _ _ _ _ _ _ us hl => match us, hl with | [_], _ => rfl
  have d_law_plan : DefOf K mg "_law_plan" s_law_plan ["script", "source", "rows", "owner"] := defOf_mk X G a_law_plan l_law_plan c_law_plan k_law_plan fun _ _ _ _ _ _ us hl => match us, hl with | [_, _, _, _], _ => rfl
  have d_law_choice : DefOf K mg "_law_choice" s_law_choice ["rows", "profile"] := defOf_mk X G a_law_choice l_law_choice c_law_choice k_law_choice fun _ _ _ _ _ _ us hl => match us, hl with | [_, _], _ => rfl
  have d_law_owner : DefOf K mg "_law_owner" s_law_owner ["rows", "name"] := defOf_mk X G a_law_owner l_law_owner c_law_owner k_law_owner fun _ _ _ _ _ _ us hl => match us, hl with | [_, _], _ => rfl
  have d_law_way : DefOf K mg "_law_way" s_law_way ["tree", "choice"] := defOf_mk X G a_law_way l_law_way c_law_way k_law_way fun _ _ _ _ _ _ us hl => match us, hl with | [_, _], _ => rfl
  have d_law_ask : DefOf K mg "_law_ask" s_law_ask ["game", "journal"] := defOf_mk X G a_law_ask l_law_ask c_law_ask k_law_ask fun _ _ _ _ _ _ us hl => match us, hl with | [_, _], _ => rfl
  have d_law_deliver : DefOf K mg "_law_deliver" s_law_deliver ["game", "choice", "journal", "answers", "bag", "letter"] := defOf_mk X G a_law_deliver l_law_deliver c_law_deliver k_law_deliver fun _ _ _ _ _ _ us hl => match us, hl with | [_, _, _, _, _, _], _ => rfl
  have d_law_event : DefOf K mg "_law_event" s_law_event ["game", "choice", "journal", "answers", "bag", "event"] := defOf_mk X G a_law_event l_law_event c_law_event k_law_event fun _ _ _ _ _ _ us hl => match us, hl with | [_, _, _, _, _, _], _ => rfl
  have d_law_drawn_event : DefOf K mg "_law_drawn_event" s_law_drawn_event ["script", "source"] := defOf_mk X G a_law_drawn_event l_law_drawn_event c_law_drawn_event k_law_drawn_event fun _ _ _ _ _ _ us hl => match us, hl with | [_, _], _ => rfl
  have d_law_is : DefOf K mg "_law_is" s_law_is ["game", "run", "way", "end", "journal", "answers", "bag"] := defOf_mk X G a_law_is l_law_is c_law_is k_law_is fun _ _ _ _ _ _ us hl => match us, hl with | [_, _, _, _, _, _, _], _ => rfl
  have d_law_saved : DefOf K mg "_law_saved" s_law_saved ["game", "profile", "run", "way", "end", "journal", "answers", "bag"] := defOf_mk X G a_law_saved l_law_saved c_law_saved k_law_saved fun _ _ _ _ _ _ us hl => match us, hl with | [_, _, _, _, _, _, _, _], _ => rfl
  have d_law_finished : DefOf K mg "_law_finished" s_law_finished ["game", "run", "way", "end", "bag"] := defOf_mk X G a_law_finished l_law_finished c_law_finished k_law_finished fun _ _ _ _ _ _ us hl => match us, hl with | [_, _, _, _, _], _ => rfl
  have d_law_told : DefOf K mg "_law_told" s_law_told ["game", "choice", "run", "journal", "answers", "bag", "event"] := defOf_mk X G a_law_told l_law_told c_law_told k_law_told fun _ _ _ _ _ _ us hl => match us, hl with | [_, _, _, _, _, _, _], _ => rfl
  have d_law : DefOf K mg "law" s_law ["script"] := defOf_mk X G a_law l_law c_law k_law fun _ _ _ _ _ _ us hl => match us, hl with | [_], _ => rfl
  let V : Fv := ⟨C_Agent, C_Referee, C_Run⟩
  have T : ∀ base : Heap, Has rwL.prog w K mg base "law" ["script"] 64 (m_law V) := fun base => by
    have h_row_of := has_row_of (P := rwL.prog) (w := w) (base := base) B d_row_of
    have h_sets_of := has_sets_of (P := rwL.prog) (w := w) (base := base) B d_sets_of
    have h_choice_of := has_choice_of (P := rwL.prog) (w := w) (base := base) B d_choice_of (h_sets_of := h_sets_of)
    have h_node_at := has_node_at (P := rwL.prog) (w := w) (base := base) B d_node_at
    have h_Agent_init := has_Agent_init (P := rwL.prog) (w := w) (base := base) B d_Agent_init (V := V) (c_Agent := cl_Agent) (n_Agent_moves := nof_Agent_moves) (n_Agent_owner := nof_Agent_owner) (n_Agent_journal := nof_Agent_journal) (h_choice_of := h_choice_of)
    have h_Agent_call := has_Agent_call (P := rwL.prog) (w := w) (base := base) B d_Agent_call (V := V) (c_Agent := cl_Agent) (n_Agent_moves := nof_Agent_moves) (n_Agent_owner := nof_Agent_owner) (n_Agent_journal := nof_Agent_journal)
    have h_Referee_init := has_Referee_init (P := rwL.prog) (w := w) (base := base) B d_Referee_init (V := V) (c_Referee := cl_Referee) (n_Referee_game := nof_Referee_game) (n_Referee_journal := nof_Referee_journal)
    have h_Referee_place := has_Referee_place (P := rwL.prog) (w := w) (base := base) B d_Referee_place (V := V) (c_Referee := cl_Referee) (n_Referee_journal := nof_Referee_journal)
    have h_Referee_ending := has_Referee_ending (P := rwL.prog) (w := w) (base := base) B d_Referee_ending (V := V) (c_Referee := cl_Referee) (n_Referee_game := nof_Referee_game) (h_node_at := h_node_at) (h_Referee_place := h_Referee_place)
    have h_Referee_ask := has_Referee_ask (P := rwL.prog) (w := w) (base := base) B d_Referee_ask (V := V) (c_Referee := cl_Referee) (n_Referee_game := nof_Referee_game) (h_row_of := h_row_of) (h_node_at := h_node_at) (h_Referee_place := h_Referee_place)
    have h_Referee_hear := has_Referee_hear (P := rwL.prog) (w := w) (base := base) B d_Referee_hear (V := V) (c_Referee := cl_Referee) (n_Referee_game := nof_Referee_game) (n_Referee_journal := nof_Referee_journal) (h_row_of := h_row_of) (h_node_at := h_node_at) (h_Referee_place := h_Referee_place)
    have h_Run_send := has_Run_send (P := rwL.prog) (w := w) (base := base) B d_Run_send (V := V) (c_Run := cl_Run) (n_Run_bag := nof_Run_bag)
    have h_Run_init := has_Run_init (P := rwL.prog) (w := w) (base := base) B d_Run_init (V := V) (c_Agent := cl_Agent) (c_Referee := cl_Referee) (c_Run := cl_Run) (n_Run_agents := nof_Run_agents) (n_Run_referee := nof_Run_referee) (n_Run_bag := nof_Run_bag) (h_Agent_init := h_Agent_init) (h_Referee_init := h_Referee_init) (h_Referee_ask := h_Referee_ask) (h_Run_send := h_Run_send)
    have h_Run_record := has_Run_record (P := rwL.prog) (w := w) (base := base) B d_Run_record (V := V) (c_Referee := cl_Referee) (c_Run := cl_Run) (n_Referee_journal := nof_Referee_journal) (n_Run_referee := nof_Run_referee)
    have h_Run_ending := has_Run_ending (P := rwL.prog) (w := w) (base := base) B d_Run_ending (V := V) (c_Referee := cl_Referee) (c_Run := cl_Run) (n_Run_referee := nof_Run_referee) (h_Referee_ending := h_Referee_ending)
    have h_Run_view := has_Run_view (P := rwL.prog) (w := w) (base := base) B d_Run_view (V := V) (c_Agent := cl_Agent) (c_Run := cl_Run) (n_Agent_journal := nof_Agent_journal) (n_Run_agents := nof_Run_agents)
    have h_Run_deliver := has_Run_deliver (P := rwL.prog) (w := w) (base := base) B d_Run_deliver (V := V) (c_Agent := cl_Agent) (c_Referee := cl_Referee) (c_Run := cl_Run) (n_Run_agents := nof_Run_agents) (n_Run_referee := nof_Run_referee) (h_Agent_call := h_Agent_call) (h_Referee_ask := h_Referee_ask) (h_Referee_hear := h_Referee_hear) (h_Run_send := h_Run_send)
    have h_Run_happen := has_Run_happen (P := rwL.prog) (w := w) (base := base) B d_Run_happen (V := V) (c_Referee := cl_Referee) (c_Run := cl_Run) (n_Run_referee := nof_Run_referee) (n_Run_bag := nof_Run_bag) (h_Referee_ask := h_Referee_ask) (h_Run_send := h_Run_send) (h_Run_deliver := h_Run_deliver)
    have h_Run_finish := has_Run_finish (P := rwL.prog) (w := w) (base := base) B d_Run_finish (V := V) (c_Agent := cl_Agent) (c_Referee := cl_Referee) (c_Run := cl_Run) (n_Run_agents := nof_Run_agents) (n_Run_referee := nof_Run_referee) (h_Agent_call := h_Agent_call) (h_Referee_ask := h_Referee_ask) (h_Referee_hear := h_Referee_hear) (h_Run_ending := h_Run_ending)
    have h_Run_saved := has_Run_saved (P := rwL.prog) (w := w) (base := base) B d_Run_saved (V := V) (c_Agent := cl_Agent) (c_Referee := cl_Referee) (c_Run := cl_Run) (n_Agent_journal := nof_Agent_journal) (n_Referee_journal := nof_Referee_journal) (n_Run_agents := nof_Run_agents) (n_Run_referee := nof_Run_referee)
    have h_Run_restore := has_Run_restore (P := rwL.prog) (w := w) (base := base) B d_Run_restore (V := V) (c_Agent := cl_Agent) (c_Referee := cl_Referee) (c_Run := cl_Run) (n_Agent_journal := nof_Agent_journal) (n_Referee_journal := nof_Referee_journal) (n_Run_agents := nof_Run_agents) (n_Run_referee := nof_Run_referee) (n_Run_bag := nof_Run_bag) (h_Referee_ask := h_Referee_ask) (h_Run_send := h_Run_send)
    have h_resumed := has_resumed (P := rwL.prog) (w := w) (base := base) B d_resumed (V := V) (c_Run := cl_Run) (h_Run_init := h_Run_init) (h_Run_restore := h_Run_restore)
    have h_play := has_play (P := rwL.prog) (w := w) (base := base) B d_play (V := V) (c_Run := cl_Run) (h_Run_init := h_Run_init) (h_Run_happen := h_Run_happen) (h_Run_finish := h_Run_finish)
    have h_law_source := has_law_source (P := rwL.prog) (w := w) (base := base) B d_law_source
    have h_law_draw := has_law_draw (P := rwL.prog) (w := w) (base := base) B d_law_draw
    have h_law_name := has_law_name (P := rwL.prog) (w := w) (base := base) B d_law_name (h_law_draw := h_law_draw)
    have h_law_gcd := has_law_gcd (P := rwL.prog) (w := w) (base := base) B d_law_gcd
    have h_law_reduced := has_law_reduced (P := rwL.prog) (w := w) (base := base) B d_law_reduced (h_law_gcd := h_law_gcd)
    have h_law_sets := has_law_sets (P := rwL.prog) (w := w) (base := base) B d_law_sets (h_law_draw := h_law_draw) (h_law_name := h_law_name) (h_law_reduced := h_law_reduced)
    have h_law_tree := has_law_tree (P := rwL.prog) (w := w) (base := base) B d_law_tree (h_law_draw := h_law_draw)
    have h_law_game := has_law_game (P := rwL.prog) (w := w) (base := base) B d_law_game (h_law_draw := h_law_draw) (h_law_name := h_law_name) (h_law_sets := h_law_sets) (h_law_tree := h_law_tree)
    have h_law_plain := has_law_plain (P := rwL.prog) (w := w) (base := base) B d_law_plain
    have h_law_plan := has_law_plan (P := rwL.prog) (w := w) (base := base) B d_law_plan (h_law_draw := h_law_draw)
    have h_law_choice := has_law_choice (P := rwL.prog) (w := w) (base := base) B d_law_choice
    have h_law_owner := has_law_owner (P := rwL.prog) (w := w) (base := base) B d_law_owner
    have h_law_way := has_law_way (P := rwL.prog) (w := w) (base := base) B d_law_way
    have h_law_ask := has_law_ask (P := rwL.prog) (w := w) (base := base) B d_law_ask (h_law_owner := h_law_owner)
    have h_law_deliver := has_law_deliver (P := rwL.prog) (w := w) (base := base) B d_law_deliver (h_law_ask := h_law_ask)
    have h_law_event := has_law_event (P := rwL.prog) (w := w) (base := base) B d_law_event (h_law_ask := h_law_ask) (h_law_deliver := h_law_deliver)
    have h_law_drawn_event := has_law_drawn_event (P := rwL.prog) (w := w) (base := base) B d_law_drawn_event (h_law_draw := h_law_draw)
    have h_law_is := has_law_is (P := rwL.prog) (w := w) (base := base) B d_law_is (V := V) (c_Run := cl_Run) (n_Run_bag := nof_Run_bag) (h_Run_record := h_Run_record) (h_Run_ending := h_Run_ending) (h_Run_view := h_Run_view) (h_law_plain := h_law_plain) (h_law_owner := h_law_owner)
    have h_law_saved := has_law_saved (P := rwL.prog) (w := w) (base := base) B d_law_saved (V := V) (c_Run := cl_Run) (h_Run_saved := h_Run_saved) (h_resumed := h_resumed) (h_law_plain := h_law_plain) (h_law_ask := h_law_ask) (h_law_is := h_law_is)
    have h_law_finished := has_law_finished (P := rwL.prog) (w := w) (base := base) B d_law_finished (V := V) (c_Run := cl_Run) (h_Run_finish := h_Run_finish) (h_Run_saved := h_Run_saved) (h_law_plain := h_law_plain) (h_law_owner := h_law_owner) (h_law_is := h_law_is)
    have h_law_told := has_law_told (P := rwL.prog) (w := w) (base := base) B d_law_told (V := V) (c_Run := cl_Run) (h_Run_happen := h_Run_happen) (h_law_event := h_law_event)
    have h_law := has_law (P := rwL.prog) (w := w) (base := base) B d_law (V := V) (c_Run := cl_Run) (h_Run_init := h_Run_init) (h_play := h_play) (h_law_source := h_law_source) (h_law_draw := h_law_draw) (h_law_game := h_law_game) (h_law_plan := h_law_plan) (h_law_choice := h_law_choice) (h_law_owner := h_law_owner) (h_law_way := h_law_way) (h_law_ask := h_law_ask) (h_law_drawn_event := h_law_drawn_event) (h_law_is := h_law_is) (h_law_saved := h_law_saved) (h_law_finished := h_law_finished) (h_law_told := h_law_told)
    exact h_law
  refine ⟨PySem.W.fnOf "law" "law" (defArgs s_law) (defBody s_law) (defScope s_law) .none kV_law dc_law pm_law an_law cd_law ct_law, fun s v => .of_eq rfl, fun base _ _ => ?_⟩
  obtain ⟨f, fd, ok, hm, _, _, fdat⟩ := (T base).ex
  have e2 := hm.symm.trans (PySem.W.mg_of X G a_law)
  cases e2
  obtain rfl := fdat.inj ⟨_, _, _, l_law⟩
  have z := FnOk_scr (m := (m_law V)) ok (fun ns _ => law_ok V ns)
  unfold spScr at z ⊢
  exact z
end PL
/-! printed by genend.py: the end -/
open PySem PySem.W PyProof.Rows
set_option maxRecDepth 100000 in
set_option maxHeartbeats 0 in
theorem PySem.Challenge.cw_sequencesandadvice_k78_whole_runs_by_let_holds : PySem.Challenge.rw_sequencesandadvice_k78_whole_runs_by_let.Holds := by
  w_on; o_law; k_head; (case hw => w_witness2)
  k_fill
  refine PL.walk_scr (k := 64) (m := fun _ _ => .stuck) (l := PySem.Challenge.rw_sequencesandadvice_k78_whole_runs_by_let) rfl rfl ⟨rfl, by decide, by decide⟩ (fun w h Y => PySem.W.kIn_of Y) ?F
  case F =>
    intro w mg fa h KX G hmg
    refine' PL.end_mk KX G hmg ?z_abs ?z_bool ?z_dict ?z_int ?z_isinstance ?z_len ?z_list ?z_range ?z_sorted ?z_str ?z_tuple ?z_zip ?g_Agent ?opg_Agent ?ohd_Agent ?opo_Agent ?osa_Agent ?omk_Agent ?okc_Agent ?g_Referee ?opg_Referee ?ohd_Referee ?opo_Referee ?osa_Referee ?omk_Referee ?okc_Referee ?g_Run ?opg_Run ?ohd_Run ?opo_Run ?osa_Run ?omk_Run ?okc_Run ?nof_Agent_moves ?nof_Agent_owner ?nof_Agent_journal ?nof_Referee_game ?nof_Referee_journal ?nof_Run_agents ?nof_Run_referee ?nof_Run_bag ?a_Agent_init ?i_Agent_init ?l_Agent_init ?c_Agent_init ?k_Agent_init ?a_Agent_call ?i_Agent_call ?fi_Agent_call ?l_Agent_call ?c_Agent_call ?k_Agent_call ?a_Referee_init ?i_Referee_init ?l_Referee_init ?c_Referee_init ?k_Referee_init ?a_Referee_place ?pg_Referee_place ?pt_Referee_place ?pr_Referee_place ?l_Referee_place ?c_Referee_place ?k_Referee_place ?a_Referee_ending ?pg_Referee_ending ?pt_Referee_ending ?pr_Referee_ending ?l_Referee_ending ?c_Referee_ending ?k_Referee_ending ?a_Referee_ask ?i_Referee_ask ?l_Referee_ask ?c_Referee_ask ?k_Referee_ask ?a_Referee_hear ?i_Referee_hear ?l_Referee_hear ?c_Referee_hear ?k_Referee_hear ?a_Run_send ?i_Run_send ?l_Run_send ?c_Run_send ?k_Run_send ?a_Run_init ?i_Run_init ?l_Run_init ?c_Run_init ?k_Run_init ?a_Run_record ?pg_Run_record ?pt_Run_record ?pr_Run_record ?l_Run_record ?c_Run_record ?k_Run_record ?a_Run_ending ?pg_Run_ending ?pt_Run_ending ?pr_Run_ending ?l_Run_ending ?c_Run_ending ?k_Run_ending ?a_Run_view ?i_Run_view ?l_Run_view ?c_Run_view ?k_Run_view ?a_Run_deliver ?i_Run_deliver ?l_Run_deliver ?c_Run_deliver ?k_Run_deliver ?a_Run_happen ?i_Run_happen ?l_Run_happen ?c_Run_happen ?k_Run_happen ?a_Run_finish ?i_Run_finish ?l_Run_finish ?c_Run_finish ?k_Run_finish ?a_Run_saved ?i_Run_saved ?l_Run_saved ?c_Run_saved ?k_Run_saved ?a_Run_restore ?i_Run_restore ?l_Run_restore ?c_Run_restore ?k_Run_restore ?a_row_of ?l_row_of ?c_row_of ?k_row_of ?a_sets_of ?l_sets_of ?c_sets_of ?k_sets_of ?a_choice_of ?l_choice_of ?c_choice_of ?k_choice_of ?a_node_at ?l_node_at ?c_node_at ?k_node_at ?a_resumed ?l_resumed ?c_resumed ?k_resumed ?a_play ?l_play ?c_play ?k_play ?a_law_source ?l_law_source ?c_law_source ?k_law_source ?a_law_draw ?l_law_draw ?c_law_draw ?k_law_draw ?a_law_name ?l_law_name ?c_law_name ?k_law_name ?a_law_gcd ?l_law_gcd ?c_law_gcd ?k_law_gcd ?a_law_reduced ?l_law_reduced ?c_law_reduced ?k_law_reduced ?a_law_sets ?l_law_sets ?c_law_sets ?k_law_sets ?a_law_tree ?l_law_tree ?c_law_tree ?k_law_tree ?a_law_game ?l_law_game ?c_law_game ?k_law_game ?a_law_plain ?l_law_plain ?c_law_plain ?k_law_plain ?a_law_plan ?l_law_plan ?c_law_plan ?k_law_plan ?a_law_choice ?l_law_choice ?c_law_choice ?k_law_choice ?a_law_owner ?l_law_owner ?c_law_owner ?k_law_owner ?a_law_way ?l_law_way ?c_law_way ?k_law_way ?a_law_ask ?l_law_ask ?c_law_ask ?k_law_ask ?a_law_deliver ?l_law_deliver ?c_law_deliver ?k_law_deliver ?a_law_event ?l_law_event ?c_law_event ?k_law_event ?a_law_drawn_event ?l_law_drawn_event ?c_law_drawn_event ?k_law_drawn_event ?a_law_is ?l_law_is ?c_law_is ?k_law_is ?a_law_saved ?l_law_saved ?c_law_saved ?k_law_saved ?a_law_finished ?l_law_finished ?c_law_finished ?k_law_finished ?a_law_told ?l_law_told ?c_law_told ?k_law_told ?a_law ?l_law ?c_law ?k_law
    (case z_abs => k_is)
    (case z_bool => k_is)
    (case z_dict => k_is)
    (case z_int => k_is)
    (case z_isinstance => k_is)
    (case z_len => k_is)
    (case z_list => k_is)
    (case z_range => k_is)
    (case z_sorted => k_is)
    (case z_str => k_is)
    (case z_tuple => k_is)
    (case z_zip => k_is)
    (case g_Agent => k_is)
    (case opg_Agent => k_is)
    (case ohd_Agent => k_is)
    (case opo_Agent => k_is)
    (case osa_Agent => k_is)
    (case omk_Agent => k_is)
    (case okc_Agent => k_is)
    (case g_Referee => k_is)
    (case opg_Referee => k_is)
    (case ohd_Referee => k_is)
    (case opo_Referee => k_is)
    (case osa_Referee => k_is)
    (case omk_Referee => k_is)
    (case okc_Referee => k_is)
    (case g_Run => k_is)
    (case opg_Run => k_is)
    (case ohd_Run => k_is)
    (case opo_Run => k_is)
    (case osa_Run => k_is)
    (case omk_Run => k_is)
    (case okc_Run => k_is)
    (case nof_Agent_moves => k_is)
    (case nof_Agent_owner => k_is)
    (case nof_Agent_journal => k_is)
    (case nof_Referee_game => k_is)
    (case nof_Referee_journal => k_is)
    (case nof_Run_agents => k_is)
    (case nof_Run_referee => k_is)
    (case nof_Run_bag => k_is)
    (case a_Agent_init => k_is)
    (case i_Agent_init => k_is)
    (case l_Agent_init => k_is)
    (case c_Agent_init => k_is)
    (case k_Agent_init => k_is)
    (case a_Agent_call => k_is)
    (case i_Agent_call => k_is)
    (case fi_Agent_call => k_is)
    (case l_Agent_call => k_is)
    (case c_Agent_call => k_is)
    (case k_Agent_call => k_is)
    (case a_Referee_init => k_is)
    (case i_Referee_init => k_is)
    (case l_Referee_init => k_is)
    (case c_Referee_init => k_is)
    (case k_Referee_init => k_is)
    (case a_Referee_place => k_is)
    (case pg_Referee_place => k_is)
    (case pt_Referee_place => k_is)
    (case pr_Referee_place => k_is)
    (case l_Referee_place => k_is)
    (case c_Referee_place => k_is)
    (case k_Referee_place => k_is)
    (case a_Referee_ending => k_is)
    (case pg_Referee_ending => k_is)
    (case pt_Referee_ending => k_is)
    (case pr_Referee_ending => k_is)
    (case l_Referee_ending => k_is)
    (case c_Referee_ending => k_is)
    (case k_Referee_ending => k_is)
    (case a_Referee_ask => k_is)
    (case i_Referee_ask => k_is)
    (case l_Referee_ask => k_is)
    (case c_Referee_ask => k_is)
    (case k_Referee_ask => k_is)
    (case a_Referee_hear => k_is)
    (case i_Referee_hear => k_is)
    (case l_Referee_hear => k_is)
    (case c_Referee_hear => k_is)
    (case k_Referee_hear => k_is)
    (case a_Run_send => k_is)
    (case i_Run_send => k_is)
    (case l_Run_send => k_is)
    (case c_Run_send => k_is)
    (case k_Run_send => k_is)
    (case a_Run_init => k_is)
    (case i_Run_init => k_is)
    (case l_Run_init => k_is)
    (case c_Run_init => k_is)
    (case k_Run_init => k_is)
    (case a_Run_record => k_is)
    (case pg_Run_record => k_is)
    (case pt_Run_record => k_is)
    (case pr_Run_record => k_is)
    (case l_Run_record => k_is)
    (case c_Run_record => k_is)
    (case k_Run_record => k_is)
    (case a_Run_ending => k_is)
    (case pg_Run_ending => k_is)
    (case pt_Run_ending => k_is)
    (case pr_Run_ending => k_is)
    (case l_Run_ending => k_is)
    (case c_Run_ending => k_is)
    (case k_Run_ending => k_is)
    (case a_Run_view => k_is)
    (case i_Run_view => k_is)
    (case l_Run_view => k_is)
    (case c_Run_view => k_is)
    (case k_Run_view => k_is)
    (case a_Run_deliver => k_is)
    (case i_Run_deliver => k_is)
    (case l_Run_deliver => k_is)
    (case c_Run_deliver => k_is)
    (case k_Run_deliver => k_is)
    (case a_Run_happen => k_is)
    (case i_Run_happen => k_is)
    (case l_Run_happen => k_is)
    (case c_Run_happen => k_is)
    (case k_Run_happen => k_is)
    (case a_Run_finish => k_is)
    (case i_Run_finish => k_is)
    (case l_Run_finish => k_is)
    (case c_Run_finish => k_is)
    (case k_Run_finish => k_is)
    (case a_Run_saved => k_is)
    (case i_Run_saved => k_is)
    (case l_Run_saved => k_is)
    (case c_Run_saved => k_is)
    (case k_Run_saved => k_is)
    (case a_Run_restore => k_is)
    (case i_Run_restore => k_is)
    (case l_Run_restore => k_is)
    (case c_Run_restore => k_is)
    (case k_Run_restore => k_is)
    (case a_row_of => k_is)
    (case l_row_of => k_is)
    (case c_row_of => k_is)
    (case k_row_of => k_is)
    (case a_sets_of => k_is)
    (case l_sets_of => k_is)
    (case c_sets_of => k_is)
    (case k_sets_of => k_is)
    (case a_choice_of => k_is)
    (case l_choice_of => k_is)
    (case c_choice_of => k_is)
    (case k_choice_of => k_is)
    (case a_node_at => k_is)
    (case l_node_at => k_is)
    (case c_node_at => k_is)
    (case k_node_at => k_is)
    (case a_resumed => k_is)
    (case l_resumed => k_is)
    (case c_resumed => k_is)
    (case k_resumed => k_is)
    (case a_play => k_is)
    (case l_play => k_is)
    (case c_play => k_is)
    (case k_play => k_is)
    (case a_law_source => k_is)
    (case l_law_source => k_is)
    (case c_law_source => k_is)
    (case k_law_source => k_is)
    (case a_law_draw => k_is)
    (case l_law_draw => k_is)
    (case c_law_draw => k_is)
    (case k_law_draw => k_is)
    (case a_law_name => k_is)
    (case l_law_name => k_is)
    (case c_law_name => k_is)
    (case k_law_name => k_is)
    (case a_law_gcd => k_is)
    (case l_law_gcd => k_is)
    (case c_law_gcd => k_is)
    (case k_law_gcd => k_is)
    (case a_law_reduced => k_is)
    (case l_law_reduced => k_is)
    (case c_law_reduced => k_is)
    (case k_law_reduced => k_is)
    (case a_law_sets => k_is)
    (case l_law_sets => k_is)
    (case c_law_sets => k_is)
    (case k_law_sets => k_is)
    (case a_law_tree => k_is)
    (case l_law_tree => k_is)
    (case c_law_tree => k_is)
    (case k_law_tree => k_is)
    (case a_law_game => k_is)
    (case l_law_game => k_is)
    (case c_law_game => k_is)
    (case k_law_game => k_is)
    (case a_law_plain => k_is)
    (case l_law_plain => k_is)
    (case c_law_plain => k_is)
    (case k_law_plain => k_is)
    (case a_law_plan => k_is)
    (case l_law_plan => k_is)
    (case c_law_plan => k_is)
    (case k_law_plan => k_is)
    (case a_law_choice => k_is)
    (case l_law_choice => k_is)
    (case c_law_choice => k_is)
    (case k_law_choice => k_is)
    (case a_law_owner => k_is)
    (case l_law_owner => k_is)
    (case c_law_owner => k_is)
    (case k_law_owner => k_is)
    (case a_law_way => k_is)
    (case l_law_way => k_is)
    (case c_law_way => k_is)
    (case k_law_way => k_is)
    (case a_law_ask => k_is)
    (case l_law_ask => k_is)
    (case c_law_ask => k_is)
    (case k_law_ask => k_is)
    (case a_law_deliver => k_is)
    (case l_law_deliver => k_is)
    (case c_law_deliver => k_is)
    (case k_law_deliver => k_is)
    (case a_law_event => k_is)
    (case l_law_event => k_is)
    (case c_law_event => k_is)
    (case k_law_event => k_is)
    (case a_law_drawn_event => k_is)
    (case l_law_drawn_event => k_is)
    (case c_law_drawn_event => k_is)
    (case k_law_drawn_event => k_is)
    (case a_law_is => k_is)
    (case l_law_is => k_is)
    (case c_law_is => k_is)
    (case k_law_is => k_is)
    (case a_law_saved => k_is)
    (case l_law_saved => k_is)
    (case c_law_saved => k_is)
    (case k_law_saved => k_is)
    (case a_law_finished => k_is)
    (case l_law_finished => k_is)
    (case c_law_finished => k_is)
    (case k_law_finished => k_is)
    (case a_law_told => k_is)
    (case l_law_told => k_is)
    (case c_law_told => k_is)
    (case k_law_told => k_is)
    (case a_law => k_is)
    (case l_law => k_is)
    (case c_law => k_is)
    (case k_law => k_is)
