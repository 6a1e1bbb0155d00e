import PyProof.Rows.All
import HandS.ForMost
import HandS.Exc
import HandS.ExcOwn
import HandS.WordsExc
import HandS.CallSlots
import HandS.IsInst
import HandS.StrMore
import HandS.ExcInit
import HandS.ExcField
import HandS.ExcIs
import KE.KExcSuper
import KE.KExcIs
import PySem.Challenge.RW_bandstand_k72_deeds
import KE.IntTextLaws
import PyProof.StrLawsChain
import HandS.Text
import KE.KStateDown
import HandS.Defaults
import HandS.Head0
import HandS.Head1
import HandS.Head2
import HandS.HeadEnd
import HandS.HeadHook1
import HandS.HeadHook2
set_option Elab.async false
set_option linter.all false
set_option maxRecDepth 100000
set_option maxHeartbeats 4000000
/-! The value layer: data as plain values, what represents them, frames and ownership. -/
namespace DL
open PySem PySem.Spec PyProof.Rows L2

abbrev Cid := Nat
inductive D where
  | non | bl (b : Bool) | int (i : Int) | str (x : Str) | ty (n : String)
  | tup (ds : List D) | lst (ds : List D) | scr (ns : List Int)
  | dK (kvs : List (Key × D)) | dT (kvs : List (List Key × D))
  | obj (c : Cid) (fs : List (Str × D))
  | exn (c : Cid) (fs : List (Str × D))
  deriving Inhabited
structure Exn where
  c : Cid
  fs : List (Str × D)
inductive R (α : Type) where
  | ok (a : α) | exc (x : Exn) | bad
abbrev Dv := List (Option D)
abbrev GE := Dv → R D

/-- a tuple that stands: tracked, or of the written part -/
def TupAt (K : PySem.W.Frag) (F : Hp) (a : Addr) (vs : List V) : Prop := F a = some (.tup vs) ∨
  ∃ (o : Obj) (its : Array Value) (n : Nat), K.lookup a = some o ∧ o.cls = .type "tuple" ∧ o.data = .seq its n ∧ its.size ≤ sizeLine ∧ Vals vs its.toList
section
variable (K : PySem.W.Frag) (C : Cid → Addr)
mutual
/-- v stands for d, all of it in the frozen part F -/
inductive Rep (F : Hp) : V → D → Prop
  | non : Rep F .non .non
  | bl {b} : Rep F (.bl b) (.bl b)
  | int {i} : Rep F (.int i) (.int i)
  | str {x} : Rep F (.str x) (.str x)
  | ty {n} : Rep F (.ty n) (.ty n)
  | tup {a vs ds} : TupAt K F a vs → Reps F vs ds → Rep F (.ref a) (.tup ds)
  | lst {a vs ds} : F a = some (.lst vs) → Reps F vs ds → Rep F (.ref a) (.lst ds)
  | scr {a ns} : SqL K F a (ns.map V.int) → Rep F (.ref a) (.scr ns)
  | dK {a vs kvs} : F a = some (.dK vs) → RepK F vs kvs → Rep F (.ref a) (.dK kvs)
  | dT {a vs kvs} : F a = some (.dT vs) → RepT F vs kvs → Rep F (.ref a) (.dT kvs)
  | obj {a c dx vfs fs} : F a = some (.ins (C c) dx vfs) → RepF F vfs fs → Rep F (.ref a) (.obj c fs)
inductive Reps (F : Hp) : List V → List D → Prop
  | nil : Reps F [] []
  | cons {v d vs ds} : Rep F v d → Reps F vs ds → Reps F (v :: vs) (d :: ds)
inductive RepF (F : Hp) : List (Str × V) → List (Str × D) → Prop
  | nil : RepF F [] []
  | cons {n v d vs ds} : Rep F v d → RepF F vs ds → RepF F ((n, v) :: vs) ((n, d) :: ds)
inductive RepK (F : Hp) : List (Key × V) → List (Key × D) → Prop
  | nil : RepK F [] []
  | cons {k v d vs ds} : Rep F v d → RepK F vs ds → RepK F ((k, v) :: vs) ((k, d) :: ds)
inductive RepT (F : Hp) : List (List Key × V) → List (List Key × D) → Prop
  | nil : RepT F [] []
  | cons {k v d vs ds} : Rep F v d → RepT F vs ds → RepT F ((k, v) :: vs) ((k, d) :: ds)
end
end
section
variable {K : PySem.W.Frag} {C : Cid → Addr} {F F' G H H' : Hp}
theorem tupAt_mono {a : Addr} {vs : List V} (s : Same F F') (h : TupAt K F a vs) : TupAt K F' a vs := h.imp (s _ _) id
theorem sqT_mono {a : Addr} {vs : List V} (s : Same F F') (h : TupAt K F a vs) : SqT K F' a vs := h.imp (fun z => .inl (s _ _ z)) id
mutual
theorem Rep.mono (s : Same F F') : ∀ {v d}, Rep K C F v d → Rep K C F' v d
  | _, _, .non => .non
  | _, _, .bl => .bl
  | _, _, .int => .int
  | _, _, .str => .str
  | _, _, .ty => .ty
  | _, _, .tup h r => .tup (tupAt_mono s h) (Reps.mono s r)
  | _, _, .lst h r => .lst (s _ _ h) (Reps.mono s r)
  | _, _, .scr h => .scr (s.seq h)
  | _, _, .dK h r => .dK (s _ _ h) (RepK.mono s r)
  | _, _, .dT h r => .dT (s _ _ h) (RepT.mono s r)
  | _, _, .obj h r => .obj (s _ _ h) (RepF.mono s r)
theorem Reps.mono (s : Same F F') : ∀ {v d}, Reps K C F v d → Reps K C F' v d
  | _, _, .nil => .nil
  | _, _, .cons h r => .cons (Rep.mono s h) (Reps.mono s r)
theorem RepF.mono (s : Same F F') : ∀ {v d}, RepF K C F v d → RepF K C F' v d
  | _, _, .nil => .nil
  | _, _, .cons h r => .cons (Rep.mono s h) (RepF.mono s r)
theorem RepK.mono (s : Same F F') : ∀ {v d}, RepK K C F v d → RepK K C F' v d
  | _, _, .nil => .nil
  | _, _, .cons h r => .cons (Rep.mono s h) (RepK.mono s r)
theorem RepT.mono (s : Same F F') : ∀ {v d}, RepT K C F v d → RepT K C F' v d
  | _, _, .nil => .nil
  | _, _, .cons h r => .cons (Rep.mono s h) (RepT.mono s r)
end
theorem Reps.length : ∀ {vs ds}, Reps K C F vs ds → vs.length = ds.length
  | _, _, .nil => rfl
  | _, _, .cons _ r => congrArg (· + 1) (Reps.length r)
theorem Reps.get : ∀ {vs ds} {i : Nat} {d}, Reps K C F vs ds → ds[i]? = some d → ∃ v, vs[i]? = some v ∧ Rep K C F v d
  | _, _, _, _, .nil, e => by simp at e
  | _, _, 0, _, .cons h _, e => by simp at e; subst e; exact ⟨_, rfl, h⟩
  | _, _, i + 1, _, .cons _ r, e => by
    obtain ⟨v, h1, h2⟩ := Reps.get (i := i) r (by simpa using e)
    exact ⟨v, by simpa using h1, h2⟩
theorem Reps.getV : ∀ {vs ds} {i : Nat} {v}, Reps K C F vs ds → vs[i]? = some v → ∃ d, ds[i]? = some d ∧ Rep K C F v d
  | _, _, _, _, .nil, e => by simp at e
  | _, _, 0, _, .cons h _, e => by simp at e; subst e; exact ⟨_, rfl, h⟩
  | _, _, i + 1, _, .cons _ r, e => by
    obtain ⟨v, h1, h2⟩ := Reps.getV (i := i) r (by simpa using e)
    exact ⟨v, by simpa using h1, h2⟩
theorem Reps.append : ∀ {vs ds ws es}, Reps K C F vs ds → Reps K C F ws es → Reps K C F (vs ++ ws) (ds ++ es)
  | _, _, _, _, .nil, r => r
  | _, _, _, _, .cons h r, s => .cons h (Reps.append r s)
theorem Reps.take : ∀ {vs ds} (n : Nat), Reps K C F vs ds → Reps K C F (vs.take n) (ds.take n)
  | _, _, 0, _ => .nil
  | _, _, _ + 1, .nil => .nil
  | _, _, n + 1, .cons h r => .cons h (Reps.take n r)
theorem Reps.drop : ∀ {vs ds} (n : Nat), Reps K C F vs ds → Reps K C F (vs.drop n) (ds.drop n)
  | _, _, 0, r => r
  | _, _, _ + 1, .nil => .nil
  | _, _, n + 1, .cons _ r => Reps.drop n r
theorem Reps.reverse {vs ds} (r : Reps K C F vs ds) : Reps K C F vs.reverse ds.reverse := by
  induction vs generalizing ds with
  | nil => cases r; exact .nil
  | cons v vs ih =>
    cases r with
    | cons h r =>
      rw [List.reverse_cons, List.reverse_cons]
      exact Reps.append (ih r) (.cons h .nil)
theorem Reps.ints : ∀ ns : List Int, Reps K C F (ns.map V.int) (ns.map D.int)
  | [] => .nil
  | _ :: r => .cons .int (Reps.ints r)
theorem Reps.strs : ∀ ns : List Str, Reps K C F (ns.map V.str) (ns.map D.str)
  | [] => .nil
  | _ :: r => .cons .str (Reps.strs r)
theorem Reps.ints_inv : ∀ {vs} {ns : List Int}, Reps K C F vs (ns.map D.int) → vs = ns.map V.int
  | _, [], .nil => rfl
  | _, _ :: r, .cons h t => by cases h; rw [Reps.ints_inv (ns := r) t]; rfl
theorem Reps.strs_inv : ∀ {vs} {ns : List Str}, Reps K C F vs (ns.map D.str) → vs = ns.map V.str
  | _, [], .nil => rfl
  | _, _ :: r, .cons h t => by cases h; rw [Reps.strs_inv (ns := r) t]; rfl
theorem Reps.bls_inv : ∀ {vs} {ns : List Bool}, Reps K C F vs (ns.map D.bl) → vs = ns.map V.bl
  | _, [], .nil => rfl
  | _, _ :: r, .cons h t => by cases h; rw [Reps.bls_inv (ns := r) t]; rfl
theorem RepF.lookup {n : Str} : ∀ {vs ds} {d}, RepF K C F vs ds → ds.lookup n = some d → ∃ v, vs.lookup n = some v ∧ Rep K C F v d
  | _, _, _, .nil, e => by cases e
  | _, _, d', .cons (n := m) (v := v) (d := d) h r, e => by
    rw [List.lookup_cons] at e
    rw [List.lookup_cons]
    cases q : n == m with
    | true => rw [q] at e; cases e; exact ⟨v, rfl, h⟩
    | false => rw [q] at e; exact RepF.lookup r e
theorem RepF.length : ∀ {vs ds}, RepF K C F vs ds → vs.length = ds.length
  | _, _, .nil => rfl
  | _, _, .cons _ r => congrArg (· + 1) (RepF.length r)
end

/-! ### ownership -/
inductive Ow where
  | fz | lst (e : Ow) | ins (fs : List Ow) | exn (a : Addr) (cls : Value) (dd : Option Addr)
  deriving Inhabited
section
variable (K : PySem.W.Frag) (C : Cid → Addr)
mutual
/-- v stands for d, owned as o: what is owned stands in H at the addresses A, the rest in F -/
inductive RO (F H : Hp) : Ow → V → D → List Addr → Prop
  | fz {v d} : Rep K C F v d → RO F H .fz v d []
  | lst {a vs ds e A} : H a = some (.lst vs) → ROs F H e vs ds A → RO F H (.lst e) (.ref a) (.lst ds) (a :: A)
  | ins {a c dx vfs fs os A} : H a = some (.ins (C c) dx vfs) → ROf F H os vfs fs A → RO F H (.ins os) (.ref a) (.obj c fs) (a :: A)
  | exn {a c d vfs fs} : F d = some (.xd vfs) → RepF K C F vfs fs → RO F H (.exn a (.ref (C c)) (some d)) (.ref a) (.exn c fs) []
inductive ROs (F H : Hp) : Ow → List V → List D → List Addr → Prop
  | nil {e} : ROs F H e [] [] []
  | cons {e v d vs ds A B} : RO F H e v d A → ROs F H e vs ds B → ROs F H e (v :: vs) (d :: ds) (A ++ B)
inductive ROf (F H : Hp) : List Ow → List (Str × V) → List (Str × D) → List Addr → Prop
  | nil : ROf F H [] [] [] []
  | cons {o os n v d vs ds A B} : RO F H o v d A → ROf F H os vs ds B → ROf F H (o :: os) ((n, v) :: vs) ((n, d) :: ds) (A ++ B)
end
end
section
variable {K : PySem.W.Frag} {C : Cid → Addr} {F F' G H H' : Hp}
mutual
/-- carried to another heap that agrees on what is owned -/
theorem RO.mono (s : Same F F') : ∀ {o v d A}, (∀ a ∈ A, ∀ u, H a = some u → H' a = some u) → RO K C F H o v d A → RO K C F' H' o v d A
  | _, _, _, _, _, .fz r => .fz (r.mono s)
  | _, _, _, _, k, .lst h r => .lst (k _ List.mem_cons_self _ h) (ROs.mono s (fun a ha => k a (List.mem_cons_of_mem _ ha)) r)
  | _, _, _, _, k, .ins h r => .ins (k _ List.mem_cons_self _ h) (ROf.mono s (fun a ha => k a (List.mem_cons_of_mem _ ha)) r)
  | _, _, _, _, _, .exn h r => .exn (s _ _ h) (r.mono s)
theorem ROs.mono (s : Same F F') : ∀ {o v d A}, (∀ a ∈ A, ∀ u, H a = some u → H' a = some u) → ROs K C F H o v d A → ROs K C F' H' o v d A
  | _, _, _, _, _, .nil => .nil
  | _, _, _, _, k, .cons h r => .cons (RO.mono s (fun a ha => k a (List.mem_append_left _ ha)) h) (ROs.mono s (fun a ha => k a (List.mem_append_right _ ha)) r)
theorem ROf.mono (s : Same F F') : ∀ {o v d A}, (∀ a ∈ A, ∀ u, H a = some u → H' a = some u) → ROf K C F H o v d A → ROf K C F' H' o v d A
  | _, _, _, _, _, .nil => .nil
  | _, _, _, _, k, .cons h r => .cons (RO.mono s (fun a ha => k a (List.mem_append_left _ ha)) h) (ROf.mono s (fun a ha => k a (List.mem_append_right _ ha)) r)
end
mutual
theorem RO.there : ∀ {o v d A}, RO K C F H o v d A → ∀ a ∈ A, ∃ u, H a = some u
  | _, _, _, _, .fz _, a, ha => by cases ha
  | _, _, _, _, .exn _ _, a, ha => by cases ha
  | _, _, _, _, .lst h r, a, ha => by
    rcases List.mem_cons.mp ha with rfl | ha
    · exact ⟨_, h⟩
    · exact ROs.there r a ha
  | _, _, _, _, .ins h r, a, ha => by
    rcases List.mem_cons.mp ha with rfl | ha
    · exact ⟨_, h⟩
    · exact ROf.there r a ha
theorem ROs.there : ∀ {o v d A}, ROs K C F H o v d A → ∀ a ∈ A, ∃ u, H a = some u
  | _, _, _, _, .nil, a, ha => by cases ha
  | _, _, _, _, .cons h r, a, ha => by
    rcases List.mem_append.mp ha with ha | ha
    · exact RO.there h a ha
    · exact ROs.there r a ha
theorem ROf.there : ∀ {o v d A}, ROf K C F H o v d A → ∀ a ∈ A, ∃ u, H a = some u
  | _, _, _, _, .nil, a, ha => by cases ha
  | _, _, _, _, .cons h r, a, ha => by
    rcases List.mem_append.mp ha with ha | ha
    · exact RO.there h a ha
    · exact ROf.there r a ha
end
theorem RO.fz_inv {v : V} {d : D} {A : List Addr} (h : RO K C F H .fz v d A) : Rep K C F v d := by
  cases h with
  | fz r => exact r
/-- no caught exception within -/
inductive NoX : Ow → Prop
  | fz : NoX .fz
  | lst {e} : NoX e → NoX (.lst e)
  | ins {os} : (∀ o ∈ os, NoX o) → NoX (.ins os)
mutual
/-- what was owned is frozen -/
theorem RO.freeze (s : Same F G) : ∀ {o v d A}, NoX o → (∀ a ∈ A, ∀ u, H a = some u → G a = some u) → RO K C F H o v d A → Rep K C G v d
  | _, _, _, _, _, _, .fz r => r.mono s
  | _, _, _, _, .lst n, k, .lst h r => .lst (k _ List.mem_cons_self _ h) (ROs.freeze s n (fun a ha => k a (List.mem_cons_of_mem _ ha)) r)
  | _, _, _, _, .ins n, k, .ins h r => .obj (k _ List.mem_cons_self _ h) (ROf.freeze s n (fun a ha => k a (List.mem_cons_of_mem _ ha)) r)
theorem ROs.freeze (s : Same F G) : ∀ {o v d A}, NoX o → (∀ a ∈ A, ∀ u, H a = some u → G a = some u) → ROs K C F H o v d A → Reps K C G v d
  | _, _, _, _, _, _, .nil => .nil
  | _, _, _, _, n, k, .cons h r => .cons (RO.freeze s n (fun a ha => k a (List.mem_append_left _ ha)) h) (ROs.freeze s n (fun a ha => k a (List.mem_append_right _ ha)) r)
theorem ROf.freeze (s : Same F G) : ∀ {os v d A}, (∀ o ∈ os, NoX o) → (∀ a ∈ A, ∀ u, H a = some u → G a = some u) → ROf K C F H os v d A → RepF K C G v d
  | _, _, _, _, _, _, .nil => .nil
  | _, _, _, _, n, k, .cons h r => .cons (RO.freeze s (n _ List.mem_cons_self) (fun a ha => k a (List.mem_append_left _ ha)) h) (ROf.freeze s (fun o ho => n o (List.mem_cons_of_mem _ ho)) (fun a ha => k a (List.mem_append_right _ ha)) r)
end
end

/-! ### states -/
section
variable (K : PySem.W.Frag) (C : Cid → Addr)
/-- the slots hold the data env, owned as ows, at the addresses As -/
structure Cur (F H : Hp) (σ : L2.St) (env : Dv) (ows : List Ow) (As : Nat → List Addr) : Prop where
  le : Same F H
  sl : ∀ (i : Nat) d, env[i]? = some (some d) → ∃ v, σ[i]? = some (some v) ∧ RO K C F H (ows.getD i .fz) v d (As i)
  nd : ∀ i, (As i).Nodup
  dj : ∀ i j a, a ∈ As i → a ∈ As j → i = j
  un : ∀ i a, a ∈ As i → F a = none
  th : ∀ i a, a ∈ As i → ∃ o, H a = some o
  ln : σ.length = env.length
/-- an exception's class, its own dict, by the frozen part -/
def XR (F : Hp) (x : Exn) (cls : Value) (dd : Option Addr) : Prop := ∃ d vfs, cls = .ref (C x.c) ∧ dd = some d ∧ F d = some (.xd vfs) ∧ RepF K C F vfs x.fs
end
/-- nothing that was tracked has changed; what is newly frozen is new -/
structure Pr (F H F' H' : Hp) : Prop where
  s : Same H H'
  le : Same F F'
  fh : Same F' H'
  nw : ∀ a o, F' a = some o → F a = some o ∨ H a = none
/-- what was tracked and not owned has not changed; what is newly frozen or owned is new or was owned -/
structure Fr (F H : Hp) (As : Nat → List Addr) (F' H' : Hp) (As' : Nat → List Addr) : Prop where
  le : Same F F'
  keep : ∀ a o, H a = some o → (∀ i, a ∉ As i) → H' a = some o
  fz : ∀ a o, F' a = some o → F a = some o ∨ H a = none ∨ ∃ i, a ∈ As i
  ow : ∀ i a, a ∈ As' i → H a = none ∨ ∃ j, a ∈ As j
section
variable {K : PySem.W.Frag} {C : Cid → Addr} {F F' F1 F2 G H H' H1 H2 : Hp} {σ : L2.St} {env : Dv} {ows ows' : List Ow} {As As' As1 As2 : Nat → List Addr}
theorem Pr.refl (h : Same F H) : Pr F H F H := ⟨Same.refl _, Same.refl _, h, fun _ _ e => .inl e⟩
theorem Pr.trans (p : Pr F H F1 H1) (q : Pr F1 H1 F2 H2) : Pr F H F2 H2 := by
  refine ⟨p.s.trans q.s, p.le.trans q.le, q.fh, fun a o e => ?_⟩
  rcases q.nw a o e with h | h
  · exact p.nw a o h
  · exact .inr (p.s.free h)
/-- a new object, frozen -/
theorem Pr.new {a : Addr} {o : HO} (h : Same F H) (ha : H a = none) : Pr F H (upd F a o) (upd H a o) := by
  have fa : F a = none := h.free ha
  refine ⟨fun b u e => ?_, fun b u e => ?_, fun b u e => ?_, fun b u e => ?_⟩
  · rw [upd_ne (ne_of_none e ha)]; exact e
  · rw [upd_ne (ne_of_none e fa)]; exact e
  · by_cases hb : b = a
    · subst hb; rw [upd_same] at e ⊢; exact e
    · rw [upd_ne hb] at e ⊢; exact h _ _ e
  · by_cases hb : b = a
    · subst hb; exact .inr ha
    · rw [upd_ne hb] at e; exact .inl e
/-- a new object, not frozen -/
theorem Pr.newO {a : Addr} {o : HO} (h : Same F H) (ha : H a = none) : Pr F H F (upd H a o) := by
  refine ⟨fun b u e => ?_, Same.refl _, fun b u e => ?_, fun b u e => .inl e⟩
  · rw [upd_ne (ne_of_none e ha)]; exact e
  · have e' := h _ _ e
    rw [upd_ne (ne_of_none e' ha)]; exact e'
theorem Fr.refl : Fr F H As F H As := ⟨Same.refl _, fun _ _ e _ => e, fun _ _ e => .inl e, fun i _ h => .inr ⟨i, h⟩⟩
theorem Fr.trans (p : Fr F H As F1 H1 As1) (q : Fr F1 H1 As1 F2 H2 As2) : Fr F H As F2 H2 As2 := by
  have back : ∀ a, (H1 a = none ∨ ∃ i, a ∈ As1 i) → H a = none ∨ ∃ i, a ∈ As i := fun a h => by
    rcases h with h | ⟨i, h⟩
    · cases e : H a with
      | none => exact .inl rfl
      | some o =>
        by_cases hn : ∃ i, a ∈ As i
        · exact .inr hn
        · have := p.keep a o e fun i hi => hn ⟨i, hi⟩
          rw [h] at this; cases this
    · exact p.ow i a h
  refine ⟨p.le.trans q.le, fun a o e hn => ?_, fun a o e => ?_, fun i a h => back a (q.ow i a h)⟩
  · refine q.keep a o (p.keep a o e hn) fun i hi => ?_
    rcases p.ow i a hi with h | ⟨j, h⟩
    · rw [e] at h; cases h
    · exact hn j h
  · rcases q.fz a o e with h | h
    · exact p.fz a o h
    · exact .inr (back a h)
theorem Pr.fr (p : Pr F H F' H') : Fr F H As F' H' As :=
  ⟨p.le, fun a o e _ => p.s a o e, fun a o e => (p.nw a o e).imp id .inl, fun i a h => .inr ⟨i, h⟩⟩
theorem Cur.pr (c : Cur K C F H σ env ows As) (p : Pr F H F' H') : Cur K C F' H' σ env ows As where
  le := p.fh
  sl := fun i d e => by
    obtain ⟨v, h1, h2⟩ := c.sl i d e
    exact ⟨v, h1, h2.mono p.le fun a _ u e => p.s a u e⟩
  nd := c.nd
  dj := c.dj
  un := fun i a h => by
    cases e : F' a with
    | none => rfl
    | some o =>
      obtain ⟨u, hu⟩ := c.th i a h
      rcases p.nw a o e with z | z
      · rw [c.un i a h] at z; cases z
      · rw [hu] at z; cases z
  th := fun i a h => let ⟨o, e⟩ := c.th i a h; ⟨o, p.s a o e⟩
  ln := c.ln
/-- fewer slots are owned -/
def Wk (ows ows' : List Ow) : Prop := ∀ i, ows'.getD i .fz = ows.getD i .fz ∨ (ows'.getD i .fz = .fz ∧ NoX (ows.getD i .fz))
theorem Wk.refl : Wk ows ows := fun _ => .inl rfl
theorem Cur.weak (c : Cur K C F H σ env ows As) (w : Wk ows ows') : ∃ F' As', Cur K C F' H σ env ows' As' ∧ Fr F H As F' H As' := by
  classical
  let fr : Nat → Prop := fun i => ows'.getD i .fz ≠ ows.getD i .fz
  let F' : Hp := fun a => if ∃ i, fr i ∧ a ∈ As i then H a else F a
  have hF : ∀ a o, F a = some o → F' a = some o := fun a o e => by
    show (if ∃ i, fr i ∧ a ∈ As i then H a else F a) = some o
    split
    · exact c.le a o e
    · exact e
  have hA : ∀ i a, fr i → a ∈ As i → F' a = H a := fun i a h1 h2 => if_pos ⟨i, h1, h2⟩
  refine ⟨F', fun i => if fr i then [] else As i, ⟨fun a o e => ?_, fun i d e => ?_, fun i => ?_, fun i j a hi hj => ?_, fun i a hi => ?_, fun i a hi => ?_, c.ln⟩, ⟨hF, fun a o e _ => e, fun a o e => ?_, fun i a hi => ?_⟩⟩
  · have e' : (if ∃ i, fr i ∧ a ∈ As i then H a else F a) = some o := e
    split at e'
    · exact e'
    · exact c.le a o e'
  · obtain ⟨v, h1, h2⟩ := c.sl i d e
    refine ⟨v, h1, ?_⟩
    by_cases hf : fr i
    · rw [if_pos hf]
      rcases w i with q | ⟨q, nx⟩
      · exact absurd q hf
      · rw [q]
        exact .fz (h2.freeze hF nx fun a ha u hu => by rw [hA i a hf ha]; exact hu)
    · rw [if_neg hf]
      have q : ows'.getD i .fz = ows.getD i .fz := Classical.not_not.mp hf
      rw [q]
      exact h2.mono hF fun a _ u e => e
  · split
    · exact List.nodup_nil
    · exact c.nd i
  · by_cases h1 : fr i
    · rw [if_pos h1] at hi; cases hi
    · by_cases h2 : fr j
      · rw [if_pos h2] at hj; cases hj
      · rw [if_neg h1] at hi; rw [if_neg h2] at hj; exact c.dj i j a hi hj
  · by_cases h1 : fr i
    · rw [if_pos h1] at hi; cases hi
    · rw [if_neg h1] at hi
      show (if ∃ i, fr i ∧ a ∈ As i then H a else F a) = none
      rw [if_neg]
      · exact c.un i a hi
      · rintro ⟨j, h2, hj⟩
        have := c.dj i j a hi hj
        subst this
        exact h1 h2
  · by_cases h1 : fr i
    · rw [if_pos h1] at hi; cases hi
    · rw [if_neg h1] at hi; exact c.th i a hi
  · have e' : (if ∃ i, fr i ∧ a ∈ As i then H a else F a) = some o := e
    split at e'
    · rename_i h
      obtain ⟨i, _, h⟩ := h
      exact .inr (.inr ⟨i, h⟩)
    · exact .inl e'
  · by_cases h1 : fr i
    · rw [if_pos h1] at hi; cases hi
    · rw [if_neg h1] at hi; exact .inr ⟨i, hi⟩
end
end DL

set_option maxHeartbeats 4000000
/-! The value layer: what a reading leaves, by data. -/
namespace DL
open PySem PySem.Spec PyProof.Rows L2

def R.bind {α β : Type} (r : R α) (k : α → R β) : R β := match r with
  | .ok a => k a
  | .exc x => .exc x
  | .bad => .bad
def big : Nat := 16777216
theorem big_eq : (sizeLine : Nat) = big := sizeLine_eq

/-- what follows a statement: go on, return, break, continue, an error; with the data of the slots -/
inductive Fl where
  | nx (e : Dv) | rt (d : D) (e : Dv) | bk (e : Dv) | ct (e : Dv) | ex (x : Exn) (e : Dv) | bad
abbrev GS := Dv → Fl
abbrev GT := Dv → R Bool
abbrev GA := Dv → R (List D)

section
variable (K : PySem.W.Frag) (C : Cid → Addr)
def PostE (W : WX) (ow : Ow) (σ : L2.St) (F H : Hp) (Q : VK) : R D → Prop
  | .ok d => ∀ v F' H' A, Pr F H F' H' → RO K C F' H' ow v d A → A.Nodup → (∀ a ∈ A, H a = none ∧ F' a = none) → Q v H'
  | .exc x => ∀ cls dd F' H', Pr F H F' H' → XR K C F' x cls dd → W cls dd σ H'
  | .bad => False
def PostT (W : WX) (σ : L2.St) (F H : Hp) (Q : Bool → Hp → Prop) : R Bool → Prop
  | .ok b => ∀ F' H', Pr F H F' H' → Q b H'
  | .exc x => ∀ cls dd F' H', Pr F H F' H' → XR K C F' x cls dd → W cls dd σ H'
  | .bad => False
def PostA (W : WX) (σ : L2.St) (F H : Hp) (Q : List V → Hp → Prop) : R (List D) → Prop
  | .ok ds => ∀ vs F' H', Pr F H F' H' → Reps K C F' vs ds → Q vs H'
  | .exc x => ∀ cls dd F' H', Pr F H F' H' → XR K C F' x cls dd → W cls dd σ H'
  | .bad => False
def tD (W : WX) (ows : List Ow) (ow : Ow) (g : GE) : TE := fun σ H Q => ∃ F env As, Cur K C F H σ env ows As ∧ PostE K C W ow σ F H Q (g env)
def tT (W : WX) (ows : List Ow) (g : GT) : TT := fun σ H Q => ∃ F env As, Cur K C F H σ env ows As ∧ PostT K C W σ F H Q (g env)
def tA (W : WX) (ows : List Ow) (g : GA) : TA := fun σ H Q => ∃ F env As, Cur K C F H σ env ows As ∧ PostA K C W σ F H Q (g env)
end
theorem _root_.L2.PE.monoD {X : Cx} {e : Expr} {t t' : TE} (h : PE X e t) (m : ∀ σ H Q, t' σ H Q → t σ H Q) : PE X e t' := ⟨fun pins s σ H Q I q => h.run pins s σ H Q I (m σ H Q q)⟩
theorem _root_.L2.PT.monoD {X : Cx} {e : Expr} {t t' : TT} (h : PT X e t) (m : ∀ σ H Q, t' σ H Q → t σ H Q) : PT X e t' := ⟨fun pins s σ H Q I q => h.run pins s σ H Q I (m σ H Q q)⟩
theorem _root_.L2.PW.monoD {X : Cx} {e : Expr} {t t' : TT} (h : PW X e t) (m : ∀ σ H Q, t' σ H Q → t σ H Q) : PW X e t' := ⟨fun wh pins s σ H Q I q => h.run wh pins s σ H Q I (m σ H Q q)⟩
theorem _root_.L2.PA.monoD {X : Cx} {e : List Expr} {t t' : TA} (h : PA X e t) (m : ∀ σ H Q, t' σ H Q → t σ H Q) : PA X e t' := ⟨fun pos pins s σ H Q I q => h.run pos pins s σ H Q I (m σ H Q q)⟩
theorem _root_.L2.PS.monoD {X : Cx} {e : Stmt} {t t' : TS} (h : PS X e t) (m : ∀ D σ H, t' D σ H → t D σ H) : PS X e t' := ⟨fun pins s σ H D I q => h.run pins s σ H D I (m D σ H q)⟩
theorem _root_.L2.PSs.monoD {X : Cx} {e : List Stmt} {t t' : TS} (h : PSs X e t) (m : ∀ D σ H, t' D σ H → t D σ H) : PSs X e t' := ⟨fun pins s σ H D I q => h.run pins s σ H D I (m D σ H q)⟩
theorem _root_.L2.PE.orD {X : Cx} {e : Expr} {t t' : TE} (h : PE X e t) (h' : PE X e t') : PE X e (fun σ H Q => t σ H Q ∨ t' σ H Q) :=
  ⟨fun pins s σ H Q I q => q.elim (h.run pins s σ H Q I) (h'.run pins s σ H Q I)⟩
theorem _root_.L2.PS.orD {X : Cx} {e : Stmt} {t t' : TS} (h : PS X e t) (h' : PS X e t') : PS X e (fun D σ H => t D σ H ∨ t' D σ H) :=
  ⟨fun pins s σ H D I q => q.elim (h.run pins s σ H D I) (h'.run pins s σ H D I)⟩
theorem _root_.L2.PI.orD {X : Cx} {tg e : Expr} {t t' : TI} (h : PI X tg e t) (h' : PI X tg e t') : PI X tg e (fun σ H Q => t σ H Q ∨ t' σ H Q) :=
  ⟨fun pins s σ H Q I q => q.elim (h.run pins s σ H Q I) (h'.run pins s σ H Q I)⟩

section
variable {K : PySem.W.Frag} {C : Cid → Addr} {F F' F1 H H' H1 : Hp} {σ : L2.St} {W : WX} {ow : Ow} {Q : VK}
theorem PostE.pr (p : Pr F H F1 H1) : ∀ {r : R D}, PostE K C W ow σ F H Q r → PostE K C W ow σ F1 H1 Q r
  | .ok _, h => fun v F' H' A q ro nd f => h v F' H' A (p.trans q) ro nd fun a ha => ⟨p.s.free (f a ha).1, (f a ha).2⟩
  | .exc _, h => fun cls dd F' H' q x => h cls dd F' H' (p.trans q) x
  | .bad, h => h
theorem PostT.pr {Q : Bool → Hp → Prop} (p : Pr F H F1 H1) : ∀ {r : R Bool}, PostT K C W σ F H Q r → PostT K C W σ F1 H1 Q r
  | .ok _, h => fun F' H' q => h F' H' (p.trans q)
  | .exc _, h => fun cls dd F' H' q x => h cls dd F' H' (p.trans q) x
  | .bad, h => h
theorem PostA.pr {Q : List V → Hp → Prop} (p : Pr F H F1 H1) : ∀ {r : R (List D)}, PostA K C W σ F H Q r → PostA K C W σ F1 H1 Q r
  | .ok _, h => fun vs F' H' q r => h vs F' H' (p.trans q) r
  | .exc _, h => fun cls dd F' H' q x => h cls dd F' H' (p.trans q) x
  | .bad, h => h
/-- the first part of a reading -/
theorem PostE.first {k : D → R D} {S : VK} : ∀ {r : R D}, PostE K C W ow σ F H Q (r.bind k) →
    (∀ v d F1 H1, Pr F H F1 H1 → Rep K C F1 v d → PostE K C W ow σ F1 H1 Q (k d) → S v H1) → PostE K C W .fz σ F H S r
  | .ok d, h, hk => fun v F' H' A p ro _ _ => hk v d F' H' p ro.fz_inv (h.pr p)
  | .exc _, h, _ => h
  | .bad, h, _ => h
theorem PostE.firstT {k : Bool → R D} {S : Bool → Hp → Prop} : ∀ {r : R Bool}, PostE K C W ow σ F H Q (r.bind k) →
    (∀ b F1 H1, Pr F H F1 H1 → PostE K C W ow σ F1 H1 Q (k b) → S b H1) → PostT K C W σ F H S r
  | .ok b, h, hk => fun F' H' p => hk b F' H' p (h.pr p)
  | .exc _, h, _ => h
  | .bad, h, _ => h
theorem PostE.firstA {k : List D → R D} {S : List V → Hp → Prop} : ∀ {r : R (List D)}, PostE K C W ow σ F H Q (r.bind k) →
    (∀ vs ds F1 H1, Pr F H F1 H1 → Reps K C F1 vs ds → PostE K C W ow σ F1 H1 Q (k ds) → S vs H1) → PostA K C W σ F H S r
  | .ok ds, h, hk => fun vs F' H' p r => hk vs ds F' H' p r (h.pr p)
  | .exc _, h, _ => h
  | .bad, h, _ => h
theorem PostT.first {Q : Bool → Hp → Prop} {k : D → R Bool} {S : VK} : ∀ {r : R D}, PostT K C W σ F H Q (r.bind k) →
    (∀ v d F1 H1, Pr F H F1 H1 → Rep K C F1 v d → PostT K C W σ F1 H1 Q (k d) → S v H1) → PostE K C W .fz σ F H S r
  | .ok d, h, hk => fun v F' H' A p ro _ _ => hk v d F' H' p ro.fz_inv (h.pr p)
  | .exc _, h, _ => h
  | .bad, h, _ => h
theorem PostT.firstT {Q : Bool → Hp → Prop} {k : Bool → R Bool} {S : Bool → Hp → Prop} : ∀ {r : R Bool}, PostT K C W σ F H Q (r.bind k) →
    (∀ b F1 H1, Pr F H F1 H1 → PostT K C W σ F1 H1 Q (k b) → S b H1) → PostT K C W σ F H S r
  | .ok b, h, hk => fun F' H' p => hk b F' H' p (h.pr p)
  | .exc _, h, _ => h
  | .bad, h, _ => h
theorem PostA.first {Q : List V → Hp → Prop} {k : D → R (List D)} {S : VK} : ∀ {r : R D}, PostA K C W σ F H Q (r.bind k) →
    (∀ v d F1 H1, Pr F H F1 H1 → Rep K C F1 v d → PostA K C W σ F1 H1 Q (k d) → S v H1) → PostE K C W .fz σ F H S r
  | .ok d, h, hk => fun v F' H' A p ro _ _ => hk v d F' H' p ro.fz_inv (h.pr p)
  | .exc _, h, _ => h
  | .bad, h, _ => h
theorem PostA.firstA {Q : List V → Hp → Prop} {k : List D → R (List D)} {S : List V → Hp → Prop} : ∀ {r : R (List D)}, PostA K C W σ F H Q (r.bind k) →
    (∀ vs ds F1 H1, Pr F H F1 H1 → Reps K C F1 vs ds → PostA K C W σ F1 H1 Q (k ds) → S vs H1) → PostA K C W σ F H S r
  | .ok ds, h, hk => fun vs F' H' p r => hk vs ds F' H' p r (h.pr p)
  | .exc _, h, _ => h
  | .bad, h, _ => h
/-- the end of a reading: a frozen value, nothing new -/
theorem PostE.here {d : D} {v : V} (le : Same F H) (r : Rep K C F v d) (h : PostE K C W .fz σ F H Q (.ok d)) : Q v H :=
  h v F H [] (Pr.refl le) (.fz r) List.nodup_nil fun _ z => nomatch z
/-- .. in a heap that has grown -/
theorem PostE.at_ {d : D} {v : V} (p : Pr F H F1 H1) (r : Rep K C F1 v d) (h : PostE K C W .fz σ F H Q (.ok d)) : Q v H1 :=
  h v F1 H1 [] p (.fz r) List.nodup_nil fun _ z => nomatch z
/-- .. a new list, tuple, frozen -/
theorem PostE.newT {ds : List D} {vs : List V} {a : Addr} (le : Same F H) (ha : H a = none) (r : Reps K C F vs ds) (h : PostE K C W .fz σ F H Q (.ok (.tup ds))) : Q (.ref a) (upd H a (.tup vs)) :=
  PostE.at_ (Pr.new le ha) (.tup (.inl upd_same) (r.mono (Pr.new (o := .tup vs) le ha).le)) h
/-- .. a new list, owned -/
theorem PostE.newL {ds : List D} {vs : List V} {a : Addr} (le : Same F H) (ha : H a = none) (r : Reps K C F vs ds) (h : PostE K C W (.lst .fz) σ F H Q (.ok (.lst ds))) : Q (.ref a) (upd H a (.lst vs)) := by
  have owned : ∀ {vs ds}, Reps K C F vs ds → ROs K C F (upd H a (.lst vs)) .fz vs ds [] := fun {vs ds} r => by
    have gen : ∀ {H : Hp} {vs ds}, Reps K C F vs ds → ROs K C F H .fz vs ds [] := by
      intro H vs
      induction vs with
      | nil => intro ds r; cases r; exact .nil
      | cons v vs ih =>
        intro ds r
        cases r with
        | cons h t => exact ROs.cons (A := []) (.fz h) (ih t)
    exact gen r
  refine h (.ref a) F _ [a] (Pr.newO le ha) (.lst upd_same (owned r)) (by simp) fun b hb => ?_
  have e : b = a := by simpa using hb
  subst e
  exact ⟨ha, le.free ha⟩
end

/-! ### expressions -/
section
variable {X : Cx} {C : Cid → Addr} {W : WX} {ows : List Ow} {ow : Ow}
def gVar (i : Nat) : GE := fun env => match env[i]? with | some (some d) => .ok d | _ => .bad
theorem d_var (i : Nat) {x : Str} {pos : Pos} (hN : X.N[i]? = some x) (hv : Vis X.env.scope x) (ho : ows.getD i .fz = .fz := by rfl) (hd : (x == ("__debug__" : Str)) = false := by decide) (hcd : (x == ("__classdict__" : Str)) = false := by decide) :
    PE X (.Name x pos) (tD X.K C W ows .fz (gVar i)) := (pe_var hN hv hd hcd).monoD fun σ H Q ⟨F, env, As, c, h⟩ => by
  show ∃ v, σ[i]? = some (some v) ∧ Q v H
  unfold gVar at h
  cases e : env[i]? with
  | none => rw [e] at h; exact h.elim
  | some o =>
    cases o with
    | none => rw [e] at h; exact h.elim
    | some d =>
      rw [e] at h
      obtain ⟨v, h1, h2⟩ := c.sl i d e
      rw [ho] at h2
      exact ⟨v, h1, PostE.here c.le h2.fz_inv h⟩
def gC (d : D) : GE := fun _ => .ok d
theorem d_const {e : Expr} {v : V} {d : D} (h : PE X e (tC v)) (r : ∀ F, Rep X.K C F v d) : PE X e (tD X.K C W ows .fz (gC d)) := h.monoD fun σ H Q ⟨F, env, As, c, h⟩ => PostE.here c.le (r F) h
theorem d_int {i j pos} : PE X (.Constant (.int i) j pos) (tD X.K C W ows .fz (gC (.int i))) := d_const pe_int fun _ => .int
theorem d_bl {b j pos} : PE X (.Constant (.bool b) j pos) (tD X.K C W ows .fz (gC (.bl b))) := d_const pe_bl fun _ => .bl
theorem d_non {j pos} : PE X (.Constant .none j pos) (tD X.K C W ows .fz (gC .non)) := d_const pe_non fun _ => .non
theorem d_str {x j pos} : PE X (.Constant (.str x) j pos) (tD X.K C W ows .fz (gC (.str x))) := d_const pe_str fun _ => .str
/-- a constant of the module -/
theorem d_glob {x : Str} {v : V} {u : Value} {d : D} {pos : Pos} (hg : Gl X x) (hm : X.mg x = some u) (rv : RelV v u) (r : ∀ F, Rep X.K C F v d) (hd : (x == ("__debug__" : Str)) = false := by decide) : PE X (.Name x pos) (tD X.K C W ows .fz (gC d)) :=
  d_const (pe_glob hg hm rv hd) r
/-- what is owned may be frozen -/
theorem d_frz {e : Expr} {g : GE} (n : NoX ow) (h : PE X e (tD X.K C W ows ow g)) : PE X e (tD X.K C W ows .fz g) := h.monoD fun σ H Q ⟨F, env, As, c, q⟩ => by
  refine ⟨F, env, As, c, ?_⟩
  revert q
  cases g env with
  | bad => exact id
  | exc x => exact id
  | ok d =>
    intro q v F' H' A p ro nd f
    classical
    let G : Hp := fun a => if a ∈ A then H' a else F' a
    have hG : Same F' G := fun a o e => by
      show (if a ∈ A then H' a else F' a) = some o
      split
      · exact p.fh a o e
      · exact e
    refine q v G H' [] ⟨p.s, p.le.trans hG, fun a o e => ?_, fun a o e => ?_⟩ (.fz (ro.freeze hG n fun a ha u hu => ?_)) List.nodup_nil fun _ z => nomatch z
    · have e' : (if a ∈ A then H' a else F' a) = some o := e
      split at e'
      · exact e'
      · exact p.fh a o e'
    · have e' : (if a ∈ A then H' a else F' a) = some o := e
      split at e'
      · rename_i ha; exact .inr (f a ha).1
      · exact p.nw a o e'
    · show (if a ∈ A then H' a else F' a) = some u
      rw [if_pos ha]; exact hu

def g1 (f : D → R D) (ga : GE) : GE := fun env => (ga env).bind f
def g2 (f : D → D → R D) (ga gb : GE) : GE := fun env => (ga env).bind fun a => (gb env).bind fun b => f a b
/-- an operator by data -/
def Op2 (K : PySem.W.Frag) (C : Cid → Addr) (r : R2) (ow : Ow) (f : D → D → R D) : Prop :=
  ∀ (W : WX) (σ : L2.St) (F H : Hp) (x y : V) (a b : D) (Q : VK), Same F H → Rep K C F x a → Rep K C F y b → PostE K C W ow σ F H Q (f a b) → r x y H Q
theorem tOp_of {r : R2} {f : D → D → R D} (h2 : Op2 X.K C r ow f) {ga gb : GE} (σ : L2.St) (H : Hp) (Q : VK) (h : tD X.K C W ows ow (g2 f ga gb) σ H Q) : tOp r (tD X.K C W ows .fz ga) (tD X.K C W ows .fz gb) σ H Q := by
  obtain ⟨F, env, As, c, h⟩ := h
  exact ⟨F, env, As, c, PostE.first h fun v d F1 H1 p r1 h1 => ⟨F1, env, As, c.pr p, PostE.first h1 fun v2 d2 F2 H2 p2 r2 h2' => h2 W σ F2 H2 v v2 d d2 Q p2.fh (r1.mono p2.le) r2 h2'⟩⟩
theorem d_op {a b : Expr} {pos : Pos} {op : Operator} {r : R2} {f : D → D → R D} {ga gb : GE} (ho : OpR X (binaryOp op) r) (h2 : Op2 X.K C r ow f) (ha : PE X a (tD X.K C W ows .fz ga)) (hb : PE X b (tD X.K C W ows .fz gb)) :
    PE X (.BinOp a op b pos) (tD X.K C W ows ow (g2 f ga gb)) := (pe_op ho ha hb).monoD fun σ H Q h => tOp_of h2 σ H Q h
theorem d_cmp {a b : Expr} {pos : Pos} {op : CmpOp} {r : R2} {f : D → D → R D} {ga gb : GE} (ho : OpR X (compareOp op) r) (h2 : Op2 X.K C r .fz f) (ha : PE X a (tD X.K C W ows .fz ga)) (hb : PE X b (tD X.K C W ows .fz gb)) (hm : behindInMarks op b = false) :
    PE X (.Compare a [op] [b] pos) (tD X.K C W ows .fz (g2 f ga gb)) := (pe_cmpR ho ha hb hm).monoD fun σ H Q h => tOp_of h2 σ H Q h

/-! ### tests -/
def isB : D → R Bool
  | .bl b => .ok b
  | _ => .bad
def gB (g : GE) : GT := fun env => (g env).bind isB
theorem tB_of {g : GE} {t : TE} (hm : ∀ σ H Q, tD X.K C W ows .fz g σ H Q → t σ H Q) (σ : L2.St) (H : Hp) (Q : Bool → Hp → Prop) (h : tT X.K C W ows (gB g) σ H Q) : tTest t σ H Q := by
  obtain ⟨F, env, As, c, h⟩ := h
  refine hm σ H _ ⟨F, env, As, c, PostT.first h fun v d F1 H1 p r h1 => ?_⟩
  cases r with
  | bl => exact ⟨_, rfl, h1 F1 H1 (Pr.refl p.fh)⟩
  | _ => exact h1.elim
theorem d_tcmp {a b : Expr} {pos : Pos} {op : CmpOp} {r : R2} {f : D → D → R D} {ga gb : GE} (ho : OpR X (compareOp op) r) (h2 : Op2 X.K C r .fz f) (ha : PE X a (tD X.K C W ows .fz ga)) (hb : PE X b (tD X.K C W ows .fz gb)) (hm : behindInMarks op b = false) :
    PT X (.Compare a [op] [b] pos) (tT X.K C W ows (gB (g2 f ga gb))) := (pt_cmpR ho ha hb hm).monoD fun σ H Q h => tB_of (fun σ H Q h => tOp_of h2 σ H Q h) σ H Q h
/-- an expression whose value is True or False, as a test -/
theorem d_tval {e : Expr} {g : GE} (h : PE X e (tD X.K C W ows .fz g)) (he : ∀ whole, isTrue e X.env whole = (do let v ← whole; standAt e.pos; holding [v] (truthy v)) := by intro _; rfl) : PT X e (tT X.K C W ows (gB g)) :=
  (pt_val h he).monoD fun σ H Q h => tB_of (t := tD X.K C W ows .fz g) (fun _ _ _ h => h) σ H Q h
def tAndG (a b : GT) : GT := fun env => (a env).bind fun c => match c with | true => b env | false => .ok false
def tOrG (a b : GT) : GT := fun env => (a env).bind fun c => match c with | true => .ok true | false => b env
def tNotG (a : GT) : GT := fun env => (a env).bind fun c => .ok (!c)
theorem d_not {a : Expr} {pos : Pos} {ga : GT} (ha : PT X a (tT X.K C W ows ga)) : PT X (.UnaryOp .Not a pos) (tT X.K C W ows (tNotG ga)) := (pt_not ha).monoD fun σ H Q ⟨F, env, As, c, h⟩ =>
  ⟨F, env, As, c, PostT.firstT h fun b F1 H1 p h1 => h1 F1 H1 (Pr.refl p.fh)⟩
theorem d_and1 {a : Expr} {pos : Pos} {ga : GT} (ha : PT X a (tT X.K C W ows ga)) : PW X (.BoolOp .And [a] pos) (tT X.K C W ows ga) := pw_and1 ha
theorem d_or1 {a : Expr} {pos : Pos} {ga : GT} (ha : PT X a (tT X.K C W ows ga)) : PW X (.BoolOp .Or [a] pos) (tT X.K C W ows ga) := pw_or1 ha
theorem d_and {a b : Expr} {rest : List Expr} {pos : Pos} {ga gb : GT} (ha : PT X a (tT X.K C W ows ga)) (hb : PW X (.BoolOp .And (b :: rest) pos) (tT X.K C W ows gb)) : PW X (.BoolOp .And (a :: b :: rest) pos) (tT X.K C W ows (tAndG ga gb)) :=
  (pw_and ha hb).monoD fun σ H Q ⟨F, env, As, c, h⟩ => ⟨F, env, As, c, PostT.firstT h fun b F1 H1 p h1 => by
    cases b with
    | true => exact ⟨F1, env, As, c.pr p, h1⟩
    | false => exact h1 F1 H1 (Pr.refl p.fh)⟩
theorem d_or {a b : Expr} {rest : List Expr} {pos : Pos} {ga gb : GT} (ha : PT X a (tT X.K C W ows ga)) (hb : PW X (.BoolOp .Or (b :: rest) pos) (tT X.K C W ows gb)) : PW X (.BoolOp .Or (a :: b :: rest) pos) (tT X.K C W ows (tOrG ga gb)) :=
  (pw_or ha hb).monoD fun σ H Q ⟨F, env, As, c, h⟩ => ⟨F, env, As, c, PostT.firstT h fun b F1 H1 p h1 => by
    cases b with
    | true => exact h1 F1 H1 (Pr.refl p.fh)
    | false => exact ⟨F1, env, As, c.pr p, h1⟩⟩
/-- .. as values -/
def gAndV (a b : GE) : GE := fun env => (a env).bind fun c => match c with | .bl true => b env | .bl false => .ok (.bl false) | _ => .bad
def gOrV (a b : GE) : GE := fun env => (a env).bind fun c => match c with | .bl true => .ok (.bl true) | .bl false => b env | _ => .bad
def gNotV (a : GE) : GE := fun env => (a env).bind fun c => match c with | .bl b => .ok (.bl (!b)) | _ => .bad
theorem d_vone {op} {a : Expr} {pos : Pos} {ga : GE} (ha : PE X a (tD X.K C W ows .fz ga)) : PE X (.BoolOp op [a] pos) (tD X.K C W ows .fz ga) := pe_one ha
theorem d_vand {a b : Expr} {rest : List Expr} {pos : Pos} {ga gb : GE} (ha : PE X a (tD X.K C W ows .fz ga)) (hb : PE X (.BoolOp .And (b :: rest) pos) (tD X.K C W ows .fz gb)) : PE X (.BoolOp .And (a :: b :: rest) pos) (tD X.K C W ows .fz (gAndV ga gb)) :=
  (pe_and ha hb).monoD fun σ H Q ⟨F, env, As, c, h⟩ => ⟨F, env, As, c, PostE.first h fun v d F1 H1 p r h1 => by
    cases r with
    | @bl b =>
      refine ⟨b, rfl, ?_⟩
      cases b with
      | true => exact ⟨F1, env, As, c.pr p, h1⟩
      | false => exact PostE.here p.fh .bl h1
    | _ => exact h1.elim⟩
theorem d_vor {a b : Expr} {rest : List Expr} {pos : Pos} {ga gb : GE} (ha : PE X a (tD X.K C W ows .fz ga)) (hb : PE X (.BoolOp .Or (b :: rest) pos) (tD X.K C W ows .fz gb)) : PE X (.BoolOp .Or (a :: b :: rest) pos) (tD X.K C W ows .fz (gOrV ga gb)) :=
  (pe_or ha hb).monoD fun σ H Q ⟨F, env, As, c, h⟩ => ⟨F, env, As, c, PostE.first h fun v d F1 H1 p r h1 => by
    cases r with
    | @bl b =>
      refine ⟨b, rfl, ?_⟩
      cases b with
      | true => exact PostE.here p.fh .bl h1
      | false => exact ⟨F1, env, As, c.pr p, h1⟩
    | _ => exact h1.elim⟩
theorem d_vnot {a : Expr} {pos : Pos} {ga : GE} (ha : PE X a (tD X.K C W ows .fz ga)) : PE X (.UnaryOp .Not a pos) (tD X.K C W ows .fz (gNotV ga)) :=
  (pe_not ha).monoD fun σ H Q ⟨F, env, As, c, h⟩ => ⟨F, env, As, c, PostE.first h fun v d F1 H1 p r h1 => by
    cases r with
    | @bl b => exact ⟨b, rfl, PostE.here p.fh .bl h1⟩
    | _ => exact h1.elim⟩
def gIf (t : GT) (a b : GE) : GE := fun env => (t env).bind fun c => match c with | true => a env | false => b env
theorem d_if {t a b : Expr} {pos : Pos} {gt : GT} {ga gb : GE} (ht : PT X t (tT X.K C W ows gt)) (ha : PE X a (tD X.K C W ows ow ga)) (hb : PE X b (tD X.K C W ows ow gb)) : PE X (.IfExp t a b pos) (tD X.K C W ows ow (gIf gt ga gb)) :=
  (pe_ifExp ht ha hb).monoD fun σ H Q ⟨F, env, As, c, h⟩ => ⟨F, env, As, c, PostE.firstT h fun b F1 H1 p h1 => by
    cases b with
    | true => exact ⟨F1, env, As, c.pr p, h1⟩
    | false => exact ⟨F1, env, As, c.pr p, h1⟩⟩

/-! ### arguments, displays -/
def aNil : GA := fun _ => .ok []
def aCons (g : GE) (t : GA) : GA := fun env => (g env).bind fun d => (t env).bind fun ds => .ok (d :: ds)
theorem d_anil : PA X [] (tA X.K C W ows aNil) := pa_nil.monoD fun σ H Q ⟨F, env, As, c, h⟩ => h [] F H (Pr.refl c.le) .nil
theorem d_acons {e : Expr} {es : List Expr} {g : GE} {t : GA} (he : PE X e (tD X.K C W ows .fz g)) (hr : PA X es (tA X.K C W ows t)) (hs : starEach (e :: es) X.env = (false, eval e X.env) :: starEach es X.env := by rfl) : PA X (e :: es) (tA X.K C W ows (aCons g t)) :=
  (pa_cons he hr hs).monoD fun σ H Q ⟨F, env, As, c, h⟩ => ⟨F, env, As, c, PostA.first h fun v d F1 H1 p r h1 => ⟨F1, env, As, c.pr p, PostA.firstA h1 fun vs ds F2 H2 p2 r2 h2 => h2 (v :: vs) F2 H2 (Pr.refl p2.fh) (.cons (r.mono p2.le) r2)⟩⟩
def szL (f : List D → D) (ds : List D) : R D := if ds.length ≤ big then .ok (f ds) else .bad
def gTup (t : GA) : GE := fun env => (t env).bind (szL .tup)
def gLst (t : GA) : GE := fun env => (t env).bind (szL .lst)
theorem d_tup {es : List Expr} {x1 : Nat} {pos : Pos} {t : GA} (h : PA X es (tA X.K C W ows t)) : PE X (.Tuple es x1 pos) (tD X.K C W ows .fz (gTup t)) := (pe_tup h).monoD fun σ H Q ⟨F, env, As, c, h⟩ =>
  ⟨F, env, As, c, PostE.firstA h fun vs ds F1 H1 p r h1 => by
    unfold szL at h1
    split at h1
    · rename_i hl
      exact ⟨by rw [r.length, big_eq]; exact hl, fun a ha => PostE.newT p.fh ha r h1⟩
    · exact h1.elim⟩
theorem d_lst {es : List Expr} {pos : Pos} {t : GA} (h : PA X es (tA X.K C W ows t)) : PE X (.List es pos) (tD X.K C W ows (.lst .fz) (gLst t)) := (pe_lst h).monoD fun σ H Q ⟨F, env, As, c, h⟩ =>
  ⟨F, env, As, c, PostE.firstA h fun vs ds F1 H1 p r h1 => by
    unfold szL at h1
    split at h1
    · rename_i hl
      exact ⟨by rw [r.length, big_eq]; exact hl, fun a ha => PostE.newL p.fh ha r h1⟩
    · exact h1.elim⟩
/-- a built-in called, by data -/
def CallD (K : PySem.W.Frag) (C : Cid → Addr) (r : List V → Hp → VK → Prop) (ow : Ow) (f : List D → R D) : Prop :=
  ∀ (W : WX) (σ : L2.St) (F H : Hp) (vs : List V) (ds : List D) (Q : VK), Same F H → Reps K C F vs ds → PostE K C W ow σ F H Q (f ds) → r vs H Q
def gCall (f : List D → R D) (t : GA) : GE := fun env => (t env).bind f
theorem tCB_of {r : List V → Hp → VK → Prop} {f : List D → R D} (h2 : CallD X.K C r ow f) {t : GA} (σ : L2.St) (H : Hp) (Q : VK) (h : tD X.K C W ows ow (gCall f t) σ H Q) : tCB r (tA X.K C W ows t) σ H Q := by
  obtain ⟨F, env, As, c, h⟩ := h
  exact ⟨F, env, As, c, PostE.firstA h fun vs ds F1 H1 p r1 h1 => h2 W σ F1 H1 vs ds Q p.fh r1 h1⟩
theorem d_callB {id : String} {r : List V → Hp → VK → Prop} {f : List D → R D} {x : Str} {p pos : Pos} {e : Expr} {es : List Expr} {t : GA} (hc : CallR X (.builtin id) r) (h2 : CallD X.K C r ow f) (hg : Gl X x) (hm : X.mg x = none) (hv : bootBuiltins x = some (.builtin id)) (ha : PA X (e :: es) (tA X.K C W ows t))
    (hn : x ≠ "__name__" := by decide) (hdb : (x == ("__debug__" : Str)) = false := by decide) (he : starEach (e :: es) X.env = (false, eval e X.env) :: starEach es X.env := by rfl) (hpl : (backTo pos (starEach es X.env)).any (·.1) = false := by rfl) :
    PE X (.Call (.Name x p) (e :: es) [] pos) (tD X.K C W ows ow (gCall f t)) := (pe_callB hc hg hm hv ha hn hdb he hpl).monoD fun σ H Q h => tCB_of h2 σ H Q h
theorem d_callTy {T : String} {r : List V → Hp → VK → Prop} {f : List D → R D} {x : Str} {p pos : Pos} {e : Expr} {es : List Expr} {t : GA} (hc : CallR X (.type T) r) (h2 : CallD X.K C r ow f) (hg : Gl X x) (hm : X.mg x = none) (hv : bootBuiltins x = some (.type T)) (ha : PA X (e :: es) (tA X.K C W ows t))
    (hn : x ≠ "__name__" := by decide) (hdb : (x == ("__debug__" : Str)) = false := by decide) (he : starEach (e :: es) X.env = (false, eval e X.env) :: starEach es X.env := by rfl) (hpl : (backTo pos (starEach es X.env)).any (·.1) = false := by rfl) :
    PE X (.Call (.Name x p) (e :: es) [] pos) (tD X.K C W ows ow (gCall f t)) := (pe_callTy hc hg hm hv ha hn hdb he hpl).monoD fun σ H Q h => tCB_of h2 σ H Q h
end
end DL

set_option maxHeartbeats 4000000
/-! The value layer: statements, calls of defs, loops. -/
namespace DL
open PySem PySem.Spec PyProof.Rows L2

structure OwS where
  pre : List Ow
  post : List Ow
  ret : List Ow
  ex : List Ow
  bk : List Ow
  ct : List Ow
  rw : Ow
/-- fewer are owned, slot by slot -/
inductive WkI : List Ow → List Ow → Prop
  | nil : WkI [] []
  | same {o os os'} : WkI os os' → WkI (o :: os) (o :: os')
  | frz {o os os'} : NoX o → WkI os os' → WkI (o :: os) (.fz :: os')
theorem WkI.refl : ∀ {os}, WkI os os
  | [] => .nil
  | _ :: _ => .same WkI.refl
theorem WkI.wk : ∀ {os os'}, WkI os os' → Wk os os'
  | _, _, .nil, _ => .inl rfl
  | _, _, .same h, 0 => .inl rfl
  | _, _, .same h, i + 1 => by simpa using h.wk i
  | _, _, .frz n h, 0 => .inr ⟨rfl, n⟩
  | _, _, .frz n h, i + 1 => by simpa using h.wk i

section
variable (K : PySem.W.Frag) (C : Cid → Addr)
def PostS (W : WX) (o : OwS) (F H : Hp) (As : Nat → List Addr) (D : Ends) : Fl → Prop
  | .nx env => ∀ σ' F' H' As', Fr F H As F' H' As' → Cur K C F' H' σ' env o.post As' → D.nx σ' H'
  | .bk env => ∀ σ' F' H' As', Fr F H As F' H' As' → Cur K C F' H' σ' env o.bk As' → D.bk σ' H'
  | .ct env => ∀ σ' F' H' As', Fr F H As F' H' As' → Cur K C F' H' σ' env o.ct As' → D.ct σ' H'
  | .rt d env => ∀ v σ' F' H' As' A, Fr F H As F' H' As' → Cur K C F' H' σ' env o.ret As' → RO K C F' H' o.rw v d A → A.Nodup → (∀ a ∈ A, (H a = none ∨ ∃ i, a ∈ As i) ∧ F' a = none ∧ ∀ i, a ∉ As' i) → D.rt v H'
  | .ex x env => ∀ cls dd σ' F' H' As', Fr F H As F' H' As' → Cur K C F' H' σ' env o.ex As' → XR K C F' x cls dd → W cls dd σ' H'
  | .bad => False
def tS (W : WX) (o : OwS) (g : GS) : TS := fun D σ H => ∃ F env As, Cur K C F H σ env o.pre As ∧ PostS K C W o F H As D (g env)
end
section
variable {K : PySem.W.Frag} {C : Cid → Addr} {F F' F1 H H' H1 : Hp} {σ : L2.St} {W : WX} {ow : Ow} {Q : VK} {o : OwS} {As As' As1 : Nat → List Addr} {D : Ends} {env : Dv} {ows : List Ow}
theorem Fr.back (p : Fr F H As F1 H1 As1) {a : Addr} (h : H1 a = none ∨ ∃ i, a ∈ As1 i) : H a = none ∨ ∃ i, a ∈ As i := by
  rcases h with h | ⟨i, h⟩
  · cases e : H a with
    | none => exact .inl rfl
    | some o =>
      by_cases hn : ∃ i, a ∈ As i
      · exact .inr hn
      · have := p.keep a o e fun i hi => hn ⟨i, hi⟩
        rw [h] at this; cases this
  · exact p.ow i a h
theorem PostS.fr (p : Fr F H As F1 H1 As1) : ∀ {r : Fl}, PostS K C W o F H As D r → PostS K C W o F1 H1 As1 D r
  | .nx _, h => fun σ' F' H' As' q c => h σ' F' H' As' (p.trans q) c
  | .bk _, h => fun σ' F' H' As' q c => h σ' F' H' As' (p.trans q) c
  | .ct _, h => fun σ' F' H' As' q c => h σ' F' H' As' (p.trans q) c
  | .rt _ _, h => fun v σ' F' H' As' A q c r nd f => h v σ' F' H' As' A (p.trans q) c r nd fun a ha => ⟨p.back (f a ha).1, (f a ha).2⟩
  | .ex _ _, h => fun cls dd σ' F' H' As' q c x => h cls dd σ' F' H' As' (p.trans q) c x
  | .bad, h => h
/-- a slot is given a value -/
theorem Cur.set {v : V} {d : DL.D} {A : List Addr} {i : Nat} (c : Cur K C F H σ env ows As) (r : RO K C F H ow v d A) (nd : A.Nodup) (f : ∀ a ∈ A, F a = none ∧ ∀ j, j ≠ i → a ∉ As j) (hw : (ows.set i ow).getD i .fz = ow) :
    Cur K C F H (σ.set i (some v)) (env.set i (some d)) (ows.set i ow) (fun j => if j = i then A else As j) where
  le := c.le
  sl := fun j e h => by
    by_cases hj : j = i
    · subst hj
      have hl : j < env.length := by
        cases Nat.lt_or_ge j env.length with
        | inl h => exact h
        | inr q => rw [List.getElem?_eq_none (by simpa using q)] at h; cases h
      rw [List.getElem?_set_self hl] at h
      cases h
      refine ⟨v, List.getElem?_set_self (by rw [c.ln]; exact hl), ?_⟩
      rw [if_pos rfl, hw]; exact r
    · rw [List.getElem?_set_ne (Ne.symm hj)] at h
      obtain ⟨u, h1, h2⟩ := c.sl j e h
      refine ⟨u, by rw [List.getElem?_set_ne (Ne.symm hj)]; exact h1, ?_⟩
      rw [if_neg hj]
      have q : (ows.set i ow).getD j .fz = ows.getD j .fz := by
        rw [List.getD_eq_getElem?_getD, List.getD_eq_getElem?_getD, List.getElem?_set_ne (Ne.symm hj)]
      rw [q]; exact h2
  nd := fun j => by
    split
    · exact nd
    · exact c.nd j
  dj := fun j k a hj hk => by
    by_cases h1 : j = i
    · by_cases h2 : k = i
      · rw [h1, h2]
      · rw [if_pos h1] at hj; rw [if_neg h2] at hk; exact absurd hk ((f a hj).2 k h2)
    · by_cases h2 : k = i
      · rw [if_neg h1] at hj; rw [if_pos h2] at hk; exact absurd hj ((f a hk).2 j h1)
      · rw [if_neg h1] at hj; rw [if_neg h2] at hk; exact c.dj j k a hj hk
  un := fun j a h => by
    by_cases h1 : j = i
    · rw [if_pos h1] at h; exact (f a h).1
    · rw [if_neg h1] at h; exact c.un j a h
  th := fun j a h => by
    by_cases h1 : j = i
    · rw [if_pos h1] at h; exact r.there a h
    · rw [if_neg h1] at h; exact c.th j a h
  ln := by simpa using c.ln
/-- a slot is given up -/
theorem Cur.frameSet {A : List Addr} {i : Nat} (f : ∀ a ∈ A, H a = none ∨ ∃ j, a ∈ As j) : Fr F H As F H (fun j => if j = i then A else As j) :=
  ⟨Same.refl _, fun _ _ e _ => e, fun _ _ e => .inl e, fun j a h => by
    by_cases h1 : j = i
    · rw [if_pos h1] at h; exact f a h
    · rw [if_neg h1] at h; exact .inr ⟨j, h⟩⟩
/-- an error that an expression raised -/
theorem PostS.exc {x : Exn} (c : Cur K C F H σ env ows As) (wk : WkI ows o.ex) (h : PostS K C W o F H As D (.ex x env)) : ∀ cls dd F' H', Pr F H F' H' → XR K C F' x cls dd → W cls dd σ H' := fun cls dd F' H' p xr => by
  obtain ⟨F2, As2, c2, f2⟩ := (c.pr p).weak wk.wk
  refine h cls dd σ F2 H' As2 (p.fr.trans f2) c2 ?_
  obtain ⟨d, vfs, h1, h2, h3, h4⟩ := xr
  exact ⟨d, vfs, h1, h2, f2.le _ _ h3, h4.mono f2.le⟩
end

section
variable {X : Cx} {C : Cid → Addr} {W : WX} {ows ows' : List Ow} {ow : Ow} {o : OwS}
/-! ### blocks -/
def sNil : GS := fun env => .nx env
def sSeq (a b : GS) : GS := fun env => match a env with
  | .nx env' => b env'
  | r => r
theorem s_nil (hp : o.pre = o.post) : PSs X [] (tS X.K C W o sNil) := pss_nil.monoD fun D σ H ⟨F, env, As, c, h⟩ => h σ F H As Fr.refl (hp ▸ c)
theorem s_one {s : Stmt} {g : GS} (h : PS X s (tS X.K C W o g)) : PSs X [s] (tS X.K C W o g) := pss_one h
theorem s_cons {s : Stmt} {r : List Stmt} {ga gb : GS} (mid : List Ow) (h : PS X s (tS X.K C W { o with post := mid } ga)) (hr : PSs X r (tS X.K C W { o with pre := mid } gb)) : PSs X (s :: r) (tS X.K C W o (sSeq ga gb)) :=
  (pss_cons h hr).monoD fun D σ H ⟨F, env, As, c, q⟩ => by
    refine ⟨F, env, As, c, ?_⟩
    have q : PostS X.K C W o F H As D (match ga env with | .nx env' => gb env' | r => r) := q
    cases e : ga env with
    | nx env1 =>
      rw [e] at q
      exact fun σ' F' H' As' f c' => ⟨F', env1, As', c', PostS.fr f q⟩
    | bk _ => rw [e] at q; exact q
    | ct _ => rw [e] at q; exact q
    | rt _ _ => rw [e] at q; exact q
    | ex _ _ => rw [e] at q; exact q
    | bad => rw [e] at q; exact q
/-- slots are frozen ahead -/
theorem s_wk {s : Stmt} {g : GS} (wk : WkI o.pre ows') (h : PS X s (tS X.K C W { o with pre := ows' } g)) : PS X s (tS X.K C W o g) := h.monoD fun D σ H ⟨F, env, As, c, q⟩ => by
  obtain ⟨F2, As2, c2, f2⟩ := c.weak wk.wk
  exact ⟨F2, env, As2, c2, PostS.fr f2 q⟩
theorem ss_wk {s : List Stmt} {g : GS} (wk : WkI o.pre ows') (h : PSs X s (tS X.K C W { o with pre := ows' } g)) : PSs X s (tS X.K C W o g) := h.monoD fun D σ H ⟨F, env, As, c, q⟩ => by
  obtain ⟨F2, As2, c2, f2⟩ := c.weak wk.wk
  exact ⟨F2, env, As2, c2, PostS.fr f2 q⟩
/-- .. behind -/
theorem ss_wkPost {s : List Stmt} {g : GS} (mid : List Ow) (wk : WkI mid o.post) (h : PSs X s (tS X.K C W { o with post := mid } g)) : PSs X s (tS X.K C W o g) := h.monoD fun D σ H ⟨F, env, As, c, q⟩ => by
  refine ⟨F, env, As, c, ?_⟩
  revert q
  cases g env with
  | nx e =>
    intro q σ' F' H' As' f c'
    obtain ⟨F2, As2, c2, f2⟩ := c'.weak wk.wk
    exact q σ' F2 H' As2 (f.trans f2) c2
  | bk _ => exact id
  | ct _ => exact id
  | rt _ _ => exact id
  | ex _ _ => exact id
  | bad => exact id
theorem s_pass {pos : Pos} (hp : o.pre = o.post) : PS X (.Pass pos) (tS X.K C W o sNil) := ps_pass.monoD fun D σ H ⟨F, env, As, c, h⟩ => h σ F H As Fr.refl (hp ▸ c)
def sBk : GS := fun env => .bk env
def sCt : GS := fun env => .ct env
theorem s_break {pos : Pos} (wk : WkI o.pre o.bk) : PS X (.Break pos) (tS X.K C W o sBk) := ps_break.monoD fun D σ H ⟨F, env, As, c, h⟩ => by
  obtain ⟨F2, As2, c2, f2⟩ := c.weak wk.wk
  exact h σ F2 H As2 f2 c2
theorem s_continue {pos : Pos} (wk : WkI o.pre o.ct) : PS X (.Continue pos) (tS X.K C W o sCt) := ps_continue.monoD fun D σ H ⟨F, env, As, c, h⟩ => by
  obtain ⟨F2, As2, c2, f2⟩ := c.weak wk.wk
  exact h σ F2 H As2 f2 c2
/-! ### return, assignment -/
def sRet (g : GE) : GS := fun env => match g env with
  | .ok d => .rt d env
  | .exc x => .ex x env
  | .bad => .bad
theorem s_ret {e : Expr} {pos : Pos} {g : GE} (h : PE X e (tD X.K C W o.pre o.rw g)) (wr : WkI o.pre o.ret) (wx : WkI o.pre o.ex) : PS X (.Return (some e) pos) (tS X.K C W o (sRet g)) := (ps_ret h).monoD fun D σ H ⟨F, env, As, c, q⟩ => by
  refine ⟨F, env, As, c, ?_⟩
  have q : PostS X.K C W o F H As D (match g env with | .ok d => .rt d env | .exc x => .ex x env | .bad => .bad) := q
  cases e : g env with
  | ok d =>
    rw [e] at q
    intro v F' H' A p r nd f
    obtain ⟨F2, As2, c2, f2⟩ := (c.pr p).weak wr.wk
    have own : ∀ a ∈ A, ∀ i, a ∉ As i := fun a ha i hi => by
      obtain ⟨u, hu⟩ := c.th i a hi
      rw [(f a ha).1] at hu; cases hu
    have own2 : ∀ a ∈ A, ∀ i, a ∉ As2 i := fun a ha i hi => by
      obtain ⟨u, hu⟩ := r.there a ha
      rcases f2.ow i a hi with z | ⟨j, z⟩
      · rw [hu] at z; cases z
      · exact own a ha j z
    refine q v σ F2 H' As2 A (p.fr.trans f2) c2 (r.mono f2.le fun a _ u e => e) nd fun a ha => ⟨.inl (f a ha).1, ?_, own2 a ha⟩
    cases z : F2 a with
    | none => rfl
    | some u =>
      obtain ⟨u', hu⟩ := r.there a ha
      rcases f2.fz a u z with y | y | ⟨j, y⟩
      · rw [(f a ha).2] at y; cases y
      · rw [hu] at y; cases y
      · exact absurd y (own a ha j)
  | exc x => rw [e] at q; exact q.exc c wx
  | bad => rw [e] at q; exact q
def sRetN : GS := fun env => .rt .non env
theorem s_retN {pos : Pos} (wr : WkI o.pre o.ret) (hr : o.rw = .fz) : PS X (.Return none pos) (tS X.K C W o sRetN) := ps_retN.monoD fun D σ H ⟨F, env, As, c, q⟩ => by
  obtain ⟨F2, As2, c2, f2⟩ := c.weak wr.wk
  exact q .non σ F2 H As2 [] f2 c2 (hr ▸ .fz .non) List.nodup_nil fun _ z => nomatch z
def sSet (i : Nat) (g : GE) : GS := fun env => match g env with
  | .ok d => .nx (env.set i (some d))
  | .exc x => .ex x env
  | .bad => .bad
theorem set_of {i : Nat} {g : GE} (wx : WkI o.pre o.ex) (hpost : o.post = o.pre.set i ow) (hw : (o.pre.set i ow).getD i .fz = ow) (D : Ends) (σ : L2.St) (H : Hp) (h : tS X.K C W o (sSet i g) D σ H) : tAsg (tD X.K C W o.pre ow g) (gName i) D σ H := by
  obtain ⟨F, env, As, c, q⟩ := h
  refine ⟨F, env, As, c, ?_⟩
  have q : PostS X.K C W o F H As D (match g env with | .ok d => .nx (env.set i (some d)) | .exc x => .ex x env | .bad => .bad) := q
  cases e : g env with
  | ok d =>
    rw [e] at q
    intro v F' H' A p r nd f
    have c1 := c.pr p
    have own : ∀ a ∈ A, ∀ j, j ≠ i → a ∉ As j := fun a ha j _ hj => by
      obtain ⟨u, hu⟩ := c.th j a hj
      rw [(f a ha).1] at hu; cases hu
    have c2 := c1.set (i := i) r nd (fun a ha => ⟨(f a ha).2, own a ha⟩) hw
    rw [← hpost] at c2
    refine q _ F' H' _ ⟨p.le, fun a u e _ => p.s a u e, fun a u e => (p.nw a u e).imp id .inl, fun j a h => ?_⟩ c2
    by_cases h1 : j = i
    · rw [if_pos h1] at h; exact .inl (f a h).1
    · rw [if_neg h1] at h; exact .inr ⟨j, h⟩
  | exc x => rw [e] at q; exact q.exc c wx
  | bad => rw [e] at q; exact q
theorem s_set (i : Nat) {x : Str} {e : Expr} {pos pos' : Pos} {g : GE} (ow : Ow) (hN : X.N.Nodup) (hi : X.N[i]? = some x) (hx : Loc X.env.scope x) (h : PE X e (tD X.K C W o.pre ow g)) (wx : WkI o.pre o.ex) (hpost : o.post = o.pre.set i ow := by rfl) (hw : (o.pre.set i ow).getD i .fz = ow := by rfl)
    (hs : swapsWith e (some (.Name x pos')) pos.line X.env = pure false := by rfl) (hf : X.fn x = true ∨ X.env.scope.names.lookup x = some .local := by first | exact .inl rfl | exact .inr rfl | assumption) : PS X (.Assign [.Name x pos'] e pos) (tS X.K C W o (sSet i g)) :=
  (ps_set hN hi hx h hs hf).monoD fun D σ H q => set_of wx hpost hw D σ H q
def sDrop (g : GE) : GS := fun env => match g env with
  | .ok _ => .nx env
  | .exc x => .ex x env
  | .bad => .bad
theorem s_expr {e : Expr} {pos : Pos} {g : GE} (h : PE X e (tD X.K C W o.pre ow g)) (wx : WkI o.pre o.ex) (hp : o.post = o.pre := by rfl) (hs : swapsWith e none pos.line X.env = pure false := by rfl) : PS X (.Expr e pos) (tS X.K C W o (sDrop g)) := (ps_expr h hs).monoD fun D σ H ⟨F, env, As, c, q⟩ => by
  refine ⟨F, env, As, c, ?_⟩
  have q : PostS X.K C W o F H As D (match g env with | .ok d => .nx env | .exc x => .ex x env | .bad => .bad) := q
  cases e : g env with
  | ok d =>
    rw [e] at q
    exact fun v F' H' A p r nd f => q σ F' H' As p.fr (hp ▸ c.pr p)
  | exc x => rw [e] at q; exact q.exc c wx
  | bad => rw [e] at q; exact q
/-! ### if -/
def sIf (t : GT) (a b : GS) : GS := fun env => match t env with
  | .ok true => a env
  | .ok false => b env
  | .exc x => .ex x env
  | .bad => .bad
theorem s_if {c : Expr} {a b : List Stmt} {pos : Pos} {gt : GT} {ga gb : GS} (hc : PT X c (tT X.K C W o.pre gt)) (wx : WkI o.pre o.ex) (ha : PSs X a (tS X.K C W o ga)) (hb : PSs X b (tS X.K C W o gb)) : PS X (.If c a b pos) (tS X.K C W o (sIf gt ga gb)) :=
  (ps_if hc ha hb).monoD fun D σ H ⟨F, env, As, c, q⟩ => by
    refine ⟨F, env, As, c, ?_⟩
    have q : PostS X.K C W o F H As D (match gt env with | .ok true => ga env | .ok false => gb env | .exc x => .ex x env | .bad => .bad) := q
    cases e : gt env with
    | ok b =>
      rw [e] at q
      intro F' H' p
      cases b with
      | true => exact ⟨F', env, As, c.pr p, PostS.fr p.fr q⟩
      | false => exact ⟨F', env, As, c.pr p, PostS.fr p.fr q⟩
    | exc x => rw [e] at q; exact q.exc c wx
    | bad => rw [e] at q; exact q

/-! ### calls of defs -/
/-- f by data: arguments frozen, the result owned as rw -/
def spD (K : PySem.W.Frag) (C : Cid → Addr) (f : List DL.D → R DL.D) (n : Nat) (rw : Ow) : Sp := fun vs H Q E => ∃ F ds, Same F H ∧ Reps K C F vs ds ∧ vs.length = n ∧ PostE K C (fun c d _ H' => E c d H') rw [] F H Q (f ds)
theorem PostE.toW {K : PySem.W.Frag} {F H : Hp} {σ σ' : L2.St} {Q : VK} {W W' : WX} (h : ∀ c d H', W c d σ H' → W' c d σ' H') : ∀ {r : R DL.D}, PostE K C W ow σ F H Q r → PostE K C W' ow σ' F H Q r
  | .ok _, q => q
  | .exc _, q => fun cls dd F' H' p x => h _ _ _ (q cls dd F' H' p x)
  | .bad, q => q
/-- the function of a body -/
def runF (N n : Nat) (g : GS) : List DL.D → R DL.D := fun ds => match decide (ds.length = n) with
  | true => (match g (ds.map some ++ List.replicate (N - ds.length) none) with
    | .rt d _ => .ok d
    | .nx _ => .ok .non
    | .ex x _ => .exc x
    | _ => .bad)
  | false => .bad
theorem PostE.lenOf {K : PySem.W.Frag} {F H : Hp} {σ : L2.St} {Q : VK} {N n : Nat} {g : GS} {ds : List DL.D} (h : PostE K C W ow σ F H Q (runF N n g ds)) : ds.length = n := by
  unfold runF at h
  cases e : decide (ds.length = n) with
  | true => exact of_decide_eq_true e
  | false => rw [e] at h; exact h.elim
theorem d_call {k : Nat} {f : Addr} {fd : FuncData} {ps : List Str} {x : Str} {p pos : Pos} {e : Expr} {es : List Expr} {t : GA} {N n : Nat} {g : GS} {F : List DL.D → R DL.D} (hF : F = runF N n g) (Fk : FnOk X.prog X.w X.K X.mg X.base (L2.CX X.prog X.w) k f fd ps (spD X.K C F n ow)) (hr : Room k X.A) (hg : Gl X x) (hm : X.mg x = some (.ref f)) (hk : PySem.W.keepIn X.K (.ref f) = true) (hb : Binds X.K fd ps []) (tk : Takes X W)
    (ha : PA X (e :: es) (tA X.K C W ows t)) (hdb : (x == ("__debug__" : Str)) = false := by decide) (he : starEach (e :: es) X.env = (false, eval e X.env) :: starEach es X.env := by rfl) (hpl : (backTo pos (starEach es X.env)).any (·.1) = false := by rfl) :
    PE X (.Call (.Name x p) (e :: es) [] pos) (tD X.K C W ows ow (gCall F t)) :=
  (pe_callS Fk hr hg hm hk hb (fun σ => passAt tk σ) ha hdb he hpl).monoD fun σ H Q ⟨F1, env, As, c, h⟩ => ⟨F1, env, As, c, PostE.firstA h fun vs ds F2 H2 p2 r2 h2 => by
    refine ⟨F2, ds, p2.fh, r2, ?_, PostE.toW (fun _ _ _ z => z) h2⟩
    rw [hF] at h2
    rw [r2.length]; exact h2.lenOf⟩
end

/-! ### a def keeps its promise -/
section
variable {P : Program} {w : World} {K : PySem.W.Frag} {mg : Str → Option Value} {base : Heap} {C : Cid → Addr}
theorem fn_D {x qual : Str} {st : Stmt} {f : Addr} {fd : FuncData} {N ps : List Str} {k : Nat} {g : GS} {rw : Ow} {ret ex : List Ow} (F : Fun K x qual st f fd) (S : FnScope N ps (defScope st)) (ow0 : List Ow) (how : ∀ i, ow0.getD i .fz = .fz)
    (hb : ∀ (cdv : Value) (A : Around) (outer : List Env) (s : Shared) (H : Hp) (E : XK), Room k (A.deeper (envOfC qual (defScope st) s.heap.objs.size f cdv)) →
      PSs (cxOf (L2.CX P w) P w K mg base N qual (defScope st) f cdv A outer s H E) (defBody st) (tS K C (fun c d _ H' => E c d H') ⟨ow0, ret, ret, ex, [], [], rw⟩ g))
    (hrw : rw = .fz ∨ ∀ env e', g env ≠ .nx e') : FnOk P w K mg base (L2.CX P w) (k + 1) f fd ps (spD K C (runF N.length ps.length g) ps.length rw) := by
  refine F.okX S (fun vs H Q E h => ?_) (fun cdv A outer s H vs Q E hr h => ⟨_, hb cdv A outer s H E hr, ?_⟩)
  · obtain ⟨_, _, _, _, hl, _⟩ := h
    exact hl
  · obtain ⟨F0, ds, le, r, hl, h⟩ := h
    have hlen : ds.length = ps.length := by rw [← r.length]; exact hl
    have cur : Cur K C F0 H (L2.start N vs) (ds.map some ++ List.replicate (N.length - ds.length) none) ow0 (fun _ => []) := by
      refine ⟨le, fun i d e => ?_, fun _ => List.nodup_nil, fun _ _ _ z => (nomatch z), fun _ _ z => (nomatch z), fun _ _ z => (nomatch z), by unfold L2.start; simp [r.length]⟩
      have hi : i < ds.length := by
        cases Nat.lt_or_ge i ds.length with
        | inl h => exact h
        | inr h =>
          rw [List.getElem?_append_right (by simpa using h)] at e
          rw [List.getElem?_replicate] at e
          split at e <;> cases e
      rw [List.getElem?_append_left (by simpa using hi), List.getElem?_map] at e
      have e' : ds[i]? = some d := by
        cases q : ds[i]? with
        | none => rw [q] at e; cases e
        | some z => rw [q] at e; cases e; rfl
      obtain ⟨v, h1, h2⟩ := r.get e'
      refine ⟨v, ?_, by rw [how i]; exact .fz h2⟩
      unfold L2.start
      rw [List.getElem?_append_left (by rw [List.length_map, r.length]; exact hi), List.getElem?_map, h1]
      rfl
    refine ⟨F0, _, _, cur, ?_⟩
    unfold runF at h
    rw [decide_eq_true hlen] at h
    have noAs : ∀ {F' H' : Hp} {As'}, Fr F0 H (fun _ => []) F' H' As' → Same F' H' → Pr F0 H F' H' := fun {F' H' As'} f fh =>
      ⟨fun a u e => f.keep a u e fun _ z => (nomatch z), f.le, fh, fun a u e => (f.fz a u e).imp id fun z => z.elim id fun ⟨_, z⟩ => (nomatch z)⟩
    generalize hq : g (ds.map some ++ List.replicate (N.length - ds.length) none) = r0 at h ⊢
    cases r0 with
    | rt d e' =>
      intro v σ' F' H' As' A fr c ro nd fa
      refine h v F' H' A (noAs fr c.le) ro nd fun a ha => ⟨?_, (fa a ha).2.1⟩
      rcases (fa a ha).1 with z | ⟨_, z⟩
      · exact z
      · cases z
    | nx e' =>
      intro σ' F' H' As' fr c
      rcases hrw with e | e
      · subst e
        exact h .non F' H' [] (noAs fr c.le) (.fz .non) List.nodup_nil fun _ z => nomatch z
      · exact absurd hq (e _ _)
    | ex x e' =>
      intro cls dd σ' F' H' As' fr c xr
      exact h cls dd F' H' (noAs fr c.le) xr
    | bk _ => exact h.elim
    | ct _ => exact h.elim
    | bad => exact h.elim
end
end DL

set_option maxHeartbeats 4000000
/-! The value layer: operators, comparisons, built-ins by data. -/
namespace DL
open PySem PySem.Spec PyProof.Rows L2

section
variable {K : PySem.W.Frag} {C : Cid → Addr} {F H : Hp} {σ : L2.St} {W : WX} {Q : VK}
theorem PostE.newLf {ds : List D} {vs : List V} {a : Addr} (le : Same F H) (ha : H a = none) (r : Reps K C F vs ds) (h : PostE K C W .fz σ F H Q (.ok (.lst ds))) : Q (.ref a) (upd H a (.lst vs)) :=
  PostE.at_ (Pr.new le ha) (.lst upd_same (r.mono (Pr.new (o := .lst vs) le ha).le)) h
end

/-- guarded -/
def chk {α : Type} (b : Bool) (r : R α) : R α := match b with
  | true => r
  | false => .bad
theorem PostE.chk {K : PySem.W.Frag} {C : Cid → Addr} {F H : Hp} {σ : L2.St} {W : WX} {Q : VK} {ow : Ow} {b : Bool} {r : R D} (h : PostE K C W ow σ F H Q (DL.chk b r)) : b = true ∧ PostE K C W ow σ F H Q r := by
  cases b with
  | true => exact ⟨rfl, h⟩
  | false => exact h.elim
theorem PostE.chkD {K : PySem.W.Frag} {C : Cid → Addr} {F H : Hp} {σ : L2.St} {W : WX} {Q : VK} {ow : Ow} {b : Prop} [Decidable b] {r : R D} (h : PostE K C W ow σ F H Q (DL.chk (decide b) r)) : b ∧ PostE K C W ow σ F H Q r :=
  ⟨of_decide_eq_true h.chk.1, h.chk.2⟩
/-! ### arithmetic -/
def smallI (i : Int) : Bool := decide (-(2 ^ 64) < i ∧ i < 2 ^ 64)
def addD : D → D → R D
  | .int i, .int j => .ok (.int (i + j))
  | .str x, .str y => chk (decide (x.length + y.length ≤ big)) (.ok (.str (x ++ y)))
  | .lst a, .lst b => chk (decide (a.length + b.length ≤ big)) (.ok (.lst (a ++ b)))
  | .tup a, .tup b => chk (decide (a ≠ [] ∧ a.length + b.length ≤ big)) (.ok (.tup (a ++ b)))
  | _, _ => .bad
def subD : D → D → R D
  | .int i, .int j => .ok (.int (i - j))
  | _, _ => .bad
def mulD : D → D → R D
  | .int i, .int j => chk (smallI i || smallI j) (.ok (.int (i * j)))
  | _, _ => .bad
def fdivD : D → D → R D
  | .int i, .int j => chk (decide (0 < j ∧ j < 1073741824)) (.ok (.int (i / j)))
  | _, _ => .bad
def modD : D → D → R D
  | .int i, .int j => chk (decide (0 < j)) (.ok (.int (i % j)))
  | _, _ => .bad
def powD : D → D → R D
  | .int i, .int j => chk (decide (0 ≤ j ∧ j ≤ 1000000 ∧ i.natAbs < 2 ^ 64)) (.ok (.int (i ^ j.toNat)))
  | _, _ => .bad
def negD : D → R D
  | .int i => .ok (.int (-i))
  | _ => .bad
section
variable {K : PySem.W.Frag} {C : Cid → Addr}
theorem v_sub : Op2 K C (rI0 fun i j => .int (i - j)) .fz subD := by
  intro W σ F H x y a b Q le ra rb h
  cases ra <;> cases rb <;> first | exact h.elim | exact ⟨_, _, rfl, rfl, PostE.here le .int h⟩
theorem v_mul : Op2 K C (rI CMul fun i j => .int (i * j)) .fz mulD := by
  intro W σ F H x y a b Q le ra rb h
  cases ra <;> cases rb <;> first | exact h.elim | skip
  obtain ⟨e, h⟩ := h.chk
  refine ⟨_, _, rfl, rfl, ?_, PostE.here le .int h⟩
  rcases Bool.or_eq_true_iff.mp e with z | z
  · exact .inl (of_decide_eq_true z)
  · exact .inr (of_decide_eq_true z)
theorem v_fdiv : Op2 K C (rI CDiv fun i j => .int (i / j)) .fz fdivD := by
  intro W σ F H x y a b Q le ra rb h
  cases ra <;> cases rb <;> first | exact h.elim | skip
  obtain ⟨e, h⟩ := h.chkD
  exact ⟨_, _, rfl, rfl, e, PostE.here le .int h⟩
theorem v_mod : Op2 K C (rI (fun _ j => 0 < j) fun i j => .int (i % j)) .fz modD := by
  intro W σ F H x y a b Q le ra rb h
  cases ra <;> cases rb <;> first | exact h.elim | skip
  obtain ⟨e, h⟩ := h.chkD
  exact ⟨_, _, rfl, rfl, e, PostE.here le .int h⟩
theorem v_pow : Op2 K C (rI CPow fun i j => .int (i ^ j.toNat)) .fz powD := by
  intro W σ F H x y a b Q le ra rb h
  cases ra <;> cases rb <;> first | exact h.elim | skip
  obtain ⟨e, h⟩ := h.chkD
  exact ⟨_, _, rfl, rfl, e, PostE.here le .int h⟩
def rAddA (K : PySem.W.Frag) : R2 := fun x y H Q => (rI0 (fun i j => .int (i + j)) x y H Q ∨ (∃ i j, x = .str i ∧ y = .str j ∧ i.length + j.length ≤ sizeLine ∧ Q (.str (i ++ j)) H)) ∨ rCat x y H Q ∨ rCatT K x y H Q
theorem op_addA {X : Cx} : OpR X (binaryOp .Add) (rAddA X.K) := OpR.or (OpR.or op_add op_add_str) (OpR.or op_cat op_catT)
theorem v_add : Op2 K C (rAddA K) .fz addD := by
  intro W σ F H x y a b Q le ra rb h
  cases ra with
  | @int i =>
    cases rb with
    | int => exact .inl (.inl ⟨_, _, rfl, rfl, PostE.here le .int h⟩)
    | _ => exact h.elim
  | @str x =>
    cases rb with
    | @str y =>
      obtain ⟨e, h⟩ := h.chkD
      exact .inl (.inr ⟨_, _, rfl, rfl, by rw [big_eq]; exact e, PostE.here le .str h⟩)
    | _ => exact h.elim
  | @lst p vs ds hp rp =>
    cases rb with
    | @lst q ws es hq rq =>
      obtain ⟨e, h⟩ := h.chkD
      exact .inr (.inl ⟨_, _, _, _, rfl, rfl, le _ _ hp, le _ _ hq, by rw [rp.length, rq.length, big_eq]; exact e, fun a ha => PostE.newLf le ha (rp.append rq) h⟩)
    | _ => exact h.elim
  | @tup p vs ds hp rp =>
    cases rb with
    | @tup q ws es hq rq =>
      obtain ⟨⟨e1, e2⟩, h⟩ := h.chkD
      refine .inr (.inr ⟨_, _, _, _, rfl, rfl, sqT_mono le hp, sqT_mono le hq, fun z => e1 ?_, by rw [rp.length, rq.length, big_eq]; exact e2, fun z => ?_, fun _ a ha => PostE.newT le ha (rp.append rq) h⟩)
      · subst z; cases rp; rfl
      · subst z
        cases rq
        rw [List.append_nil] at h
        exact PostE.here le (.tup hp rp) h
    | _ => exact h.elim
  | _ => exact h.elim
theorem d_neg {X : Cx} {W : WX} {ows : List Ow} {a : Expr} {pos : Pos} {ga : GE} (ha : PE X a (tD X.K C W ows .fz ga)) : PE X (.UnaryOp .USub a pos) (tD X.K C W ows .fz (g1 negD ga)) :=
  (pe_un un_neg ha).monoD fun σ H Q ⟨F, env, As, c, h⟩ => ⟨F, env, As, c, PostE.first h fun v d F1 H1 p r h1 => by
    cases r with
    | int => exact ⟨_, rfl, PostE.here p.fh .int h1⟩
    | _ => exact h1.elim⟩
end
end DL

set_option maxHeartbeats 4000000
/-! The value layer: comparisons, built-in functions by data. -/
namespace DL
open PySem PySem.Spec PyProof.Rows L2

/-! ### data as the model's own data -/
mutual
def toP : D → Option PyData
  | .non => some .none
  | .bl b => some (.bool b)
  | .int i => some (.int i)
  | .str x => some (.str x)
  | .tup ds => (toPs ds).map .tuple
  | .lst ds => (toPs ds).map .list
  | .scr ns => some (.list (ns.map .int))
  | _ => none
def toPs : List D → Option (List PyData)
  | [] => some []
  | d :: ds => match toP d, toPs ds with
    | some p, some ps => some (p :: ps)
    | _, _ => none
end
section
variable {K : PySem.W.Frag} {C : Cid → Addr} {F H : Hp}
theorem dp_ints (le : Same F H) : ∀ ns : List Int, DpAll K H (ns.map V.int) (ns.map PyData.int)
  | [] => .nil
  | _ :: r => .cons (.int _) (dp_ints le r)
mutual
theorem Rep.dp (le : Same F H) : ∀ {v : V} {d : D} {p : PyData}, Rep K C F v d → toP d = some p → Dp K H v p
  | _, _, _, .non, e => by cases e; exact .non
  | _, _, _, .bl, e => by cases e; exact .bl _
  | _, _, _, .int, e => by cases e; exact .int _
  | _, _, _, .str, e => by cases e; exact .str _
  | _, _, _, .tup (ds := ds) h r, e => by
    have e' : (toPs ds).map PyData.tuple = some _ := e
    cases q : toPs ds with
    | none => rw [q] at e'; cases e'
    | some ps => rw [q] at e'; cases e'; exact .tup (sqT_mono le h) (Reps.dp le r q)
  | _, _, _, .lst (ds := ds) h r, e => by
    have e' : (toPs ds).map PyData.list = some _ := e
    cases q : toPs ds with
    | none => rw [q] at e'; cases e'
    | some ps => rw [q] at e'; cases e'; exact .lst (SqL.of (le _ _ h)) (Reps.dp le r q)
  | _, _, _, .scr (ns := ns) h, e => by cases e; exact .lst (le.seq h) (dp_ints le ns)
theorem Reps.dp (le : Same F H) : ∀ {v : List V} {d : List D} {p : List PyData}, Reps K C F v d → toPs d = some p → DpAll K H v p
  | _, _, _, .nil, e => by cases e; exact .nil
  | _, _, _, .cons (d := d) (ds := ds) h r, e => by
    have e' : (match toP d, toPs ds with | some p, some ps => some (p :: ps) | _, _ => none) = some _ := e
    cases q : toP d with
    | none => rw [q] at e'; cases e'
    | some p =>
      cases q2 : toPs ds with
      | none => rw [q, q2] at e'; cases e'
      | some ps => rw [q, q2] at e'; cases e'; exact .cons (Rep.dp le h q) (Reps.dp le r q2)
end
end
/-- == of plain values -/
def scalD : D → D → Option Bool
  | .non, .non => some true
  | .non, .int _ => some false | .int _, .non => some false | .non, .bl _ => some false | .bl _, .non => some false | .non, .str _ => some false | .str _, .non => some false
  | .int i, .int j => some (decide (i = j))
  | .bl i, .bl j => some (decide (i = j))
  | .str i, .str j => some (decide (i = j))
  | .int _, .str _ => some false | .str _, .int _ => some false | .bl _, .str _ => some false | .str _, .bl _ => some false
  | _, _ => none
def eqB (a b : D) : Option Bool := match scalD a b with
  | some c => some c
  | none => match toP a, toP b with
    | some p, some q => match SeqAt.shaped p && SeqAt.shaped q with
      | true => some (PyData.eqv p q)
      | false => none
    | _, _ => none
def eqD (a b : D) : R D := match eqB a b with
  | some c => .ok (.bl c)
  | none => .bad
def neD (a b : D) : R D := match eqB a b with
  | some c => .ok (.bl (!c))
  | none => .bad
def cmpD (p : Int → Int → Bool) : D → D → R D
  | .int i, .int j => .ok (.bl (p i j))
  | _, _ => .bad
def ltD : D → D → R D := cmpD fun i j => decide (i < j)
def leD : D → D → R D := cmpD fun i j => decide (i ≤ j)
def gtD : D → D → R D := cmpD fun i j => decide (j < i)
def geD : D → D → R D := cmpD fun i j => decide (j ≤ i)
def isND : D → D → R D
  | a, .non => .ok (.bl (match a with | .non => true | _ => false))
  | _, _ => .bad
def notND : D → D → R D
  | a, .non => .ok (.bl (match a with | .non => false | _ => true))
  | _, _ => .bad
def flV : D → Option V
  | .non => some .non
  | .bl b => some (.bl b)
  | .int i => some (.int i)
  | .str x => some (.str x)
  | _ => none
def flVs : List D → Option (List V)
  | [] => some []
  | d :: ds => match flV d, flVs ds with
    | some v, some vs => some (v :: vs)
    | _, _ => none
def strIn (a b : Str) : Bool := match a.cps.toList with
  | [c] => decide (c ∈ b.cps.toList)
  | _ => !(Builtin.Str.occurrences b a 0 b.length 1).isEmpty
def inB : D → D → Option Bool
  | .str a, .str b => some (strIn a b)
  | a, .lst ds => match flV a, flVs ds with | some v, some vs => some (inV v vs) | _, _ => none
  | a, .tup ds => match flV a, flVs ds with | some v, some vs => some (inV v vs) | _, _ => none
  | .int a, .scr ns => some (inV (.int a) (ns.map V.int))
  | _, _ => none
def inD (a b : D) : R D := match inB a b with
  | some c => .ok (.bl c)
  | none => .bad
def notInD (a b : D) : R D := match inB a b with
  | some c => .ok (.bl (!c))
  | none => .bad
section
variable {K : PySem.W.Frag} {C : Cid → Addr}
theorem scal_ok {F : Hp} {x y : V} {a b : D} {c : Bool} (ra : Rep K C F x a) (rb : Rep K C F y b) (h : scalD a b = some c) : scal x y = true ∧ decide (x = y) = c := by
  cases ra <;> cases rb <;> first | (cases h; exact ⟨rfl, by first | rfl | (simp; done)⟩) | (cases h; done) | skip
def rEqA (K : PySem.W.Frag) : R2 := fun x y H Q => rEq x y H Q ∨ rEqD K x y H Q
def rNeA (K : PySem.W.Frag) : R2 := fun x y H Q => rNe x y H Q ∨ rNeD K x y H Q
theorem eqB_cases {F H : Hp} {x y : V} {a b : D} {c : Bool} (le : Same F H) (ra : Rep K C F x a) (rb : Rep K C F y b) (h : eqB a b = some c) :
    (scal x y = true ∧ decide (x = y) = c) ∨ ∃ d e, Dp K H x d ∧ Dp K H y e ∧ SeqAt.shaped d = true ∧ SeqAt.shaped e = true ∧ PyData.eqv d e = c := by
  unfold eqB at h
  cases q : scalD a b with
  | some c' => rw [q] at h; cases h; exact .inl (scal_ok ra rb q)
  | none =>
    rw [q] at h
    simp only at h
    cases q1 : toP a with
    | none => rw [q1] at h; cases h
    | some p =>
      cases q2 : toP b with
      | none => rw [q1, q2] at h; cases h
      | some p2 =>
        rw [q1, q2] at h
        simp only at h
        cases q3 : SeqAt.shaped p && SeqAt.shaped p2 with
        | false => rw [q3] at h; cases h
        | true =>
          rw [q3] at h
          cases h
          obtain ⟨s1, s2⟩ := Bool.and_eq_true_iff.mp q3
          exact .inr ⟨p, p2, ra.dp le q1, rb.dp le q2, s1, s2, rfl⟩
theorem v_eq : Op2 K C (rEqA K) .fz eqD := by
  intro W σ F H x y a b Q le ra rb h
  unfold eqD at h
  cases e : eqB a b with
  | none => rw [e] at h; exact h.elim
  | some c =>
    rw [e] at h
    rcases eqB_cases le ra rb e with ⟨h1, h2⟩ | ⟨p, q, h1, h2, h3, h4, h5⟩
    · exact .inl ⟨h1, by rw [h2]; exact PostE.here le .bl h⟩
    · exact .inr ⟨p, q, h1, h2, h3, h4, by rw [h5]; exact PostE.here le .bl h⟩
theorem v_ne : Op2 K C (rNeA K) .fz neD := by
  intro W σ F H x y a b Q le ra rb h
  unfold neD at h
  cases e : eqB a b with
  | none => rw [e] at h; exact h.elim
  | some c =>
    rw [e] at h
    rcases eqB_cases le ra rb e with ⟨h1, h2⟩ | ⟨p, q, h1, h2, h3, h4, h5⟩
    · exact .inl ⟨h1, by rw [h2]; exact PostE.here le .bl h⟩
    · exact .inr ⟨p, q, h1, h2, h3, h4, by rw [h5]; exact PostE.here le .bl h⟩
theorem v_cmp (p : Int → Int → Bool) : Op2 K C (rI0 fun i j => .bl (p i j)) .fz (cmpD p) := by
  intro W σ F H x y a b Q le ra rb h
  cases ra <;> cases rb <;> first | exact h.elim | exact ⟨_, _, rfl, rfl, PostE.here le .bl h⟩
theorem v_isN : Op2 K C (fun x y H Q => y = .non ∧ Q (.bl (decide (x = .non))) H) .fz isND := by
  intro W σ F H x y a b Q le ra rb h
  cases rb <;> first | (cases ra <;> exact h.elim) | skip
  refine ⟨rfl, ?_⟩
  cases ra <;> exact PostE.here le .bl h
theorem v_notN : Op2 K C (fun x y H Q => y = .non ∧ Q (.bl (!decide (x = .non))) H) .fz notND := by
  intro W σ F H x y a b Q le ra rb h
  cases rb <;> first | (cases ra <;> exact h.elim) | skip
  refine ⟨rfl, ?_⟩
  cases ra <;> exact PostE.here le .bl h
theorem flV_ok {F : Hp} {x v : V} {a : D} (ra : Rep K C F x a) (h : flV a = some v) : x = v ∧ flatV x = true := by
  cases ra <;> first | (cases h; exact ⟨rfl, rfl⟩) | (cases h; done)
theorem flVs_ok {F : Hp} : ∀ {xs : List V} {vs : List V} {ds : List D}, Reps K C F xs ds → flVs ds = some vs → xs = vs ∧ xs.all flatV = true
  | _, _, _, .nil, h => by cases h; exact ⟨rfl, rfl⟩
  | _, _, _, .cons (d := d) (ds := ds) h1 h2, h => by
    have h' : (match flV d, flVs ds with | some v, some vs => some (v :: vs) | _, _ => none) = some _ := h
    cases q : flV d with
    | none => rw [q] at h'; cases h'
    | some v =>
      cases q2 : flVs ds with
      | none => rw [q, q2] at h'; cases h'
      | some vs =>
        rw [q, q2] at h'
        cases h'
        obtain ⟨e1, e2⟩ := flV_ok h1 q
        obtain ⟨e3, e4⟩ := flVs_ok h2 q2
        exact ⟨by rw [e1, e3], by rw [List.all_cons, e2, e4]; rfl⟩
def rSign : R2 := fun x y H Q => ∃ (c : Nat) (z : Str), x = .str ⟨#[c]⟩ ∧ y = .str z ∧ Q (.bl (decide (c ∈ z.cps.toList))) H
def rSignN : R2 := fun x y H Q => ∃ (c : Nat) (z : Str), x = .str ⟨#[c]⟩ ∧ y = .str z ∧ Q (.bl (!decide (c ∈ z.cps.toList))) H
def rSub : R2 := fun x y H Q => ∃ i j, x = .str i ∧ y = .str j ∧ Q (.bl (!(Builtin.Str.occurrences j i 0 j.length 1).isEmpty)) H
def rSubN : R2 := fun x y H Q => ∃ i j, x = .str i ∧ y = .str j ∧ Q (.bl (!(!(Builtin.Str.occurrences j i 0 j.length 1).isEmpty))) H
def rInA (K : PySem.W.Frag) : R2 := fun x y H Q => (rSign x y H Q ∨ rSub x y H Q) ∨ rIn K false x y H Q
def rInN (K : PySem.W.Frag) : R2 := fun x y H Q => (rSignN x y H Q ∨ rSubN x y H Q) ∨ rIn K true x y H Q
theorem op_inA {X : Cx} : OpR X (compareOp .In) (rInA X.K) := OpR.or (OpR.or op_in_sign op_in_str) op_in_seq
theorem op_inN {X : Cx} : OpR X (compareOp .NotIn) (rInN X.K) := OpR.or (OpR.or op_notIn_sign L2.op_notin_str) op_notIn_seq
theorem op_eqA {X : Cx} (hu : X.A.units + 64 < cLine) : OpR X (compareOp .Eq) (rEqA X.K) := OpR.or op_eq (op_eqD hu)
theorem op_neA {X : Cx} (hu : X.A.units + 64 < cLine) : OpR X (compareOp .NotEq) (rNeA X.K) := OpR.or op_ne (op_neD hu)
theorem sign_of {x : Str} {c : Nat} (h : x.cps.toList = [c]) : x = ⟨#[c]⟩ := Str.ext' (Array.toList_inj.mp h)
theorem flats_ints (ns : List Int) : (ns.map V.int).all flatV = true := by
  induction ns with
  | nil => rfl
  | cons _ r ih => rw [List.map_cons, List.all_cons, ih]; rfl
/-- the kinds of x in y -/
theorem inB_cases {F H : Hp} {x y : V} {a b : D} {c : Bool} (le : Same F H) (ra : Rep K C F x a) (rb : Rep K C F y b) (h : inB a b = some c) :
    ((∃ s z, x = .str ⟨#[s]⟩ ∧ y = .str z ∧ decide (s ∈ z.cps.toList) = c) ∨ ∃ i j, x = .str i ∧ y = .str j ∧ (!(Builtin.Str.occurrences j i 0 j.length 1).isEmpty) = c) ∨
      ∃ p xs, y = .ref p ∧ (SqL K H p xs ∨ SqT K H p xs) ∧ flatV x = true ∧ xs.all flatV = true ∧ inV x xs = c := by
  have seq : ∀ {p : Addr} {ws : List V} {ds : List D}, (SqL K H p ws ∨ SqT K H p ws) → Reps K C F ws ds → (match flV a, flVs ds with | some v, some vs => some (inV v vs) | _, _ => none) = some c →
      ∃ p' xs, V.ref p = .ref p' ∧ (SqL K H p' xs ∨ SqT K H p' xs) ∧ flatV x = true ∧ xs.all flatV = true ∧ inV x xs = c := fun {p ws ds} hs rs h => by
    cases q : flV a with
    | none => rw [q] at h; cases h
    | some v =>
      cases q2 : flVs ds with
      | none => rw [q, q2] at h; cases h
      | some vs =>
        rw [q, q2] at h
        cases h
        obtain ⟨e1, e2⟩ := flV_ok ra q
        obtain ⟨e3, e4⟩ := flVs_ok rs q2
        subst e1 e3
        exact ⟨p, _, rfl, hs, e2, e4, rfl⟩
  cases rb with
  | @lst p ws ds hp rp =>
    refine .inr (seq (.inl (SqL.of (le _ _ hp))) rp ?_)
    cases ra <;> exact h
  | @tup p ws ds hp rp =>
    refine .inr (seq (.inr (sqT_mono le hp)) rp ?_)
    cases ra <;> exact h
  | @str z =>
    cases ra <;> first | (cases h; done) | skip
    rename_i s
    left
    cases h
    unfold strIn
    split
    · rename_i u hu
      exact .inl ⟨u, z, by rw [sign_of hu], rfl, rfl⟩
    · exact .inr ⟨s, z, rfl, rfl, rfl⟩
  | @scr p ns hp =>
    cases ra <;> first | (cases h; done) | skip
    cases h
    exact .inr ⟨p, _, rfl, .inl (le.seq hp), rfl, flats_ints ns, rfl⟩
  | _ => cases ra <;> cases h
theorem v_in : Op2 K C (rInA K) .fz inD := by
  intro W σ F H x y a b Q le ra rb h
  unfold inD at h
  cases e : inB a b with
  | none => rw [e] at h; exact h.elim
  | some c =>
    rw [e] at h
    have q : Q (.bl c) H := PostE.here le .bl h
    rcases inB_cases le ra rb e with (⟨s, z, rfl, rfl, rfl⟩ | ⟨i, j, rfl, rfl, rfl⟩) | ⟨p, xs, rfl, h1, h2, h3, rfl⟩
    · exact .inl (.inl ⟨_, _, rfl, rfl, q⟩)
    · exact .inl (.inr ⟨_, _, rfl, rfl, q⟩)
    · exact .inr ⟨p, xs, rfl, h1, h2, h3, q⟩
theorem v_notIn : Op2 K C (rInN K) .fz notInD := by
  intro W σ F H x y a b Q le ra rb h
  unfold notInD at h
  cases e : inB a b with
  | none => rw [e] at h; exact h.elim
  | some c =>
    rw [e] at h
    have q : Q (.bl (!c)) H := PostE.here le .bl h
    rcases inB_cases le ra rb e with (⟨s, z, rfl, rfl, rfl⟩ | ⟨i, j, rfl, rfl, rfl⟩) | ⟨p, xs, rfl, h1, h2, h3, rfl⟩
    · exact .inl (.inl ⟨_, _, rfl, rfl, q⟩)
    · exact .inl (.inr ⟨_, _, rfl, rfl, q⟩)
    · exact .inr ⟨p, xs, rfl, h1, h2, h3, q⟩
end

/-! ### subscripts -/
def ixD : D → D → R D
  | .lst ds, .int i => (match atI ds i with | some d => .ok d | none => .bad)
  | .tup ds, .int i => (match atI ds i with | some d => .ok d | none => .bad)
  | .scr ns, .int i => (match atI ns i with | some n => .ok (.int n) | none => .bad)
  | .str z, .int i => chk (decide (z.length ≤ big)) (match atI z.cps.toList i with | some c => .ok (.str ⟨#[c]⟩) | none => .bad)
  | _, _ => .bad
section
variable {K : PySem.W.Frag} {C : Cid → Addr}
theorem Reps.at_ {F : Hp} {vs : List V} {ds : List D} {i : Int} {d : D} (r : Reps K C F vs ds) (h : atI ds i = some d) : ∃ v, atI vs i = some v ∧ Rep K C F v d := by
  unfold atI at h ⊢
  rw [r.length]
  cases e : ixN ds.length i with
  | none => rw [e] at h; cases h
  | some j =>
    rw [e] at h
    exact r.get h
theorem atI_map {α β : Type} {f : α → β} {xs : List α} {i : Int} {x : α} (h : atI xs i = some x) : atI (xs.map f) i = some (f x) := by
  unfold atI at h ⊢
  rw [List.length_map]
  cases e : ixN xs.length i with
  | none => rw [e] at h; cases h
  | some j =>
    rw [e] at h
    show (xs.map f)[j]? = _
    rw [List.getElem?_map, show xs[j]? = some x from h]
    rfl
theorem v_ix : Op2 K C (rIx K) .fz ixD := by
  intro W σ F H x y a b Q le ra rb h
  cases ra with
  | @lst p vs ds hp rp =>
    cases rb <;> first | exact h.elim | skip
    rename_i i
    have h : PostE K C W .fz σ F H Q (match atI ds i with | some d => .ok d | none => .bad) := h
    cases e : atI ds i with
    | none => rw [e] at h; exact h.elim
    | some d =>
      rw [e] at h
      obtain ⟨v, h1, h2⟩ := rp.at_ e
      exact .inl ⟨p, vs, i, v, rfl, rfl, SqL.of (le _ _ hp), h1, PostE.here le h2 h⟩
  | @tup p vs ds hp rp =>
    cases rb <;> first | exact h.elim | skip
    rename_i i
    have h : PostE K C W .fz σ F H Q (match atI ds i with | some d => .ok d | none => .bad) := h
    cases e : atI ds i with
    | none => rw [e] at h; exact h.elim
    | some d =>
      rw [e] at h
      obtain ⟨v, h1, h2⟩ := rp.at_ e
      exact .inr (.inl ⟨p, vs, i, v, rfl, rfl, sqT_mono le hp, h1, PostE.here le h2 h⟩)
  | @scr p ns hp =>
    cases rb <;> first | exact h.elim | skip
    rename_i i
    have h : PostE K C W .fz σ F H Q (match atI ns i with | some n => .ok (.int n) | none => .bad) := h
    cases e : atI ns i with
    | none => rw [e] at h; exact h.elim
    | some d =>
      rw [e] at h
      exact .inl ⟨p, _, i, _, rfl, rfl, le.seq hp, atI_map e, PostE.here le .int h⟩
  | @str z =>
    cases rb <;> first | exact h.elim | skip
    rename_i i
    obtain ⟨hz, h⟩ := PostE.chkD (r := match atI z.cps.toList i with | some c => .ok (.str ⟨#[c]⟩) | none => .bad) h
    cases e : atI z.cps.toList i with
    | none => rw [e] at h; exact h.elim
    | some c =>
      rw [e] at h
      exact .inr (.inr ⟨z, i, c, rfl, rfl, by rw [big_eq]; exact hz, e, PostE.here le .str h⟩)
  | _ => cases rb <;> exact h.elim
theorem d_ix {X : Cx} {W : WX} {ows : List Ow} {a b : Expr} {pos : Pos} {ga gb : GE} (ha : PE X a (tD X.K C W ows .fz ga)) (hb : PE X b (tD X.K C W ows .fz gb)) (hs : PlainIx b := by intro _ _; rfl) : PE X (.Subscript a b pos) (tD X.K C W ows .fz (g2 ixD ga gb)) :=
  (pe_ix ix_seq ha hb hs).monoD fun σ H Q h => tOp_of v_ix σ H Q h
end

/-! ### built-in functions -/
def un (f : D → R D) : List D → R D
  | [d] => f d
  | _ => .bad
def bi (f : D → D → R D) : List D → R D
  | [d, e] => f d e
  | _ => .bad
section
variable {K : PySem.W.Frag} {C : Cid → Addr} {ow : Ow}
theorem c_un {r : List V → Hp → VK → Prop} {f : D → R D} (h : ∀ (W : WX) (σ : L2.St) (F H : Hp) (v : V) (d : D) (Q : VK), Same F H → Rep K C F v d → PostE K C W ow σ F H Q (f d) → r [v] H Q) : CallD K C r ow (un f) := by
  intro W σ F H vs ds Q le rr q
  cases rr with
  | nil => exact q.elim
  | cons r1 t =>
    cases t with
    | nil => exact h W σ F H _ _ Q le r1 q
    | cons _ _ => exact q.elim
theorem c_bi {r : List V → Hp → VK → Prop} {f : D → D → R D} (h : ∀ (W : WX) (σ : L2.St) (F H : Hp) (v w : V) (d e : D) (Q : VK), Same F H → Rep K C F v d → Rep K C F w e → PostE K C W ow σ F H Q (f d e) → r [v, w] H Q) : CallD K C r ow (bi f) := by
  intro W σ F H vs ds Q le rr q
  cases rr with
  | nil => exact q.elim
  | cons r1 t =>
    cases t with
    | nil => exact q.elim
    | cons r2 t =>
      cases t with
      | nil => exact h W σ F H _ _ _ _ Q le r1 r2 q
      | cons _ _ => exact q.elim
def lenD : D → R D
  | .str x => chk (decide (x.length ≤ big)) (.ok (.int x.length))
  | .lst ds => .ok (.int ds.length)
  | .tup ds => .ok (.int ds.length)
  | .scr ns => .ok (.int ns.length)
  | _ => .bad
def rLenA (K : PySem.W.Frag) : List V → Hp → VK → Prop := fun xs H Q => ∃ x n, xs = [x] ∧ LenV K x H n ∧ Q (.int n) H
theorem c_len : CallD K C (rLenA K) .fz (un lenD) := c_un fun W σ F H v d Q le r h => by
  cases r with
  | str =>
    obtain ⟨hz, h⟩ := h.chkD
    exact ⟨_, _, rfl, ⟨by rw [big_eq]; exact hz, rfl⟩, PostE.here le .int h⟩
  | lst hp rp => exact ⟨_, _, rfl, .inl ⟨_, SqL.of (le _ _ hp), rfl⟩, by rw [rp.length]; exact PostE.here le .int h⟩
  | tup hp rp => exact ⟨_, _, rfl, .inr ⟨_, sqT_mono le hp, rfl⟩, by rw [rp.length]; exact PostE.here le .int h⟩
  | scr hp => exact ⟨_, _, rfl, .inl ⟨_, le.seq hp, rfl⟩, by rw [List.length_map]; exact PostE.here le .int h⟩
  | _ => exact h.elim
def absD : D → R D
  | .int i => .ok (.int (if i < 0 then -i else i))
  | _ => .bad
theorem c_abs : CallD K C (fun xs H Q => ∃ i, xs = [.int i] ∧ Q (.int (if i < 0 then -i else i)) H) .fz (un absD) := c_un fun W σ F H v d Q le r h => by
  cases r <;> first | exact h.elim | exact ⟨_, rfl, PostE.here le .int h⟩
def maxD : D → D → R D
  | .int i, .int j => .ok (.int (if j > i then j else i))
  | _, _ => .bad
def minD : D → D → R D
  | .int i, .int j => .ok (.int (if j < i then j else i))
  | _, _ => .bad
theorem c_max : CallD K C (fun xs H Q => ∃ i j, xs = [.int i, .int j] ∧ Q (.int (if j > i then j else i)) H) .fz (bi maxD) := c_bi fun W σ F H v w d e Q le r1 r2 h => by
  cases r1 <;> cases r2 <;> first | exact h.elim | exact ⟨_, _, rfl, PostE.here le .int h⟩
theorem c_min : CallD K C (fun xs H Q => ∃ i j, xs = [.int i, .int j] ∧ Q (.int (if j < i then j else i)) H) .fz (bi minD) := c_bi fun W σ F H v w d e Q le r1 r2 h => by
  cases r1 <;> cases r2 <;> first | exact h.elim | exact ⟨_, _, rfl, PostE.here le .int h⟩
/-- int(x) -/
def intD : D → R D
  | .int i => .ok (.int i)
  | .bl b => .ok (.int (if b then 1 else 0))
  | .str x => chk (decide (x.length ≤ 640)) (match PySem.intText? x with | some n => .ok (.int n) | none => .bad)
  | _ => .bad
def rIntA : List V → Hp → VK → Prop := fun xs H Q => ((∃ i, xs = [.int i] ∧ Q (.int i) H) ∨ ∃ k, xs = [.bl k] ∧ Q (.int (if k then 1 else 0)) H) ∨ ∃ a n, xs = [.str a] ∧ PySem.intText? a = some n ∧ a.length ≤ 640 ∧ Q (.int n) H
theorem call_intA {X : Cx} : CallR X (.type "int") rIntA := CallR.or call_int1 call_int_str
theorem c_int : CallD K C rIntA .fz (un intD) := c_un fun W σ F H v d Q le r h => by
  cases r with
  | int => exact .inl (.inl ⟨_, rfl, PostE.here le .int h⟩)
  | bl => exact .inl (.inr ⟨_, rfl, PostE.here le .int h⟩)
  | @str x =>
    obtain ⟨hz, h⟩ := PostE.chkD (r := match PySem.intText? x with | some n => .ok (.int n) | none => .bad) h
    cases e : PySem.intText? x with
    | none => rw [e] at h; exact h.elim
    | some n => rw [e] at h; exact .inr ⟨_, _, rfl, e, hz, PostE.here le .int h⟩
  | _ => exact h.elim
def strD : D → R D
  | .int i => chk (decide (i.natAbs < 2 ^ 1900)) (.ok (.str (Str.ofString (toString i))))
  | _ => .bad
theorem log2_lt_1920 {n : Nat} (h : n < 2 ^ 1900) : n.log2 < 1920 := by
  by_cases hn : n = 0
  · subst hn; decide
  · exact Nat.lt_of_lt_of_le ((Nat.log2_lt hn).mpr h) (by decide)
theorem c_str : CallD K C (fun xs H Q => ∃ i, xs = [.int i] ∧ i.natAbs.log2 < 1920 ∧ Q (.str (toString i)) H) .fz (un strD) := c_un fun W σ F H v d Q le r h => by
  cases r with
  | int =>
    obtain ⟨hz, h⟩ := h.chkD
    exact ⟨_, rfl, log2_lt_1920 hz, PostE.here le .str h⟩
  | _ => exact h.elim
/-- sum(xs) -/
def ints? : List D → Option (List Int)
  | [] => some []
  | .int i :: r => (ints? r).map (i :: ·)
  | _ :: _ => none
theorem ints_ok {F : Hp} : ∀ {vs : List V} {ds : List D} {ns : List Int}, Reps K C F vs ds → ints? ds = some ns → vs = ns.map V.int
  | _, _, _, .nil, h => by cases h; rfl
  | _, _, _, .cons (d := d) (ds := ds) h1 h2, h => by
    cases h1 <;> first | (cases h; done) | skip
    have h' : (ints? ds).map (_ :: ·) = some _ := h
    cases q : ints? ds with
    | none => rw [q] at h'; cases h'
    | some ms => rw [q] at h'; cases h'; rw [ints_ok h2 q]; rfl
theorem ints_map : ∀ ns : List Int, ints? (ns.map D.int) = some ns
  | [] => rfl
  | n :: r => by rw [List.map_cons]; show (ints? (r.map D.int)).map (n :: ·) = _; rw [ints_map r]; rfl
def sumD : D → R D
  | .lst ds => (match ints? ds with | some ns => .ok (.int ns.sum) | none => .bad)
  | .scr ns => .ok (.int ns.sum)
  | _ => .bad
theorem c_sum : CallD K C (rSum K) .fz (un sumD) := c_un fun W σ F H v d Q le r h => by
  cases r with
  | @lst p vs ds hp rp =>
    have h : PostE K C W .fz σ F H Q (match ints? ds with | some ns => .ok (.int ns.sum) | none => .bad) := h
    cases e : ints? ds with
    | none => rw [e] at h; exact h.elim
    | some ns => rw [e] at h; exact ⟨p, ns, rfl, SqL.of (by rw [← ints_ok rp e]; exact le _ _ hp), PostE.here le .int h⟩
  | scr hp => exact ⟨_, _, rfl, le.seq hp, PostE.here le .int h⟩
  | _ => exact h.elim
/-- tuple(xs) -/
def tupleD : D → R D
  | .lst ds => .ok (.tup ds)
  | .tup ds => .ok (.tup ds)
  | _ => .bad
theorem c_tuple : CallD K C (fun xs H Q => ∃ p ys, xs = [.ref p] ∧ ((SqL K H p ys ∧ ∀ l, H l = none → Q (.ref l) (upd H l (.tup ys))) ∨ (SqT K H p ys ∧ Q (.ref p) H))) .fz (un tupleD) := c_un fun W σ F H v d Q le r h => by
  cases r with
  | lst hp rp => exact ⟨_, _, rfl, .inl ⟨SqL.of (le _ _ hp), fun a ha => PostE.newT le ha rp h⟩⟩
  | tup hp rp => exact ⟨_, _, rfl, .inr ⟨sqT_mono le hp, PostE.here le (.tup hp rp) h⟩⟩
  | _ => exact h.elim
/-- list(xs): a new list, owned -/
def listD : D → R D
  | .lst ds => .ok (.lst ds)
  | .tup ds => .ok (.lst ds)
  | .scr ns => .ok (.lst (ns.map .int))
  | _ => .bad
theorem c_list : CallD K C (fun xs H Q => ∃ p ys, xs = [.ref p] ∧ (SqL K H p ys ∨ SqT K H p ys) ∧ ∀ l, H l = none → Q (.ref l) (upd H l (.lst ys))) (.lst .fz) (un listD) := c_un fun W σ F H v d Q le r h => by
  cases r with
  | lst hp rp => exact ⟨_, _, rfl, .inl (SqL.of (le _ _ hp)), fun a ha => PostE.newL le ha rp h⟩
  | tup hp rp => exact ⟨_, _, rfl, .inr (sqT_mono le hp), fun a ha => PostE.newL le ha rp h⟩
  | scr hp => exact ⟨_, _, rfl, .inl (le.seq hp), fun a ha => PostE.newL le ha (Reps.ints _) h⟩
  | _ => exact h.elim
end
/-! ### isinstance with built-in classes -/
def tyOf : D → Option String
  | .non => some "NoneType"
  | .bl _ => some "bool"
  | .int _ => some "int"
  | .str _ => some "str"
  | .tup _ => some "tuple"
  | .lst _ => some "list"
  | .dK _ => some "dict"
  | .dT _ => some "dict"
  | _ => none
def tyNames : List D → Option (List String)
  | [] => some []
  | .ty n :: r => (tyNames r).map (n :: ·)
  | _ :: _ => none
def isAny (t : String) : List String → Option Bool
  | [] => some false
  | n :: r => match kitB t n with
    | some true => some true
    | some false => isAny t r
    | none => none
def isiD (d c : D) : R D := match tyOf d with
  | none => .bad
  | some t => match c with
    | .ty n => (match kitB t n with | some b => .ok (.bl b) | none => .bad)
    | .tup cs => (match tyNames cs with
      | some ns => (match isAny t ns with | some b => .ok (.bl b) | none => .bad)
      | none => .bad)
    | _ => .bad
section
variable {K : PySem.W.Frag} {C : Cid → Addr}
theorem ty_ok {F H : Hp} {v : V} {d : D} {t : String} (le : Same F H) (r : Rep K C F v d) (h : tyOf d = some t) : TyX K H v (.type t) := by
  cases r with
  | non => cases h; exact .base .non
  | bl => cases h; exact .base (.bl _)
  | int => cases h; exact .base (.int _)
  | str => cases h; exact .base (.str _)
  | tup hp _ =>
    cases h
    rcases sqT_mono le hp with (z | ⟨o, z⟩) | ⟨o, its, n, hk, hc, _⟩
    · exact .base (.tup z)
    · exact .fTuple z
    · exact .kTuple hk hc
  | lst hp _ => cases h; exact .base (.lst (le _ _ hp))
  | dK hp _ => cases h; exact .base (.dK (le _ _ hp))
  | dT hp _ => cases h; exact .base (.dT (le _ _ hp))
  | _ => cases h
theorem isAny_ok {t : String} : ∀ {ns : List String} {b : Bool}, isAny t ns = some b → PySem.W.kitAny K (.type t) (ns.map Value.type) = some b
  | [], _, h => by cases h; rfl
  | n :: r, b, h => by
    have h' : (match kitB t n with | some true => some true | some false => isAny t r | none => none) = some b := h
    cases q : kitB t n with
    | none => rw [q] at h'; cases h'
    | some c =>
      rw [q] at h'
      refine kitAny_cons (kit_ty q) (fun e => ?_) (fun e => ?_)
      · subst e; exact isAny_ok h'
      · subst e; cases h'; rfl
theorem tyNames_ok {F : Hp} : ∀ {vs : List V} {cs : List D} {ns : List String}, Reps K C F vs cs → tyNames cs = some ns → vs = ns.map V.ty ∧ Paired ClsV vs (ns.map Value.type)
  | _, _, _, .nil, h => by cases h; exact ⟨rfl, .nil⟩
  | _, _, _, .cons (ds := ds) h1 h2, h => by
    cases h1 <;> first | (cases h; done) | skip
    have h' : (tyNames ds).map (_ :: ·) = some _ := h
    cases q : tyNames ds with
    | none => rw [q] at h'; cases h'
    | some ms =>
      rw [q] at h'
      cases h'
      obtain ⟨e1, e2⟩ := tyNames_ok h2 q
      exact ⟨by rw [e1]; rfl, .cons (.ty _) e2⟩
def rIsiA (K : PySem.W.Frag) : List V → Hp → VK → Prop := fun xs H Q => rIsi K xs H Q ∨ rIsiT K xs H Q ∨ rIsiK K xs H Q
theorem call_isiA {X : Cx} : CallR X (.builtin "isinstance") (rIsiA X.K) := CallR.or call_isi (CallR.or call_isiT call_isiK)
theorem types_inv : ∀ {ns : List String} {us : List Value}, Vals (ns.map V.ty) us → us = ns.map Value.type
  | [], _, .nil => rfl
  | _ :: r, _, .cons h t => by rw [show _ = Value.type _ from h, types_inv (ns := r) t]; rfl
theorem c_isi : CallD K C (rIsiA K) .fz (bi isiD) := c_bi fun W σ F H v w d e Q le r1 r2 h => by
  unfold isiD at h
  cases q : tyOf d with
  | none => rw [q] at h; exact h.elim
  | some t =>
    rw [q] at h
    simp only at h
    cases r2 with
    | @ty n =>
      simp only at h
      cases q2 : kitB t n with
      | none => rw [q2] at h; exact h.elim
      | some b => rw [q2] at h; exact .inl ⟨v, _, _, _, b, rfl, .ty n, ty_ok le r1 q, kit_ty q2, PostE.here le .bl h⟩
    | @tup p vs cs hp rp =>
      simp only at h
      cases q2 : tyNames cs with
      | none => rw [q2] at h; exact h.elim
      | some ns =>
        rw [q2] at h
        simp only at h
        cases q3 : isAny t ns with
        | none => rw [q3] at h; exact h.elim
        | some b =>
          rw [q3] at h
          obtain ⟨e1, e2⟩ := tyNames_ok rp q2
          rcases hp with hp | ⟨o, its, n, hk, hc, hd, hz, hv⟩
          · exact .inr (.inl ⟨v, p, vs, _, _, b, rfl, le _ _ hp, e2, ty_ok le r1 q, isAny_ok q3, PostE.here le .bl h⟩)
          · subst e1
            have e3 := types_inv hv
            obtain ⟨oc, od, dt, sl⟩ := o
            simp only at hc hd
            subst hc hd
            refine .inr (.inr ⟨v, p, od, its.toList, n, sl, _, b, rfl, by simpa using hk, ty_ok le r1 q, ?_, PostE.here le .bl h⟩)
            rw [e3]
            exact isAny_ok q3
    | _ => exact h.elim
end
end DL

set_option maxHeartbeats 4000000
/-! The value layer: slices, texts, loops, changes of owned lists. -/
namespace DL
open PySem PySem.Spec PyProof.Rows L2

/-! ### slices -/
abbrev GP := Dv → R (Option Int)
def pNone : GP := fun _ => .ok none
def pSome (g : GE) : GP := fun env => (g env).bind fun d => match d with | .int i => .ok (some i) | _ => .bad
def sIxD := HT.sIx
def cutL {α : Type} (xs : List α) (lo hi : Option Int) : List α := (xs.drop (HT.sIx xs.length 0 lo)).take (HT.sIx xs.length xs.length hi - HT.sIx xs.length 0 lo)
def slD (d : D) (lo hi : Option Int) : R D := match d with
  | .lst ds => .ok (.lst (cutL ds lo hi))
  | .scr ns => .ok (.lst ((cutL ns lo hi).map .int))
  | .str z => chk (decide (z.length ≤ big)) (.ok (.str (cutS z lo hi)))
  | .tup ds => chk (decide (¬ (HT.sIx ds.length 0 lo = 0 ∧ HT.sIx ds.length ds.length hi = ds.length))) (.ok (.tup (cutL ds lo hi)))
  | _ => .bad
def gSl (g : GE) (lo hi : GP) : GE := fun env => (g env).bind fun d => (lo env).bind fun l => (hi env).bind fun h => slD d l h
section
variable (K : PySem.W.Frag) (C : Cid → Addr)
def PostO (W : WX) (σ : L2.St) (F H : Hp) (Q : Option Int → Hp → Prop) : R (Option Int) → Prop
  | .ok b => ∀ F' H', Pr F H F' H' → Q b H'
  | .exc x => ∀ cls dd F' H', Pr F H F' H' → XR K C F' x cls dd → W cls dd σ H'
  | .bad => False
def tO (W : WX) (ows : List Ow) (g : GP) : TO := fun σ H Q => ∃ F env As, Cur K C F H σ env ows As ∧ PostO K C W σ F H Q (g env)
end
section
variable {K : PySem.W.Frag} {C : Cid → Addr} {F H : Hp} {σ : L2.St} {W : WX} {ow : Ow} {Q : VK}
theorem PostE.firstO {k : Option Int → R D} {S : Option Int → Hp → Prop} : ∀ {r : R (Option Int)}, PostE K C W ow σ F H Q (r.bind k) →
    (∀ b F1 H1, Pr F H F1 H1 → PostE K C W ow σ F1 H1 Q (k b) → S b H1) → PostO K C W σ F H S r
  | .ok b, h, hk => fun F' H' p => hk b F' H' p (h.pr p)
  | .exc _, h, _ => h
  | .bad, h, _ => h
theorem PostO.first {Q : Option Int → Hp → Prop} {k : D → R (Option Int)} {S : VK} : ∀ {r : R D}, PostO K C W σ F H Q (r.bind k) →
    (∀ v d F1 H1, Pr F H F1 H1 → Rep K C F1 v d → PostO K C W σ F1 H1 Q (k d) → S v H1) → PostE K C W .fz σ F H S r
  | .ok d, h, hk => fun v F' H' A p ro _ _ => hk v d F' H' p ro.fz_inv (by
      have h : PostO K C W σ F H Q (k d) := h
      revert h
      cases k d with
      | ok b => exact fun h F2 H2 q => h F2 H2 (p.trans q)
      | exc x => exact fun h cls dd F2 H2 q x => h cls dd F2 H2 (p.trans q) x
      | bad => exact id)
  | .exc _, h, _ => h
  | .bad, h, _ => h
theorem cutV_reps {vs : List V} {ds : List D} (r : Reps K C F vs ds) (lo hi : Option Int) : Reps K C F (cutV vs lo hi) (cutL ds lo hi) := by
  unfold cutV cutL
  rw [r.length]
  exact (r.drop _).take _
theorem cutV_ints (ns : List Int) (lo hi : Option Int) : cutV (ns.map V.int) lo hi = (cutL ns lo hi).map V.int := by
  unfold cutV cutL
  rw [List.length_map, List.map_take, List.map_drop]
end
section
variable {X : Cx} {C : Cid → Addr} {W : WX} {ows : List Ow}
theorem o_none : PO X none (tO X.K C W ows pNone) := ⟨fun pins s σ H Q I ⟨F, env, As, c, h⟩ => po_none.run pins s σ H Q I (h F H (Pr.refl c.le))⟩
theorem o_some {e : Expr} {g : GE} (h : PE X e (tD X.K C W ows .fz g)) : PO X (some e) (tO X.K C W ows (pSome g)) := ⟨fun pins s σ H Q I ⟨F, env, As, c, q⟩ => (po_some h).run pins s σ H Q I ⟨F, env, As, c, PostO.first q fun v d F1 H1 p r h1 => by
    cases r <;> first | exact h1.elim | exact ⟨_, rfl, h1 F1 H1 (Pr.refl p.fh)⟩⟩⟩
def rSlA (K : PySem.W.Frag) : V → Option Int → Option Int → Hp → VK → Prop := fun x lo hi H Q => rSlL K x lo hi H Q ∨ rSlT K x lo hi H Q ∨ rSlS x lo hi H Q
theorem sl_A : SlR X (rSlA X.K) := SlR.or sl_list (SlR.or sl_tup sl_str)
theorem sl_of {K : PySem.W.Frag} {F H : Hp} {σ : L2.St} {Q : VK} {v : V} {d : D} {lo hi : Option Int} (le : Same F H) (r : Rep K C F v d) (h : PostE K C W .fz σ F H Q (slD d lo hi)) : rSlA K v lo hi H Q := by
  cases r with
  | lst hp rp => exact .inl ⟨_, _, rfl, SqL.of (le _ _ hp), fun a ha => PostE.newLf le ha (cutV_reps rp lo hi) h⟩
  | scr hp => exact .inl ⟨_, _, rfl, le.seq hp, fun a ha => by rw [cutV_ints]; exact PostE.newLf le ha (Reps.ints _) h⟩
  | str =>
    obtain ⟨hz, h⟩ := h.chkD
    exact .inr (.inr ⟨_, rfl, by rw [big_eq]; exact hz, PostE.here le .str h⟩)
  | tup hp rp =>
    obtain ⟨hw, h⟩ := h.chkD
    exact .inr (.inl ⟨_, _, rfl, sqT_mono le hp, by rw [rp.length]; exact hw, fun a ha => PostE.newT le ha (cutV_reps rp lo hi) h⟩)
  | _ => exact h.elim
theorem d_slice {e : Expr} {lo hi : Option Expr} {p2 pos : Pos} {g : GE} {gl gh : GP} (he : PE X e (tD X.K C W ows .fz g)) (hl : PO X lo (tO X.K C W ows gl)) (hh : PO X hi (tO X.K C W ows gh)) :
    PE X (.Subscript e (.Slice lo hi none p2) pos) (tD X.K C W ows .fz (gSl g gl gh)) := (pe_slice sl_A he hl hh).monoD fun σ H Q ⟨F, env, As, c, h⟩ =>
  ⟨F, env, As, c, PostE.first h fun v d F1 H1 p r h1 => ⟨F1, env, As, c.pr p, PostE.firstO h1 fun l F2 H2 p2 h2 => ⟨F2, env, As, (c.pr p).pr p2, PostE.firstO h2 fun u F3 H3 p3 h3 => sl_of p3.fh ((r.mono p2.le).mono p3.le) h3⟩⟩⟩
end

/-! ### texts -/
def splitD (a : Str) : D → R D
  | .str b => chk (decide ((b.length == 0) = false ∧ a.length + 2 ≤ big)) (.ok (.lst ((Txt.split a b).map .str)))
  | _ => .bad
def strs? : List D → Option (List Str)
  | [] => some []
  | .str i :: r => (strs? r).map (i :: ·)
  | _ :: _ => none
def joinOf (a : Str) (ds : List D) : R D := match strs? ds with
  | some ys => chk (decide ((ys.map (·.length)).sum + ys.length * a.length ≤ big)) (.ok (.str (Txt.join a ys)))
  | none => .bad
def joinD (a : Str) : D → R D
  | .lst ds => joinOf a ds
  | .tup ds => joinOf a ds
  | _ => .bad
def sidxD (a : Str) : D → R D
  | .str b => (match Txt.index0 a b with | some k => .ok (.int (k : Nat)) | none => .bad)
  | _ => .bad
section
variable {K : PySem.W.Frag} {C : Cid → Addr}
theorem strs_ok {F : Hp} : ∀ {vs : List V} {ds : List D} {ns : List Str}, Reps K C F vs ds → strs? ds = some ns → vs = ns.map V.str
  | _, _, _, .nil, h => by cases h; rfl
  | _, _, _, .cons (d := d) (ds := ds) h1 h2, h => by
    cases h1 <;> first | (cases h; done) | skip
    have h' : (strs? ds).map (_ :: ·) = some _ := h
    cases q : strs? ds with
    | none => rw [q] at h'; cases h'
    | some ms => rw [q] at h'; cases h'; rw [strs_ok h2 q]; rfl
theorem strs_map : ∀ ns : List Str, strs? (ns.map D.str) = some ns
  | [] => rfl
  | n :: r => by rw [List.map_cons]; show (strs? (r.map D.str)).map (n :: ·) = _; rw [strs_map r]; rfl
end
/-- a method of a text, one argument -/
def gS1 (f : Str → D → R D) (go ge : GE) : GE := fun env => (go env).bind fun a => match a with
  | .str z => (ge env).bind (f z)
  | _ => .bad
section
variable {X : Cx} {C : Cid → Addr} {W : WX} {ows : List Ow} {ow : Ow}
def Mt1 (K : PySem.W.Frag) (C : Cid → Addr) (r : V → List V → Hp → VK → Prop) (ow : Ow) (f : Str → D → R D) : Prop :=
  ∀ (W : WX) (σ : L2.St) (F H : Hp) (z : Str) (y : V) (b : D) (Q : VK), Same F H → Rep K C F y b → PostE K C W ow σ F H Q (f z b) → r (.str z) [y] H Q
theorem d_m1 {e o : Expr} {id : String} {name : Str} {apos pos : Pos} {r : V → List V → Hp → VK → Prop} {f : Str → D → R D} {go ge : GE} (slot : Slot "str" name id) (ty : typeOf (.builtin id) = pure (.type "method_descriptor")) (rule : MtR X id r) (h1 : Mt1 X.K C r ow f)
    (ho : PE X o (tD X.K C W ows .fz go)) (he : PE X e (tD X.K C W ows .fz ge)) (hs : starEach [e] X.env = [(false, eval e X.env)] := by rfl) (hbase : attributeBase o name X.env (eval o X.env) = eval o X.env := by rfl) (hline : (apos.endLine == pos.line) = true := by rfl) :
    PE X (.Call (.Attribute o name apos) [e] [] pos) (tD X.K C W ows ow (gS1 f go ge)) := (pe_m1 slot ty rule ho he hs hbase hline).monoD fun σ H Q ⟨F, env, As, c, h⟩ =>
  ⟨F, env, As, c, PostE.first h fun v d F1 H1 p r1 h1' => by
    cases r1 with
    | str => exact ⟨⟨_, rfl⟩, F1, env, As, c.pr p, PostE.first h1' fun v2 d2 F2 H2 p2 r2 h2 => h1 W σ F2 H2 _ v2 d2 Q p2.fh r2 h2⟩
    | _ => exact h1'.elim⟩
theorem d_split {e o : Expr} {apos pos : Pos} {go ge : GE} (ho : PE X o (tD X.K C W ows .fz go)) (he : PE X e (tD X.K C W ows .fz ge)) (hs : starEach [e] X.env = [(false, eval e X.env)] := by rfl) (hbase : attributeBase o "split" X.env (eval o X.env) = eval o X.env := by rfl) (hline : (apos.endLine == pos.line) = true := by rfl) :
    PE X (.Call (.Attribute o "split" apos) [e] [] pos) (tD X.K C W ows (.lst .fz) (gS1 splitD go ge)) := d_m1 PySem.F.slot_str_split PySem.F.type_str_split mt_split (fun W σ F H z y b Q le r h => by
  cases r <;> first | exact h.elim | skip
  obtain ⟨⟨h1, h2⟩, h⟩ := h.chkD
  exact ⟨_, _, rfl, rfl, h1, by rw [big_eq]; exact h2, fun a ha => PostE.newL le ha (Reps.strs _) h⟩) ho he hs hbase hline
theorem d_join {e o : Expr} {apos pos : Pos} {go ge : GE} (ho : PE X o (tD X.K C W ows .fz go)) (he : PE X e (tD X.K C W ows .fz ge)) (hs : starEach [e] X.env = [(false, eval e X.env)] := by rfl) (hbase : attributeBase o "join" X.env (eval o X.env) = eval o X.env := by rfl) (hline : (apos.endLine == pos.line) = true := by rfl) :
    PE X (.Call (.Attribute o "join" apos) [e] [] pos) (tD X.K C W ows .fz (gS1 joinD go ge)) := d_m1 PySem.F.slot_str_join PySem.F.type_str_join mt_join (fun W σ F H z y b Q le r h => by
  have go : ∀ {p : Addr} {vs : List V} {ds : List D}, (SqL X.K H p vs ∨ SqT X.K H p vs) → Reps X.K C F vs ds → PostE X.K C W .fz σ F H Q (joinOf z ds) →
      ∃ a p', ∃ ys : List Str, V.str z = .str a ∧ [V.ref p] = [.ref p'] ∧ (SqL X.K H p' (ys.map V.str) ∨ SqT X.K H p' (ys.map V.str)) ∧ (ys.map (·.length)).sum + ys.length * a.length ≤ 16777216 ∧ Q (.str (Txt.join a ys)) H := fun {p vs ds} hs rs h => by
    unfold joinOf at h
    cases q : strs? ds with
    | none => rw [q] at h; exact h.elim
    | some ys =>
      rw [q] at h
      obtain ⟨h1, h⟩ := PostE.chkD h
      exact ⟨z, p, ys, rfl, rfl, by rw [← strs_ok rs q]; exact hs, h1, PostE.here le .str h⟩
  cases r with
  | lst hp rp => exact go (.inl (SqL.of (le _ _ hp))) rp h
  | tup hp rp => exact go (.inr (sqT_mono le hp)) rp h
  | _ => exact h.elim) ho he hs hbase hline
theorem d_sidx {e o : Expr} {apos pos : Pos} {go ge : GE} (hc : X.calm = true) (tk : Takes X W) (ho : PE X o (tD X.K C W ows .fz go)) (he : PE X e (tD X.K C W ows .fz ge)) (hs : starEach [e] X.env = (false, eval e X.env) :: starEach [] X.env := by rfl) (hbase : attributeBase o "index" X.env (eval o X.env) = eval o X.env := by rfl) (hline : (apos.endLine == pos.line) = true := by rfl) :
    PE X (.Call (.Attribute o "index" apos) [e] [] pos) (tD X.K C W ows .fz (gS1 sidxD go ge)) := (pe_bmS PySem.F.plainAttrs_str PySem.F.slot_str_index PySem.F.type_str_index (mt_indexX hc tk) ho (pa_cons he pa_nil hs) hbase (by rw [hs]; rfl) hline hs rfl).monoD fun σ H Q ⟨F, env, As, c, h⟩ =>
  ⟨F, env, As, c, PostE.first h fun v d F1 H1 p r1 h1' => by
    cases r1 with
    | @str z =>
      refine ⟨rfl, F1, env, As, c.pr p, PostE.first h1' fun v2 d2 F2 H2 p2 r2 h2 => ?_⟩
      cases r2 <;> first | exact h2.elim | skip
      rename_i b
      have h2 : PostE X.K C W .fz σ F2 H2 Q (match Txt.index0 z b with | some k => .ok (.int (k : Nat)) | none => .bad) := h2
      refine ⟨z, b, rfl, rfl, fun k e => ?_, fun e => ?_⟩
      · rw [e] at h2; exact PostE.here p2.fh .int h2
      · rw [e] at h2; exact h2.elim
    | _ => exact h1'.elim⟩
end
end DL

set_option maxHeartbeats 4000000
/-! The value layer: loops, changes of owned lists. -/
namespace DL
open PySem PySem.Spec PyProof.Rows L2

/-! ### what is walked -/
section
variable (K : PySem.W.Frag) (C : Cid → Addr)
structure ItD (J : It) (F : Hp) (ds : List DL.D) : Prop where
  go : ∀ (i : Nat) (H : Hp), Same F H → i < ds.length → J.go i H
  stop : ∀ (i : Nat) (H : Hp), Same F H → ds.length ≤ i → J.stop i H
  yld : ∀ (i : Nat) (F1 H : Hp) (x : V) (H' : Hp), i < ds.length → Same F F1 → Same F1 H → J.yld i H x H' → ∃ d F', ds[i]? = some d ∧ Pr F1 H F' H' ∧ Rep K C F' x d
def PostI (W : WX) (σ : L2.St) (F H : Hp) (Q : It → Hp → Prop) : R (List DL.D) → Prop
  | .ok ds => ∀ J F' H', Pr F H F' H' → ItD K C J F' ds → Q J H'
  | .exc x => ∀ cls dd F' H', Pr F H F' H' → XR K C F' x cls dd → W cls dd σ H'
  | .bad => False
def tI (W : WX) (ows : List Ow) (g : GA) : TI := fun σ H R => ∃ F env As, Cur K C F H σ env ows As ∧ PostI K C W σ F H R (g env)
end
theorem _root_.L2.PI.monoD {X : Cx} {tg e : Expr} {t t' : TI} (h : PI X tg e t) (m : ∀ σ H R, t' σ H R → t σ H R) : PI X tg e t' := ⟨fun pins s σ H R I q => h.run pins s σ H R I (m σ H R q)⟩
section
variable {K : PySem.W.Frag} {C : Cid → Addr} {F H : Hp} {σ : L2.St} {W : WX}
theorem PostI.pr {F1 H1 : Hp} {Q : It → Hp → Prop} (p : Pr F H F1 H1) : ∀ {r : R (List DL.D)}, PostI K C W σ F H Q r → PostI K C W σ F1 H1 Q r
  | .ok _, h => fun J F' H' q it => h J F' H' (p.trans q) it
  | .exc _, h => fun cls dd F' H' q x => h cls dd F' H' (p.trans q) x
  | .bad, h => h
theorem PostI.first {Q : It → Hp → Prop} {k : DL.D → R (List DL.D)} {S : VK} : ∀ {r : R DL.D}, PostI K C W σ F H Q (r.bind k) →
    (∀ v d F1 H1, Pr F H F1 H1 → Rep K C F1 v d → PostI K C W σ F1 H1 Q (k d) → S v H1) → PostE K C W .fz σ F H S r
  | .ok d, h, hk => fun v F' H' A p ro _ _ => hk v d F' H' p ro.fz_inv (PostI.pr p (show PostI K C W σ F H Q (k d) from h))
  | .exc _, h, _ => h
  | .bad, h, _ => h
theorem PostI.firstA {Q : It → Hp → Prop} {k : List DL.D → R (List DL.D)} {S : List V → Hp → Prop} : ∀ {r : R (List DL.D)}, PostI K C W σ F H Q (r.bind k) →
    (∀ vs ds F1 H1, Pr F H F1 H1 → Reps K C F1 vs ds → PostI K C W σ F1 H1 Q (k ds) → S vs H1) → PostA K C W σ F H S r
  | .ok ds, h, hk => fun vs F' H' p r => hk vs ds F' H' p r (PostI.pr p (show PostI K C W σ F H Q (k ds) from h))
  | .exc _, h, _ => h
  | .bad, h, _ => h
theorem PostI.here {Q : It → Hp → Prop} {J : It} {ds : List DL.D} (le : Same F H) (it : ItD K C J F ds) (h : PostI K C W σ F H Q (.ok ds)) : Q J H := h J F H (Pr.refl le) it
theorem it_list {a : Addr} {vs : List V} {ds : List DL.D} (h : SqL K F a vs) (r : Reps K C F vs ds) : ItD K C (Itl K a) F ds where
  go := fun i H le hi => by
    obtain ⟨v, hv, _⟩ := r.get (List.getElem?_eq_getElem hi)
    exact ⟨vs, v, le.seq h, hv⟩
  stop := fun i H le hi => ⟨vs, le.seq h, by rw [r.length]; exact hi⟩
  yld := fun i F1 H x H' _ l1 l2 y => by
    obtain ⟨e, y⟩ := y
    subst e
    obtain ⟨d, h1, h2⟩ := r.getV (y vs ((l1.trans l2).seq h))
    exact ⟨d, F1, h1, Pr.refl l2, h2.mono l1⟩
theorem it_tup {a : Addr} {vs : List V} {ds : List DL.D} (h : TupAt K F a vs) (r : Reps K C F vs ds) : ItD K C (Itt K a) F ds where
  go := fun i H le hi => by
    obtain ⟨v, hv, _⟩ := r.get (List.getElem?_eq_getElem hi)
    exact ⟨vs, v, sqT_mono le h, hv⟩
  stop := fun i H le hi => ⟨vs, sqT_mono le h, by rw [r.length]; exact hi⟩
  yld := fun i F1 H x H' _ l1 l2 y => by
    obtain ⟨e, y⟩ := y
    subst e
    obtain ⟨d, h1, h2⟩ := r.getV (y vs (sqT_mono (l1.trans l2) h))
    exact ⟨d, F1, h1, Pr.refl l2, h2.mono l1⟩
def charsD (x : Str) : List DL.D := x.cps.toList.map fun c => .str ⟨#[c]⟩
theorem it_str {x : Str} : ItD K C (Its x) F (charsD x) where
  go := fun i H le hi => by unfold charsD at hi; show i < x.cps.size; simpa using hi
  stop := fun i H le hi => by unfold charsD at hi; show x.cps.size ≤ i; simpa using hi
  yld := fun i F1 H v H' _ l1 l2 y => by
    obtain ⟨e, c, hc, ev⟩ := y
    subst e ev
    refine ⟨.str ⟨#[c]⟩, F1, ?_, Pr.refl l2, .str⟩
    unfold charsD
    rw [List.getElem?_map, Array.getElem?_toList, hc]
    rfl
def rngL (lo : Int) (n : Nat) : List DL.D := (List.range n).map fun i => .int (lo + (i : Nat))
theorem rngL_length (lo : Int) (n : Nat) : (rngL lo n).length = n := by unfold rngL; simp
theorem it_rng {lo : Int} {n : Nat} : ItD K C (Itr lo n) F (rngL lo n) where
  go := fun i H le hi => by rw [rngL_length] at hi; exact hi
  stop := fun i H le hi => by rw [rngL_length] at hi; exact hi
  yld := fun i F1 H v H' hi l1 l2 y => by
    obtain ⟨e, ev⟩ := y
    subst e ev
    rw [rngL_length] at hi
    refine ⟨.int (lo + (i : Nat)), F1, ?_, Pr.refl l2, .int⟩
    unfold rngL
    rw [List.getElem?_map, List.getElem?_range hi]
    rfl
def itD : DL.D → R (List DL.D)
  | .lst ds => .ok ds
  | .tup ds => .ok ds
  | .str x => .ok (charsD x)
  | .scr ns => .ok (ns.map .int)
  | _ => .bad
def iSeq (g : GE) : GA := fun env => (g env).bind itD
end
section
variable {X : Cx} {C : Cid → Addr} {W : WX} {ows : List Ow} {tg : Expr}
theorem i_seq {e : Expr} {g : GE} (h : PE X e (tD X.K C W ows .fz g)) : PI X tg e (tI X.K C W ows (iSeq g)) :=
  (PI.orD (PI.orD (pi_list h) (pi_tup h)) (pi_str h)).monoD fun σ H R ⟨F, env, As, c, q⟩ => by
    have q' : PostI X.K C W σ F H R ((g env).bind itD) := q
    cases e : g env with
    | bad => rw [e] at q'; exact q'.elim
    | exc x =>
      rw [e] at q'
      exact .inr ⟨F, env, As, c, by rw [e]; exact q'⟩
    | ok d =>
      cases d with
      | lst ds =>
        rw [e] at q'
        refine .inl (.inl ⟨F, env, As, c, ?_⟩)
        rw [e]
        intro v F' H' A p ro _ _
        cases ro.fz_inv with
        | lst hp rp => exact ⟨_, rfl, ⟨_, SqL.of (p.fh _ _ hp)⟩, q' _ F' H' p (it_list (SqL.of hp) rp)⟩
      | tup ds =>
        rw [e] at q'
        refine .inl (.inr ⟨F, env, As, c, ?_⟩)
        rw [e]
        intro v F' H' A p ro _ _
        cases ro.fz_inv with
        | tup hp rp => exact ⟨_, rfl, ⟨_, sqT_mono p.fh hp⟩, q' _ F' H' p (it_tup hp rp)⟩
      | str x =>
        rw [e] at q'
        refine .inr ⟨F, env, As, c, ?_⟩
        rw [e]
        intro v F' H' A p ro _ _
        cases ro.fz_inv with
        | str => exact ⟨_, rfl, q' _ F' H' p it_str⟩
      | scr ns =>
        rw [e] at q'
        refine .inl (.inl ⟨F, env, As, c, ?_⟩)
        rw [e]
        intro v F' H' A p ro _ _
        cases ro.fz_inv with
        | scr hp => exact ⟨_, rfl, ⟨_, p.fh.seq hp⟩, q' _ F' H' p (it_list hp (Reps.ints ns))⟩
      | _ => rw [e] at q'; exact q'.elim
def in62 (j : Int) : Bool := decide (-(2 ^ 62) ≤ j ∧ j < 2 ^ 62)
def rng1D : List DL.D → R (List DL.D)
  | [.int j] => chk (in62 j) (.ok (rngL 0 j.toNat))
  | _ => .bad
def rng2D : List DL.D → R (List DL.D)
  | [.int i, .int j] => chk (in62 i && in62 j) (.ok (rngL i (j - i).toNat))
  | _ => .bad
def iArg (f : List DL.D → R (List DL.D)) (t : GA) : GA := fun env => (t env).bind f
theorem PostI.chk {K : PySem.W.Frag} {F H : Hp} {σ : L2.St} {Q : It → Hp → Prop} {b : Bool} {r : R (List DL.D)} (h : PostI K C W σ F H Q (DL.chk b r)) : b = true ∧ PostI K C W σ F H Q r := by
  cases b with
  | true => exact ⟨rfl, h⟩
  | false => exact h.elim
theorem i_rng1 {a : Expr} {t : GA} {p pos : Pos} (hg : Gl X "range") (hm : X.mg "range" = none) (ha : PA X [a] (tA X.K C W ows t)) (hs : starEach [a] X.env = [(false, eval a X.env)] := by rfl) : PI X tg (.Call (.Name "range" p) [a] [] pos) (tI X.K C W ows (iArg rng1D t)) :=
  (pi_range1 hg hm ha hs).monoD fun σ H R ⟨F, env, As, c, q⟩ => ⟨F, env, As, c, PostI.firstA q fun vs ds F1 H1 p r h1 => by
    cases r with
    | nil => exact h1.elim
    | cons r1 t =>
      cases t with
      | cons _ _ => cases r1 <;> exact h1.elim
      | nil =>
        cases r1 <;> first | exact h1.elim | skip
        rename_i j
        obtain ⟨hb, h1⟩ := h1.chk
        obtain ⟨b1, b2⟩ := of_decide_eq_true hb
        exact ⟨j, rfl, b1, b2, PostI.here p.fh it_rng h1⟩⟩
theorem i_rng2 {a b : Expr} {t : GA} {p pos : Pos} (hg : Gl X "range") (hm : X.mg "range" = none) (ha : PA X [a, b] (tA X.K C W ows t)) (hs : starEach [a, b] X.env = [(false, eval a X.env), (false, eval b X.env)] := by rfl) (hs2 : starEach [b] X.env = [(false, eval b X.env)] := by rfl) :
    PI X tg (.Call (.Name "range" p) [a, b] [] pos) (tI X.K C W ows (iArg rng2D t)) :=
  (pi_range2 hg hm ha hs hs2).monoD fun σ H R ⟨F, env, As, c, q⟩ => ⟨F, env, As, c, PostI.firstA q fun vs ds F1 H1 p r h1 => by
    cases r with
    | nil => exact h1.elim
    | cons r1 t =>
      cases t with
      | nil => cases r1 <;> exact h1.elim
      | cons r2 t =>
        cases t with
        | cons _ _ => cases r1 <;> cases r2 <;> exact h1.elim
        | nil =>
          cases r1 <;> cases r2 <;> first | exact h1.elim | skip
          rename_i i j
          obtain ⟨hb, h1⟩ := h1.chk
          obtain ⟨hb1, hb2⟩ := Bool.and_eq_true_iff.mp hb
          obtain ⟨b1, b2⟩ := of_decide_eq_true hb1
          obtain ⟨b3, b4⟩ := of_decide_eq_true hb2
          exact ⟨i, j, rfl, ⟨b1, b2, b3, b4⟩, PostI.here p.fh it_rng h1⟩⟩
/-! ### targets -/
def frzAt (ows : List Ow) : List Nat → List Ow
  | [] => ows
  | i :: r => frzAt (ows.set i .fz) r
def TgD (K : PySem.W.Frag) (C : Cid → Addr) (g : TG) (tg : DL.D → Dv → Option Dv) (sl : List Nat) : Prop :=
  ∀ (F H : Hp) (σ : L2.St) (env : Dv) (ows : List Ow) (As : Nat → List Addr) (x : V) (d : DL.D) (env' : Dv) (Q : L2.St → Hp → Prop), Cur K C F H σ env ows As → Rep K C F x d → tg d env = some env' →
    (∀ σ' As', Cur K C F H σ' env' (frzAt ows sl) As' → (∀ i a, a ∈ As' i → a ∈ As i) → Q σ' H) → g x σ H Q
def TgsD (K : PySem.W.Frag) (C : Cid → Addr) (g : TGs) (tg : List DL.D → Dv → Option Dv) (sl : List Nat) : Prop :=
  ∀ (F H : Hp) (σ : L2.St) (env : Dv) (ows : List Ow) (As : Nat → List Addr) (xs : List V) (ds : List DL.D) (env' : Dv) (Q : L2.St → Hp → Prop), Cur K C F H σ env ows As → Reps K C F xs ds → tg ds env = some env' →
    (∀ σ' As', Cur K C F H σ' env' (frzAt ows sl) As' → (∀ i a, a ∈ As' i → a ∈ As i) → Q σ' H) → g xs σ H Q
def tgN (i : Nat) : DL.D → Dv → Option Dv := fun d env => some (env.set i (some d))
theorem set_fz (ows : List Ow) (i : Nat) : (ows.set i .fz).getD i .fz = .fz := by
  rw [List.getD_eq_getElem?_getD]
  by_cases h : i < ows.length
  · rw [List.getElem?_set_self h]; rfl
  · rw [List.getElem?_eq_none (by simpa using h)]; rfl
theorem tg_name {K : PySem.W.Frag} (i : Nat) : TgD K C (gName i) (tgN i) [i] := by
  intro F H σ env ows As x d env' Q c r e h
  cases e
  exact h _ _ (c.set (A := []) (.fz r) List.nodup_nil (fun _ z => nomatch z) (set_fz ows i)) fun j a ha => by
    split at ha
    · cases ha
    · exact ha
def tgsNil : List DL.D → Dv → Option Dv
  | [], env => some env
  | _, _ => none
def tgsCons (t : DL.D → Dv → Option Dv) (u : List DL.D → Dv → Option Dv) : List DL.D → Dv → Option Dv
  | d :: r, env => (t d env).bind (u r)
  | _, _ => none
theorem tgs_nil {K : PySem.W.Frag} : TgsD K C gNil tgsNil [] := by
  intro F H σ env ows As xs ds env' Q c r e h
  cases r with
  | nil => cases e; exact ⟨rfl, h σ As c fun _ _ z => z⟩
  | cons _ _ => cases e
theorem frzAt_append (ows : List Ow) : ∀ a b : List Nat, frzAt ows (a ++ b) = frzAt (frzAt ows a) b
  | [], _ => rfl
  | i :: r, b => frzAt_append (ows.set i .fz) r b
theorem tgs_cons {K : PySem.W.Frag} {g : TG} {gs : TGs} {t : DL.D → Dv → Option Dv} {u : List DL.D → Dv → Option Dv} {sl sl' : List Nat} (h1 : TgD K C g t sl) (h2 : TgsD K C gs u sl') : TgsD K C (gCons g gs) (tgsCons t u) (sl ++ sl') := by
  intro F H σ env ows As xs ds env' Q c r e h
  cases r with
  | nil => cases e
  | cons r1 rr =>
    rename_i x d xs ds
    have e : (t d env).bind (u ds) = some env' := e
    cases q : t d env with
    | none => rw [q] at e; cases e
    | some env1 =>
      rw [q] at e
      refine ⟨x, xs, rfl, h1 F H σ env ows As x d env1 _ c r1 q fun σ1 As1 c1 s1 => ?_⟩
      refine h2 F H σ1 env1 _ As1 xs ds env' Q c1 rr e fun σ2 As2 c2 s2 => ?_
      rw [← frzAt_append] at c2
      exact h σ2 As2 c2 fun i a ha => s1 i a (s2 i a ha)
def tgT (u : List DL.D → Dv → Option Dv) : DL.D → Dv → Option Dv
  | .tup ds, env => u ds env
  | _, _ => none
theorem tg_tup {K : PySem.W.Frag} {n : Nat} {gs : TGs} {u : List DL.D → Dv → Option Dv} {sl : List Nat} (h : TgsD K C gs u sl) (hn : ∀ ds env env', u ds env = some env' → ds.length = n) : TgD K C (L2.gTup K n gs) (tgT u) sl := by
  intro F H σ env ows As x d env' Q c r e k
  cases r <;> first | (cases e; done) | skip
  rename_i a vs ds hp rp
  exact ⟨a, vs, rfl, sqT_mono c.le hp, by rw [rp.length]; exact hn _ _ _ e, h F H σ env ows As vs ds env' Q c rp e k⟩
theorem tgs_len {t : DL.D → Dv → Option Dv} {u : List DL.D → Dv → Option Dv} {n : Nat} (h : ∀ ds env env', u ds env = some env' → ds.length = n) : ∀ ds env env', tgsCons t u ds env = some env' → ds.length = n + 1
  | [], _, _, e => by cases e
  | d :: r, env, env', e => by
    have e : (t d env).bind (u r) = some env' := e
    cases q : t d env with
    | none => rw [q] at e; cases e
    | some env1 => rw [q] at e; exact congrArg (· + 1) (h _ _ _ e)
theorem tgs_len0 : ∀ ds env env', tgsNil ds env = some env' → ds.length = 0
  | [], _, _, _ => rfl
  | _ :: _, _, _, e => by cases e
/-! ### for -/
def loopG (tg : DL.D → Dv → Option Dv) (body : GS) : List DL.D → GS
  | [] => fun env => .nx env
  | d :: r => fun env => match tg d env with
    | none => .bad
    | some env1 => match body env1 with
      | .nx e => loopG tg body r e
      | .ct e => loopG tg body r e
      | .bk e => .nx e
      | q => q
def sFor (it : GA) (tg : DL.D → Dv → Option Dv) (body : GS) : GS := fun env => match it env with
  | .ok ds => loopG tg body ds env
  | .exc x => .ex x env
  | .bad => .bad
theorem s_for {iter : Expr} {body : List Stmt} {pos : Pos} {gi : GA} {g : TG} {t : DL.D → Dv → Option Dv} {sl : List Nat} {gb : GS} {o : OwS} (hp : PassesOwn (model X.prog X.w) X.A X.env X.xe) (hc : X.calm = true) (hi : PI X tg iter (tI X.K C W o.pre gi)) (hg : PG X tg g) (ht : TgD X.K C g t sl)
    (hb : PSs X body (tS X.K C W ⟨frzAt o.pre sl, o.pre, o.ret, o.ex, o.pre, o.pre, o.rw⟩ gb)) (wx : WkI o.pre o.ex) (hpost : o.post = o.pre := by rfl) (hs : ∀ x, foldedSetIterable iter X.env x = pure x := by intro _; rfl) : PS X (.For tg iter body [] pos) (tS X.K C W o (sFor gi t gb)) :=
  (ps_for hp hc hi hg hb hs).monoD fun D σ H ⟨F, env, As, c, q⟩ => by
    refine ⟨F, env, As, c, ?_⟩
    have q : PostS X.K C W o F H As D (match gi env with | .ok ds => loopG t gb ds env | .exc x => .ex x env | .bad => .bad) := q
    cases e : gi env with
    | bad => rw [e] at q; exact q
    | exc x => rw [e] at q; exact q.exc c wx
    | ok ds =>
      rw [e] at q
      intro J F1 H1 p it
      have q1 : PostS X.K C W o F1 H1 As D (loopG t gb ds env) := q.fr p.fr
      have c1 := c.pr p
      refine ⟨fun i m σ H => m = ds.length - i ∧ i ≤ ds.length ∧ ∃ F2 env2 As2, Cur X.K C F2 H σ env2 o.pre As2 ∧ Fr F1 H1 As F2 H As2 ∧ PostS X.K C W o F2 H As2 D (loopG t gb (ds.drop i) env2),
        ⟨ds.length, by simp, Nat.zero_le _, F1, env, As, c1, Fr.refl, q1⟩, ?_⟩
      rintro i m σ2 H2 ⟨rfl, hile, F2, env2, As2, c2, f2, q2⟩
      by_cases hlt : i < ds.length
      · refine .inr ⟨it.go i H2 (f2.le.trans c2.le) hlt, fun σ' H' => ∃ F3 env3 As3, Cur X.K C F3 H' σ' env3 o.pre As3 ∧ Fr F1 H1 As F3 H' As3 ∧ PostS X.K C W o F3 H' As3 D (loopG t gb (ds.drop (i + 1)) env3),
          fun σ' H' ⟨F3, env3, As3, c3, f3, q3⟩ => ⟨ds.length - (i + 1), by omega, rfl, hlt, F3, env3, As3, c3, f3, q3⟩, fun x H' y => ?_⟩
        obtain ⟨d, F3, hd, p3, r3⟩ := it.yld i F2 H2 x H' hlt f2.le c2.le y
        have hdrop : ds.drop i = d :: ds.drop (i + 1) := by
          have := List.drop_eq_getElem_cons hlt
          rw [this]
          congr 1
          rw [List.getElem?_eq_getElem hlt] at hd
          exact Option.some.inj hd
        have q3 : PostS X.K C W o F3 H' As2 D (match t d env2 with | none => .bad | some env1 => match gb env1 with | .nx e => loopG t gb (ds.drop (i + 1)) e | .ct e => loopG t gb (ds.drop (i + 1)) e | .bk e => .nx e | q => q) := by
          have z := q2.fr (p3.fr (As := As2))
          rw [hdrop] at z
          exact z
        have c3 := c2.pr p3
        cases et : t d env2 with
        | none => rw [et] at q3; exact q3.elim
        | some env3 =>
          rw [et] at q3
          simp only at q3
          refine ht F3 H' σ2 env2 o.pre As2 x d env3 _ c3 r3 et fun σ4 As4 c4 s4 => ?_
          refine ⟨F3, env3, As4, c4, ?_⟩
          have fr4 : Fr F3 H' As2 F3 H' As4 := ⟨Same.refl _, fun _ _ e _ => e, fun _ _ e => .inl e, fun i a ha => .inr ⟨i, s4 i a ha⟩⟩
          have q4 := q3.fr fr4
          have f4 : Fr F1 H1 As F3 H' As4 := (f2.trans p3.fr).trans fr4
          revert q4
          cases gb env3 with
          | nx e5 => exact fun q4 σ5 F5 H5 As5 f5 c5 => ⟨F5, e5, As5, c5, f4.trans f5, PostS.fr f5 q4⟩
          | ct e5 => exact fun q4 σ5 F5 H5 As5 f5 c5 => ⟨F5, e5, As5, c5, f4.trans f5, PostS.fr f5 q4⟩
          | bk e5 => exact fun q4 σ5 F5 H5 As5 f5 c5 => q4 σ5 F5 H5 As5 f5 (hpost ▸ c5)
          | rt _ _ => exact fun q4 => q4
          | ex _ _ => exact fun q4 => q4
          | bad => exact fun q4 => q4
      · have e : i = ds.length := by omega
        subst e
        rw [List.drop_length] at q2
        exact .inl ⟨it.stop _ H2 (f2.le.trans c2.le) (Nat.le_refl _), q2 σ2 F2 H2 As2 Fr.refl (hpost ▸ c2)⟩
end
end DL

set_option maxHeartbeats 4000000
/-! The value layer: changes of owned lists; comprehensions. -/
namespace DL
open PySem PySem.Spec PyProof.Rows L2
section
variable {K : PySem.W.Frag} {C : Cid → Addr} {F F' H H' : Hp} {σ : L2.St} {env : Dv} {ows : List Ow} {As : Nat → List Addr}
theorem ROs.append {e : Ow} : ∀ {vs ds A ws es B}, ROs K C F H e vs ds A → ROs K C F H e ws es B → ROs K C F H e (vs ++ ws) (ds ++ es) (A ++ B)
  | _, _, _, _, _, _, .nil, r => r
  | _, _, _, _, _, _, .cons h r, s => by
    rw [List.append_assoc]
    exact .cons h (ROs.append r s)
theorem ROs.length {e : Ow} : ∀ {vs ds A}, ROs K C F H e vs ds A → vs.length = ds.length
  | _, _, _, .nil => rfl
  | _, _, _, .cons _ r => congrArg (· + 1) (ROs.length r)
theorem ROs.one {e : Ow} {v : V} {d : DL.D} {A : List Addr} (h : RO K C F H e v d A) : ROs K C F H e [v] [d] A := by
  have := ROs.cons h (ROs.nil (K := K) (C := C) (F := F) (H := H) (e := e))
  rwa [List.append_nil] at this
theorem ROs.ofReps : ∀ {vs ds}, Reps K C F vs ds → ROs K C F H .fz vs ds []
  | _, _, .nil => .nil
  | _, _, .cons h r => ROs.cons (A := []) (.fz h) (ROs.ofReps r)
theorem ROs.reps : ∀ {vs ds A}, ROs K C F H .fz vs ds A → Reps K C F vs ds
  | _, _, _, .nil => .nil
  | _, _, _, .cons h r => .cons h.fz_inv (ROs.reps r)
theorem ROs.nilA : ∀ {vs ds A}, ROs K C F H .fz vs ds A → A = []
  | _, _, _, .nil => rfl
  | _, _, _, .cons h r => by
    rw [ROs.nilA r]
    cases h
    rfl
/-- an object that slot i owns is changed -/
theorem Cur.mut {i : Nat} {a : Addr} {u : HO} {v : V} {d : DL.D} {A : List Addr} (c : Cur K C F H σ env ows As) (ha : a ∈ As i) (hv : σ[i]? = some (some v)) (r : RO K C F (upd H a u) (ows.getD i .fz) v d A) (nd : A.Nodup)
    (f : ∀ b ∈ A, b ∈ As i ∨ (F b = none ∧ ∀ j, b ∉ As j)) : Cur K C F (upd H a u) σ (env.set i (some d)) ows (fun j => if j = i then A else As j) where
  le := fun b o e => by
    have : b ≠ a := fun z => by rw [z, c.un i a ha] at e; cases e
    rw [upd_ne this]; exact c.le b o e
  sl := fun j e h => by
    by_cases hj : j = i
    · subst hj
      have hl : j < env.length := by
        cases Nat.lt_or_ge j env.length with
        | inl h => exact h
        | inr q => rw [List.getElem?_eq_none (by simpa using q)] at h; cases h
      rw [List.getElem?_set_self hl] at h
      cases h
      exact ⟨v, hv, by rw [if_pos rfl]; exact r⟩
    · rw [List.getElem?_set_ne (Ne.symm hj)] at h
      obtain ⟨w, h1, h2⟩ := c.sl j e h
      refine ⟨w, h1, ?_⟩
      rw [if_neg hj]
      refine h2.mono (Same.refl _) fun b hb o e => ?_
      have : b ≠ a := fun z => hj (c.dj j i a (z ▸ hb) ha)
      rw [upd_ne this]; exact e
  nd := fun j => by
    split
    · exact nd
    · exact c.nd j
  dj := fun j k b hj hk => by
    have key : ∀ k, k ≠ i → b ∈ A → b ∈ As k → False := fun k hk hb hbk => by
      rcases f b hb with z | ⟨_, z⟩
      · exact hk (c.dj k i b hbk z)
      · exact z k hbk
    by_cases h1 : j = i
    · by_cases h2 : k = i
      · rw [h1, h2]
      · rw [if_pos h1] at hj; rw [if_neg h2] at hk; exact (key k h2 hj hk).elim
    · by_cases h2 : k = i
      · rw [if_neg h1] at hj; rw [if_pos h2] at hk; exact (key j h1 hk hj).elim
      · rw [if_neg h1] at hj; rw [if_neg h2] at hk; exact c.dj j k b hj hk
  un := fun j b h => by
    by_cases h1 : j = i
    · rw [if_pos h1] at h
      rcases f b h with z | ⟨z, _⟩
      · exact c.un i b z
      · exact z
    · rw [if_neg h1] at h; exact c.un j b h
  th := fun j b h => by
    by_cases h1 : j = i
    · rw [if_pos h1] at h; exact r.there b h
    · rw [if_neg h1] at h
      obtain ⟨o, e⟩ := c.th j b h
      by_cases hb : b = a
      · subst hb; exact ⟨u, upd_same⟩
      · exact ⟨o, by rw [upd_ne hb]; exact e⟩
  ln := by simpa using c.ln
theorem ne_mem {a b : Addr} {l : List Addr} (hb : b ∈ l) (ha : a ∉ l) : b ≠ a := fun z => ha (by rw [← z]; exact hb)
theorem Fr.mut {i : Nat} {a : Addr} {u : HO} {A : List Addr} (p : Pr F H F' H') (ha : a ∈ As i) (f : ∀ b ∈ A, H b = none ∨ ∃ j, b ∈ As j) : Fr F H As F' (upd H' a u) (fun j => if j = i then A else As j) :=
  ⟨p.le, fun b o e hn => by rw [upd_ne fun z => hn i (by rw [z]; exact ha)]; exact p.s _ _ e, fun b o e => (p.nw b o e).imp id .inl, fun j b h => by
    by_cases h1 : j = i
    · rw [if_pos h1] at h; exact f b h
    · rw [if_neg h1] at h; exact .inr ⟨j, h⟩⟩
theorem RO.lst_inv {e : Ow} {v : V} {d : DL.D} {A : List Addr} (h : RO K C F H (.lst e) v d A) : ∃ a vs ds A0, v = .ref a ∧ d = .lst ds ∧ A = a :: A0 ∧ H a = some (.lst vs) ∧ ROs K C F H e vs ds A0 := by
  cases h with
  | lst h r => exact ⟨_, _, _, _, rfl, rfl, rfl, h, r⟩
end
section
variable {X : Cx} {C : Cid → Addr} {W : WX} {o : OwS} {ew : Ow}
/-! ### xs.append(e) -/
def sApp (i : Nat) (g : GE) : GS := fun env => match env[i]? with
  | some (some (.lst ds)) => (match g env with
    | .ok d => (match decide (ds.length < big) with | true => .nx (env.set i (some (.lst (ds ++ [d])))) | false => .bad)
    | .exc x => .ex x env
    | .bad => .bad)
  | _ => .bad
theorem s_app (i : Nat) {x : Str} {e : Expr} {p1 apos pos pos' : Pos} {g : GE} (hN : X.N[i]? = some x) (hv : Vis X.env.scope x) (ho : o.pre.getD i .fz = .lst ew) (he : PE X e (tD X.K C W o.pre ew g)) (wx : WkI o.pre o.ex) (hp : o.post = o.pre := by rfl)
    (hs : starEach [e] X.env = (false, eval e X.env) :: starEach [] X.env := by rfl) (hline : (apos.endLine == pos.line) = true := by rfl) (hd : (x == ("__debug__" : Str)) = false := by decide) (hcd : (x == ("__classdict__" : Str)) = false := by decide) :
    PS X (.Expr (.Call (.Attribute (.Name x p1) "append" apos) [e] [] pos) pos') (tS X.K C W o (sApp i g)) :=
  (ps_expr (pe_bm PySem.F.plainAttrs_list PySem.F.slot_list_append PySem.F.type_list_append mt_append (pe_var hN hv hd hcd) (pa_cons he pa_nil hs) rfl (by rw [hs]; rfl) hline hs rfl) rfl).monoD fun D σ H ⟨F, env, As, c, q⟩ => by
    have q : PostS X.K C W o F H As D (match env[i]? with
      | some (some (.lst ds)) => (match g env with
        | .ok d => (match decide (ds.length < big) with | true => .nx (env.set i (some (.lst (ds ++ [d])))) | false => .bad)
        | .exc x => .ex x env
        | .bad => .bad)
      | _ => .bad) := q
    cases e1 : env[i]? with
    | none => rw [e1] at q; exact q.elim
    | some od =>
      cases od with
      | none => rw [e1] at q; exact q.elim
      | some d0 =>
        obtain ⟨v, hv1, hr1⟩ := c.sl i d0 e1
        rw [ho] at hr1
        obtain ⟨a, vs, ds, A0, rfl, rfl, hA, ha, hrs⟩ := hr1.lst_inv
        rw [e1] at q
        simp only at q
        refine ⟨.ref a, hv1, .inl ⟨rfl, vs, SqL.of ha⟩, F, env, As, c, ?_⟩
        have haA : a ∈ As i := by rw [hA]; exact List.mem_cons_self
        cases e2 : g env with
        | bad => rw [e2] at q; exact q.elim
        | exc y => rw [e2] at q; exact q.exc c wx
        | ok d =>
          rw [e2] at q
          simp only at q
          intro v2 F' H' A p ro nd fr
          cases e3 : decide (ds.length < big) with
          | false => rw [e3] at q; exact q.elim
          | true =>
            rw [e3] at q
            have c' := c.pr p
            have ha' := p.s _ _ ha
            have nda : (a :: A0).Nodup := by rw [← hA]; exact c.nd i
            obtain ⟨na, nd0⟩ := List.nodup_cons.mp nda
            have anew : ∀ b ∈ A, ∀ j, b ∉ As j := fun b hb j hj => by
              obtain ⟨w, hw⟩ := c.th j b hj
              rw [(fr b hb).1] at hw; cases hw
            have aA : a ∉ A := fun z => anew a z i haA
            refine ⟨a, vs, v2, rfl, rfl, ha', by rw [hrs.length, big_eq]; exact of_decide_eq_true e3, ?_⟩
            have old : ROs X.K C F' (upd H' a (.lst (vs ++ [v2]))) ew vs ds A0 := hrs.mono p.le fun b hb u e => by
              rw [upd_ne (ne_mem hb na)]; exact p.s _ _ e
            have new : RO X.K C F' (upd H' a (.lst (vs ++ [v2]))) ew v2 d A := ro.mono (Same.refl _) fun b hb u e => by
              rw [upd_ne (ne_mem hb aA)]; exact e
            have c2 := c'.mut (i := i) (u := .lst (vs ++ [v2])) (A := a :: (A0 ++ A)) haA hv1 (by rw [ho]; exact RO.lst upd_same (old.append (ROs.one new))) (by
                refine List.nodup_cons.mpr ⟨fun z => ?_, List.nodup_append.mpr ⟨nd0, nd, fun b hb b' hb' z => ?_⟩⟩
                · rcases List.mem_append.mp z with z | z
                  · exact na z
                  · exact aA z
                · subst z
                  exact anew b hb' i (by rw [hA]; exact List.mem_cons_of_mem _ hb)) (fun b hb => by
                rcases List.mem_cons.mp hb with rfl | hb
                · exact .inl haA
                · rcases List.mem_append.mp hb with hb | hb
                  · exact .inl (by rw [hA]; exact List.mem_cons_of_mem _ hb)
                  · exact .inr ⟨(fr b hb).2, anew b hb⟩)
            refine q σ F' _ _ (Fr.mut (A := a :: (A0 ++ A)) p haA fun b hb => ?_) (hp ▸ c2)
            rcases List.mem_cons.mp hb with rfl | hb
            · exact .inr ⟨i, haA⟩
            · rcases List.mem_append.mp hb with hb | hb
              · exact .inr ⟨i, by rw [hA]; exact List.mem_cons_of_mem _ hb⟩
              · exact .inl (fr b hb).1
end
end DL

set_option maxHeartbeats 4000000
/-! The value layer: list comprehensions. -/
namespace DL
open PySem PySem.Spec PyProof.Rows L2
theorem _root_.L2.PTs.monoD {X : Cx} {ifs : List Expr} {t t' : TT} (h : PTs X ifs t) (m : ∀ σ H Q, t' σ H Q → t σ H Q) : PTs X ifs t' := ⟨fun pins s σ H Q I q => h.run pins s σ H Q I (m σ H Q q)⟩
def wipeE (env : Dv) : List Nat → Dv
  | [] => env
  | v :: vs => (wipeE env vs).set v none
def lcLoop (env : Dv) (tg : D → Dv → Option Dv) (test : GT) (elt : GE) : List D → List D → R D
  | [], acc => .ok (.lst acc)
  | d :: r, acc => match tg d env with
    | none => .bad
    | some e1 => match test e1 with
      | .ok true => (match elt e1 with
        | .ok y => chk (decide (acc.length < big)) (lcLoop env tg test elt r (acc ++ [y]))
        | _ => .bad)
      | .ok false => lcLoop env tg test elt r acc
      | _ => .bad
def gLc (own : List Nat) (it : GA) (tg : D → Dv → Option Dv) (test : GT) (elt : GE) : GE := fun env => (it env).bind fun ds => lcLoop (wipeE env own) tg test elt ds []
def gYes : GT := fun _ => .ok true
abbrev W0 : WX := fun _ _ _ _ => False
section
variable {K : PySem.W.Frag} {C : Cid → Addr} {F H : Hp} {σ : L2.St} {env : Dv} {ows : List Ow} {As : Nat → List Addr} {W : WX}
theorem wipe_get (σ : L2.St) {i : Nat} : ∀ {vs : List Nat}, i ∉ vs → (wipe σ vs)[i]? = σ[i]?
  | [], _ => rfl
  | v :: vs, h => by
    unfold wipe
    rw [List.getElem?_set_ne (fun z => h (by rw [z]; exact List.mem_cons_self))]
    exact wipe_get σ fun z => h (List.mem_cons_of_mem _ z)
theorem wipeE_some {i : Nat} {d : D} : ∀ {vs : List Nat}, (wipeE env vs)[i]? = some (some d) → env[i]? = some (some d) ∧ i ∉ vs
  | [], h => ⟨h, by simp⟩
  | v :: vs, h => by
    unfold wipeE at h
    by_cases hi : v = i
    · subst hi
      by_cases hv : v < (wipeE env vs).length
      · rw [List.getElem?_set_self hv] at h; cases h
      · rw [List.getElem?_eq_none (by simpa using hv)] at h; cases h
    · rw [List.getElem?_set_ne hi] at h
      obtain ⟨h1, h2⟩ := wipeE_some h
      exact ⟨h1, by simp only [List.mem_cons, not_or]; exact ⟨fun e => hi e.symm, h2⟩⟩
theorem wipeE_length : ∀ vs : List Nat, (wipeE env vs).length = env.length
  | [] => rfl
  | v :: vs => by unfold wipeE; rw [List.length_set, wipeE_length vs]
theorem Cur.wipe (c : Cur K C F H σ env ows As) (own : List Nat) : Cur K C F H (L2.wipe σ own) (wipeE env own) ows As :=
  ⟨c.le, fun i d e => by
    obtain ⟨e1, hn⟩ := wipeE_some e
    obtain ⟨v, h1, h2⟩ := c.sl i d e1
    exact ⟨v, by rw [wipe_get σ hn]; exact h1, h2⟩, c.nd, c.dj, c.un, c.th, by rw [wipe_length, wipeE_length]; exact c.ln⟩
end
theorem wipe_in (σ : L2.St) {j : Nat} : ∀ {vs : List Nat}, j ∈ vs → (L2.wipe σ vs)[j]? = if j < σ.length then some none else none
  | v :: vs, h => by
    unfold L2.wipe
    by_cases hj : j = v
    · subst hj
      by_cases hl : j < σ.length
      · rw [List.getElem?_set_self (by rw [wipe_length]; exact hl), if_pos hl]
      · rw [List.getElem?_eq_none (by rw [List.length_set, wipe_length]; omega), if_neg hl]
    · rw [List.getElem?_set_ne (Ne.symm hj)]
      exact wipe_in σ ((List.mem_cons.mp h).resolve_left hj)
theorem wipe_eq {σ σ' : L2.St} {vs : List Nat} (hl : σ.length = σ'.length) (h : ∀ j, j ∉ vs → σ[j]? = σ'[j]?) : L2.wipe σ vs = L2.wipe σ' vs := by
  apply List.ext_getElem?
  intro j
  by_cases hj : j ∈ vs
  · rw [wipe_in σ hj, wipe_in σ' hj, hl]
  · rw [wipe_get σ hj, wipe_get σ' hj, h j hj]
theorem wipe_idem (σ : L2.St) (vs : List Nat) : L2.wipe (L2.wipe σ vs) vs = L2.wipe σ vs := wipe_eq (wipe_length σ vs) fun _ hj => wipe_get σ hj
/-- a target that stores into the block's own slots alone -/
def TgW (g : TG) (own : List Nat) : Prop := ∀ (v : V) (σ0 σ : L2.St) (H : Hp) (Q : L2.St → Hp → Prop), L2.wipe σ own = L2.wipe σ0 own → g v σ H Q → g v σ H fun σ' H' => L2.wipe σ' own = L2.wipe σ0 own ∧ Q σ' H'
def TgsW (g : TGs) (own : List Nat) : Prop := ∀ (v : List V) (σ0 σ : L2.St) (H : Hp) (Q : L2.St → Hp → Prop), L2.wipe σ own = L2.wipe σ0 own → g v σ H Q → g v σ H fun σ' H' => L2.wipe σ' own = L2.wipe σ0 own ∧ Q σ' H'
theorem tw_name {i : Nat} {own : List Nat} (hi : i ∈ own) : TgW (gName i) own := fun v σ0 σ H Q e h => ⟨by
  rw [← e]
  exact wipe_eq (by simp) fun j hj => List.getElem?_set_ne (fun z => hj (by rw [← z]; exact hi)), h⟩
theorem tw_nil {own : List Nat} : TgsW gNil own := fun v σ0 σ H Q e h => ⟨h.1, e, h.2⟩
theorem tw_cons {g : TG} {gs : TGs} {own : List Nat} (h1 : TgW g own) (h2 : TgsW gs own) (m1 : ∀ v σ H (Q Q' : L2.St → Hp → Prop), (∀ σ H, Q σ H → Q' σ H) → g v σ H Q → g v σ H Q') : TgsW (gCons g gs) own := fun v σ0 σ H Q e h => by
  obtain ⟨x, r, rfl, h⟩ := h
  exact ⟨x, r, rfl, m1 _ _ _ _ _ (fun σ1 H1 ⟨e1, q1⟩ => h2 r σ0 σ1 H1 Q e1 q1) (h1 x σ0 σ H _ e h)⟩
theorem tw_tup {K : PySem.W.Frag} {n : Nat} {gs : TGs} {own : List Nat} (h : TgsW gs own) : TgW (L2.gTup K n gs) own := fun v σ0 σ H Q e q => by
  obtain ⟨a, xs, rfl, h1, h2, h3⟩ := q
  exact ⟨a, xs, rfl, h1, h2, h xs σ0 σ H Q e h3⟩
theorem mono_name {i : Nat} : ∀ v σ H (Q Q' : L2.St → Hp → Prop), (∀ σ H, Q σ H → Q' σ H) → gName i v σ H Q → gName i v σ H Q' := fun _ _ _ _ _ m h => m _ _ h
section
variable {X : Cx} {C : Cid → Addr} {W : WX} {ows : List Ow} {ow : Ow}
theorem t_yes : PTs X [] (tT X.K C W ows gYes) := pts_nil.monoD fun σ H Q ⟨F, env, As, c, h⟩ => h F H (Pr.refl c.le)
theorem t_one {c : Expr} {g : GT} (h : PT X c (tT X.K C W ows g)) : PTs X [c] (tT X.K C W ows g) := pts_one h
theorem lc_of {wi : GA} {g : TG} {t : D → Dv → Option Dv} {sl own : List Nat} {gt : GT} {ge : GE} (ht : TgD X.K C g t sl) (hown : TgW g own)
    (σ : L2.St) (H : Hp) (Q : VK) (h : tD X.K C W ows (.lst ow) (gLc own wi t gt ge) σ H Q) :
    tLc (tI X.K C W ows wi) g (tT X.K C W0 (frzAt ows sl) gt) (tD X.K C W0 (frzAt ows sl) ow ge) own σ H Q := by
  obtain ⟨F, env, As, c, q⟩ := h
  refine ⟨F, env, As, c, ?_⟩
  have q : PostE X.K C W (.lst ow) σ F H Q ((wi env).bind fun ds => lcLoop (wipeE env own) t gt ge ds []) := q
  cases e : wi env with
  | bad => rw [e] at q; exact q.elim
  | exc x => rw [e] at q; exact q
  | ok ds =>
    rw [e] at q
    intro J F1 H1 p it Dd hD
    have q1 : PostE X.K C W (.lst ow) σ F1 H1 Q (lcLoop (wipeE env own) t gt ge ds []) := PostE.pr p q
    have c1 := (c.pr p).wipe own
    have hFD : F1 Dd = none := p.fh.free hD
    refine ⟨fun i m H2 => m = ds.length - i ∧ i ≤ ds.length ∧ ∃ F2 accV acc A, Same H1 H2 ∧ Same F1 F2 ∧ Same F2 H2 ∧ (∀ a o, F2 a = some o → F1 a = some o ∨ H1 a = none) ∧ H2 Dd = some (.lst accV) ∧ F2 Dd = none ∧ ROs X.K C F2 H2 ow accV acc A ∧
        (Dd :: A).Nodup ∧ (∀ a ∈ A, H1 a = none ∧ F2 a = none) ∧ PostE X.K C W (.lst ow) σ F1 H1 Q (lcLoop (wipeE env own) t gt ge (ds.drop i) acc),
      ⟨ds.length, by simp, Nat.zero_le _, F1, [], [], [], (Pr.newO p.fh hD).s, Same.refl _, (Pr.newO p.fh hD).fh, fun a o e => .inl e, upd_same, hFD, .nil, by simp, (fun _ z => nomatch z), q1⟩, ?_⟩
    rintro i m H2 ⟨rfl, hile, F2, accV, acc, A, s12, f12, fh2, nw2, hacc, fD2, ros, nd, fa, q2⟩
    by_cases hlt : i < ds.length
    · refine .inr ⟨it.go i H2 (f12.trans fh2) hlt, fun H' => ∃ F3 accV acc A, Same H1 H' ∧ Same F1 F3 ∧ Same F3 H' ∧ (∀ a o, F3 a = some o → F1 a = some o ∨ H1 a = none) ∧ H' Dd = some (.lst accV) ∧ F3 Dd = none ∧ ROs X.K C F3 H' ow accV acc A ∧
        (Dd :: A).Nodup ∧ (∀ a ∈ A, H1 a = none ∧ F3 a = none) ∧ PostE X.K C W (.lst ow) σ F1 H1 Q (lcLoop (wipeE env own) t gt ge (ds.drop (i + 1)) acc),
        fun H' ⟨F3, v3, a3, A3, z⟩ => ⟨ds.length - (i + 1), by omega, rfl, hlt, F3, v3, a3, A3, z⟩, fun x H' y => ?_⟩
      obtain ⟨d, F3, hd, p3, r3⟩ := it.yld i F2 H2 x H' hlt f12 fh2 y
      have hdrop : ds.drop i = d :: ds.drop (i + 1) := by
        rw [List.drop_eq_getElem_cons hlt]
        congr 1
        rw [List.getElem?_eq_getElem hlt] at hd
        exact Option.some.inj hd
      rw [hdrop] at q2
      have q3 : PostE X.K C W (.lst ow) σ F1 H1 Q (match t d (wipeE env own) with
        | none => .bad
        | some e1 => match gt e1 with
          | .ok true => (match ge e1 with
            | .ok y => chk (decide (acc.length < big)) (lcLoop (wipeE env own) t gt ge (ds.drop (i + 1)) (acc ++ [y]))
            | _ => .bad)
          | .ok false => lcLoop (wipeE env own) t gt ge (ds.drop (i + 1)) acc
          | _ => .bad) := q2
      -- the state of the block ahead of the turn
      have pr13 : Pr F1 H1 F3 H' := ⟨s12.trans p3.s, f12.trans p3.le, p3.fh, fun a o e => by
        rcases p3.nw a o e with z | z
        · exact nw2 a o z
        · exact .inr (s12.free z)⟩
      have c3 := c1.pr pr13
      have hacc3 : H' Dd = some (.lst accV) := p3.s _ _ hacc
      have fD3 : F3 Dd = none := by
        cases z : F3 Dd with
        | none => rfl
        | some u =>
          rcases p3.nw _ _ z with w | w
          · rw [fD2] at w; cases w
          · rw [hacc] at w; cases w
      cases et : t d (wipeE env own) with
      | none => rw [et] at q3; exact q3.elim
      | some e1 =>
        rw [et] at q3
        simp only at q3
        refine hown x _ _ H' _ (wipe_idem σ own) (ht F3 H' _ _ ows As x d e1 _ c3 r3 et fun σ4 As4 c4 s4 => ?_)
        refine ⟨F3, e1, As4, c4, ?_⟩
        cases eg : gt e1 with
        | bad => rw [eg] at q3; exact q3.elim
        | exc _ => rw [eg] at q3; exact q3.elim
        | ok b =>
          rw [eg] at q3
          intro F5 H5 p5
          have pr15 := pr13.trans p5
          have keep5 : ∀ {G : Hp} {HH : Hp}, Pr F3 H' G HH → G Dd = none := fun {G HH} pp => by
            cases z : G Dd with
            | none => rfl
            | some u =>
              rcases pp.nw _ _ z with w | w
              · rw [fD3] at w; cases w
              · rw [hacc3] at w; cases w
          have fa5 : ∀ {G HH : Hp}, Pr F2 H2 G HH → ∀ a ∈ A, H1 a = none ∧ G a = none := fun {G HH} pp a ha => ⟨(fa a ha).1, by
            cases z : G a with
            | none => rfl
            | some u =>
              rcases pp.nw _ _ z with w | w
              · rw [(fa a ha).2] at w; cases w
              · obtain ⟨o, ho⟩ := ros.there a ha
                rw [ho] at w; cases w⟩
          cases b with
          | false =>
            exact ⟨F5, accV, acc, A, pr15.s, pr15.le, p5.fh, pr15.nw, p5.s _ _ hacc3, keep5 p5, ros.mono (p3.le.trans p5.le) fun a _ u e => p5.s _ _ (p3.s _ _ e), nd, fa5 (p3.trans p5), q3⟩
          | true =>
            refine ⟨F5, e1, As4, c4.pr p5, ?_⟩
            cases ee : ge e1 with
            | bad => rw [ee] at q3; exact q3.elim
            | exc _ => rw [ee] at q3; exact q3.elim
            | ok y =>
              rw [ee] at q3
              obtain ⟨hz, q3⟩ := PostE.chkD q3
              intro v F6 H6 A6 p6 ro6 nd6 f6
              have pr26 := (p3.trans p5).trans p6
              have pr16 := pr15.trans p6
              have hacc6 : H6 Dd = some (.lst accV) := p6.s _ _ (p5.s _ _ hacc3)
              have nDA6 : Dd ∉ A6 := fun z => by
                have := (f6 Dd z).1
                rw [p5.s _ _ hacc3] at this; cases this
              obtain ⟨nDA, ndA⟩ := List.nodup_cons.mp nd
              have disj : ∀ a ∈ A, a ∉ A6 := fun a ha z => by
                obtain ⟨o, ho⟩ := ros.there a ha
                have := (f6 a z).1
                rw [p5.s _ _ (p3.s _ _ ho)] at this; cases this
              have fD6 : F6 Dd = none := keep5 (p5.trans p6)
              refine ⟨accV, hacc6, by rw [ros.length, big_eq]; exact hz, F6, accV ++ [v], acc ++ [y], A ++ A6, fun a o e => ?_, pr16.le, fun a o e => ?_, pr16.nw, upd_same, fD6, ?_, ?_, fun a ha => ?_, q3⟩
              · have : a ≠ Dd := fun z => by rw [z, hD] at e; cases e
                rw [upd_ne this]; exact pr16.s _ _ e
              · have : a ≠ Dd := fun z => by rw [z, fD6] at e; cases e
                rw [upd_ne this]; exact p6.fh _ _ e
              · refine (ros.mono pr26.le fun a ha u e => ?_).append (ROs.one (ro6.mono (Same.refl _) fun a ha u e => ?_))
                · rw [upd_ne (ne_mem ha nDA)]; exact pr26.s _ _ e
                · rw [upd_ne (ne_mem ha nDA6)]; exact e
              · refine List.nodup_cons.mpr ⟨fun z => ?_, List.nodup_append.mpr ⟨ndA, nd6, fun b hb b' hb' z => ?_⟩⟩
                · rcases List.mem_append.mp z with z | z
                  · exact nDA z
                  · exact nDA6 z
                · subst z; exact disj b hb hb'
              · rcases List.mem_append.mp ha with ha | ha
                · exact fa5 pr26 a ha
                · exact ⟨pr15.s.free (f6 a ha).1, (f6 a ha).2⟩
    · have e : i = ds.length := by omega
      subst e
      rw [List.drop_length] at q2
      refine .inl ⟨it.stop _ H2 (f12.trans fh2) (Nat.le_refl _), ?_⟩
      exact q2 (.ref Dd) F2 H2 (Dd :: A) ⟨s12, f12, fh2, nw2⟩ (.lst hacc ros) nd fun a ha => by
        rcases List.mem_cons.mp ha with rfl | ha
        · exact ⟨hD, fD2⟩
        · exact fa a ha
/-- [elt for target in iter if ..] -/
theorem d_lc {elt tg iter : Expr} {ifs : List Expr} {scope : Scope} {own : List (Str × Nat)} {ownI : List Nat} {pos : Pos} {wi : GA} {g : TG} {t : D → Dv → Option Dv} {sl : List Nat} {gt : GT} {ge : GE} (hc : X.calm = true) (hN : X.N.Nodup) (ok : BlkOk X.N X.env.scope scope own) (ho : own.map (·.2) = ownI) (hi : PI X tg iter (tI X.K C W ows wi)) (ht : TgD X.K C g t sl) (hown : TgW g ownI)
    (hg : ∀ (s : Shared) (H : Hp) (Cc : Addr) (cl : List (Str × Addr)) (fp : List Addr), PG (X.blk s H scope (compEnvC scope cl Cc X.env) fp) tg g)
    (hte : ∀ (s : Shared) (H : Hp) (Cc : Addr) (cl : List (Str × Addr)) (fp : List Addr), PTs (X.blk s H scope (compEnvC scope cl Cc X.env) fp) ifs (tT X.K C W0 (frzAt ows sl) gt))
    (he : ∀ (s : Shared) (H : Hp) (Cc : Addr) (cl : List (Str × Addr)) (fp : List Addr), PE (X.blk s H scope (compEnvC scope cl Cc X.env) fp) elt (tD X.K C W0 (frzAt ows sl) ow ge)) (hs : ∀ x, foldedSetIterable iter X.env x = pure x := by intro _; rfl) :
    PE X (.ListComp elt [⟨tg, iter, ifs, 0⟩] scope pos) (tD X.K C W ows (.lst ow) (gLc ownI wi t gt ge)) := by
  subst ho
  exact (pe_lc hc hN hi ok hg hte he hs).monoD fun σ H Q h => lc_of ht hown σ H Q h
/-- name = [..] -/
theorem s_setLc {o : OwS} (i : Nat) {y : Str} {py : Pos} {elt tg iter : Expr} {ifs : List Expr} {scope : Scope} {own : List (Str × Nat)} {ownI : List Nat} {pos spos : Pos} {wi : GA} {g : TG} {t : D → Dv → Option Dv} {sl : List Nat} {gt : GT} {ge : GE} (hc : X.calm = true) (hN : X.N.Nodup) (hy : X.N[i]? = some y) (hyl : X.env.scope.names.lookup y = some .local)
    (hsw : swapsWith (.ListComp elt [⟨tg, iter, ifs, 0⟩] scope pos) (some (.Name y py)) spos.line X.env = pure true) (ok : BlkOk X.N X.env.scope scope own) (ho : own.map (·.2) = ownI) (hi : PI X tg iter (tI X.K C W o.pre wi)) (ht : TgD X.K C g t sl) (hown : TgW g ownI)
    (hg : ∀ (s : Shared) (H : Hp) (Cc : Addr) (cl : List (Str × Addr)) (fp : List Addr), PG (X.blk s H scope (compEnvC scope cl Cc X.env) fp) tg g)
    (hte : ∀ (s : Shared) (H : Hp) (Cc : Addr) (cl : List (Str × Addr)) (fp : List Addr), PTs (X.blk s H scope (compEnvC scope cl Cc X.env) fp) ifs (tT X.K C W0 (frzAt o.pre sl) gt))
    (he : ∀ (s : Shared) (H : Hp) (Cc : Addr) (cl : List (Str × Addr)) (fp : List Addr), PE (X.blk s H scope (compEnvC scope cl Cc X.env) fp) elt (tD X.K C W0 (frzAt o.pre sl) ow ge)) (wx : WkI o.pre o.ex)
    (hpost : o.post = o.pre.set i (.lst ow) := by rfl) (hw : (o.pre.set i (.lst ow)).getD i .fz = .lst ow := by rfl) (hs : ∀ x, foldedSetIterable iter X.env x = pure x := by intro _; rfl) :
    PS X (.Assign [.Name y py] (.ListComp elt [⟨tg, iter, ifs, 0⟩] scope pos) spos) (tS X.K C W o (sSet i (gLc ownI wi t gt ge))) := by
  subst ho
  exact (ps_setLc hc hN hy hyl hsw hi ok hg hte he hs).monoD fun D σ H q => by
    have z := set_of wx hpost hw D σ H q
    exact lc_of ht hown σ H _ z
end
end DL

set_option maxHeartbeats 4000000
/-! An own error over an own error over ValueError, whose __init__ says super().__init__('..'), then self.f = f. -/
namespace PySem
namespace DX
open PySem.W PySem.Calls PyProof.Rows PySem.HandSPX
def iA (f : Str) (p1 p2 : Pos) : Arguments := { posonlyargs := [], args := [{ arg := "self", annotation := none, pos := p1 }, { arg := f, annotation := none, pos := p2 }], vararg := none, kwonlyargs := [], kw_defaults := [], kwarg := none, defaults := [] }
def iB1 (m : Str) (q1 q2 q3 q4 q5 q6 : Pos) : Stmt := .Expr (.Call (.Attribute (.Call (.Name "super" q1) [] [] q2) "__init__" q3) [.Constant (.str m) 0 q4] [] q5) q6
def iB2 (f : Str) (r1 r2 r3 r4 : Pos) : Stmt := .Assign [.Attribute (.Name "self" r1) f r2] (.Name f r3) r4
def iB (f m : Str) (q1 q2 q3 q4 q5 q6 r1 r2 r3 r4 : Pos) : List Stmt := [iB1 m q1 q2 q3 q4 q5 q6, iB2 f r1 r2 r3 r4]
def iS (f : Str) : Scope := { kind := .function, names := [("self", .local), (f, .local), ("__class__", .free), ("super", .globalImplicit)], isGenerator := false, isCoroutine := false, more := [] }
/-- the call super().__init__('..') as a tree, at these places of the text -/
def EvOk (f m : Str) (q1 q2 q3 q4 q5 : Pos) : Prop := ∀ (q : Str) (L fI : Addr) (cd : Value) (cc : Addr), ∃ pl : Sem Bool, eval (.Call (.Attribute (.Call (.Name "super" q1) [] [] q2) "__init__" q3) [.Constant (.str m) 0 q4] [] q5) (ksEnv q (iS f) L fI cd cc) = (do
      let ov ← attributeBase (.Call (.Name "super" q1) [] [] q2) "__init__" (ksEnv q (iS f) L fI cd cc) (eval (.Call (.Name "super" q1) [] [] q2) (ksEnv q (iS f) L fI cd cc))
      standAt q3.atName
      let (f', first) ← holding [ov] (getMethod ov "__init__" pl)
      callWith q5 f' first (backTo q5 (starEach [.Constant (.str m) 0 q4] (ksEnv q (iS f) L fI cd cc))) [])
/-- what the written part says of the class at C, and of its __init__, at fI -/
structure ETxt (file : Str) (K : Frag) (C fI cc cda : Addr) (f m : Str) : Prop where
  cls : ∃ nm q N bs bm sn sub ab col dd k0 k1 k2 k3 k5, K.lookup C = some (excClassObj nm q C N bs bm true sn sub ab col dd k0 k1 k2 k3 k5 "ValueError.__new__") ∧ refsVE bm = true
  sa : findIn K (.ref C) "__setattr__" = some (some (.builtin "object.__setattr__"))
  noN : findIn K (.ref C) f = some none
  iC : findIn K (.ref C) "__init__" = some (some (.ref fI))
  tC : typeIn K (.ref fI) = some (.type "function")
  kC : keepIn K (.ref C) = true
  exC : subIn K (.ref C) (.type "BaseException") = some true
  veC : subIn K (.ref C) (.type "ValueError") = some true
  tyC : typeIn K (.ref C) = some (.type "type")
  me : mroIn K C (.ref C) = some true
  opq : nsIn K cStatics "thirdparty.any" = some none
  sup : ks_superIn K C C "__init__" = some (some (.builtin "ValueError.__init__"))
  code : ∃ (ccl : Value) (cdd : Option Addr) (vs : Array Value) (ccs : Array (Option Value)) (tf : Tok), K.lookup cda = some ⟨ccl, cdd, .fields vs, ccs⟩ ∧ vs[2]? = some (.str file tf)
  cell : ∃ (cl : Value) (cld : Option Addr) (csl : Array (Option Value)), K.lookup cc = some ⟨cl, cld, .cell (some (.ref C)), csl⟩
  fn : ∃ (q : Str) (oc : Value) (od : Option Addr) (doc pm : Value) (an : Option Addr) (ct : Value) (osl : Array (Option Value)) (p1 p2 q1 q2 q3 q4 q5 q6 r1 r2 r3 r4 : Pos),
    K.lookup fI = some ⟨oc, od, .func (ksFn "__init__" q (iA f p1 p2) (iB f m q1 q2 q3 q4 q5 q6 r1 r2 r3 r4) (iS f) .none .none doc pm an (.ref cda) ct cc), osl⟩ ∧ codeIn K (.ref cda) q = true ∧ EvOk f m q1 q2 q3 q4 q5
theorem one_size (v : Value) : [v].length ≤ sizeLine := by
  rw [sizeLine_eq]
  exact (by decide : 1 ≤ 16777216)
/-- what __init__ leaves of a fresh exception at x -/
structure InitEnd (h h' : Heap) (x C dx t1 : Addr) (f : Str) (v : Value) : Prop where
  keep : ∀ b o, b ≠ x → h.get? b = some o → h'.get? b = some o
  obj : h'.get? x = some { cls := .ref C, dict := some dx, data := .fields #[.ref t1, .none, .none, .none, .bool false, .none] }
  dbig : h.objs.size ≤ dx
  dne : dx ≠ x
  ns : h'.Ns1 dx (fun y => if y = f then some v else none)
/-- a made error -/
structure OwnMade (h h' : Heap) (e C d : Addr) (f : Str) (v : Value) : Prop where
  keep : ∀ b o, h.get? b = some o → h'.get? b = some o
  new : h.objs.size ≤ e
  obj : ∃ oe vs, h'.get? e = some oe ∧ oe.cls = .ref C ∧ oe.dict = some d ∧ oe.data = .fields vs ∧ vs[1]? = some .none
  dbig : h.objs.size ≤ d
  dne : d ≠ e
  ns : h'.Ns1 d (fun y => if y = f then some v else none)
/-- of the field's name, by evaluation -/
structure FOk (f m : Str) : Prop where
  bind : ∀ (q : Str) (p1 p2 : Pos) (b : List Stmt) (doc pm : Value) (an : Option Addr) (cd ct : Value) (cc : Addr) (x v : Value), bindArgs (ksFn "__init__" q (iA f p1 p2) b (iS f) .none .none doc pm an cd ct cc) ⟨[x, v], []⟩ = pure [(("self" : Str), x), (f, v)]
  sw : ∀ (q : Str) (L fI : Addr) (cd : Value) (cc : Addr) (r1 r2 r3 r4 : Pos), swapsWith (.Name f r3) (some (.Attribute (.Name "self" r1) f r2)) r4.line (ksEnv q (iS f) L fI cd cc) = pure false
  ne : f ≠ "self" ∧ f ≠ "super" ∧ f ≠ "__class__" ∧ f ≠ "__debug__"
/-- names of the module and of the built-ins -/
structure Nms (h : Heap) (mg : Str → Option Value) : Prop where
  glob : h.Ns mainGlobals mg
  blt : ∃ mb, h.Ns builtinsNs mb ∧ ∀ x : Str, x ≠ "__name__" → mb x = bootBuiltins x
  sup : mg "super" = none
theorem Nms.keeps {h h' : Heap} {mg : Str → Option Value} (n : Nms h mg) (k : ∀ b o, h.get? b = some o → h'.get? b = some o) : Nms h' mg :=
  ⟨n.glob.keeps k, let ⟨mb, a, b⟩ := n.blt; ⟨mb, a.keeps k, b⟩, n.sup⟩
section
variable {prog : Program} {w : World} {A : Around} {E : Value → Shared → Prop} {R : Result → Shared → Prop} {s : Shared} {K : Frag} {mg : Str → Option Value} {C fI cc cda : Addr} {f m : Str}
theorem mw_call {h : Heap} {g : Array GenState} {d : Drawn} {t : Nat} {os : OsState} {nm q : Str} {N : Addr} {bs bm : List Value} {hdct : Bool} {sn : List Str} {sub : List Value} {ab : Bool} {col : Option Bool} {dd : Option Addr} {k0 k1 k2 k3 k5 : Option Value} {u e t0 : Addr} {rest : List Value} {Q : Value → Shared → Prop}
    (hC : h.get? C = some (excClassObj nm q C N bs bm hdct sn sub ab col dd k0 k1 k2 k3 k5 "ValueError.__new__")) (he : h.get? e = some (excO C t0)) (hu : h.get? u = some (kxs_mw "ValueError.__init__" e)) (hrest : rest.length ≤ sizeLine)
    (hq : ∀ h' t1, (∀ b o, b ≠ e → h.get? b = some o → h'.get? b = some o) → h'.get? e = some (excO C t1) → Q .none ⟨h', g, d, t, os⟩) :
    wpAny (model prog w) A (call (.ref u) rest) Q E ⟨h, g, d, t, os⟩ := by
  refine wpAny_call (codeAny_of_tree ?_)
  show wpAny _ A.in1 (callAny (.ref u) ⟨rest, []⟩) _ _ _
  simp only [callAny]
  refine wpAny_bind (wpAny_load hu ?_)
  simp only [kxs_mw, show (Value.type "method-wrapper" == Value.type "method" || Value.type "method-wrapper" == Value.type "builtin_function_or_method" || Value.type "method-wrapper" == Value.type "method-wrapper") = true by decide, if_true]
  refine KFB.if_so (by decide) ?_
  refine wpAny_bind (check_bound_init F.excBase_ValueError.toExcCallFacts hC he rfl ?_)
  refine wpAny_bind (wpAny_pure (wpAny_pure ?_))
  refine ⟨plainId_quiet F.excBase_ValueError.init.plain _, codeAny_builtin F.excBase_ValueError.initEntry ?_⟩
  exact exc_init_tree (cls := .ref C) (t0 := t0) (dv := none) (c2 := .none) (c3 := .none) (b4 := .bool false) he hrest fun h' k1 k2 _ => hq h' _ k1 k2
theorem ldL {M : Model} {env : Env} {m : Str → Option Value} {x : Str} {pos : Pos} {v : Value} {Q : Value → Shared → Prop} (hn : s.heap.Ns env.locals m) (hv : m x = some v) (h : Q v s)
    (hk : env.scope.kind = .function) (hl : env.kindOf x = some .local) (hd : (x == ("__debug__" : Str)) = false) : wpAny M A (eval (.Name x pos) env) Q E s := wpAny_Name (wpAny_loadName_local hk hl hn hv h) hd
theorem cw1 {M : Model} {pos : Pos} {u x : Addr} {i : String} {env : Env} {e : Expr} {rest : List Expr} {Q : Value → Shared → Prop}
    (h : wpAny M A (spliced (backTo pos (starEach (e :: rest) env))) (fun vs s₁ => KxsAt i u x s₁.heap ∧ wpAny M A (call (.ref u) vs) Q E s₁) E s)
    (he : starEach (e :: rest) env = (false, eval e env) :: starEach rest env := by rfl) (hplain : (backTo pos (starEach rest env)).any (·.1) = false := by rfl) :
    wpAny M A (callWith pos (.ref u) [] (backTo pos (starEach (e :: rest) env)) []) Q E s := by
  rw [he] at h ⊢
  refine kxs_callWith (i := i) (x := x) (by show (false || (backTo pos (starEach rest env)).any (·.1)) = false; rw [hplain]; rfl) ?_
  exact evalArgs_plain h
theorem e_init (T : ETxt prog.main.file K C fI cc cda f m) (O : FOk f m) {x t0 : Addr} {v : Value} (X : K.In s.heap) (G : Nms s.heap mg) (hlim : s.heap.NoLimit) (hx : s.heap.get? x = some (excO C t0)) (hnx : K.lookup x = none) (hroom : A.depth < recursionLimit)
    (htop : (prog.main.scope.names.lookup ("super" : Str)).isSome = false)
    (hq : ∀ h' tk dx t1, InitEnd s.heap h' x C dx t1 f v → R (.ok (.ret .none)) { s with heap := h', toks := tk }) :
    codeAny (model prog w) A (.call (.ref fI) ⟨[.ref x, v], []⟩) R s := by
  obtain ⟨q, oc, od, doc, pm, an, ct, osl, p1, p2, q1, q2, q3, q4, q5, q6, r1, r2, r3, r4, ho, hcd, hEv⟩ := T.fn
  obtain ⟨nm, qn, N, bs, bm, sn, sub, ab, col, dd, k0, k1, k2, k3, k5, hC, hbm⟩ := T.cls
  obtain ⟨ccl, cdd, vs, ccs, tf, hcode, hvs⟩ := T.code
  obtain ⟨cl, cld, csl, hcell⟩ := T.cell
  have hcl : clsIn K C = some { name := nm, bases := bs, mro := .ref C :: bm, ns := N, qualname := qn, hasDict := true, slotNames := sn, subclasses := sub, abstract := ab, collection := col, hasDel := false } := by unfold clsIn; rw [hC] <;> rfl
  obtain ⟨f1, f2, f3, f4⟩ := O.ne
  have e1 : (f == ("self" : Str)) = false := by simpa using f1
  have e2 : (("super" : Str) == f) = false := by simpa using Ne.symm f2
  have e3 : (("__class__" : Str) == f) = false := by simpa using Ne.symm f3
  have e4 : (f == ("__debug__" : Str)) = false := by simpa using f4
  have kSelf : (iS f).names.lookup ("self" : Str) = some .local := by rfl
  have kF : (iS f).names.lookup f = some .local := by simp [iS, List.lookup, e1]
  have kS : (iS f).names.lookup ("super" : Str) = some .globalImplicit := by
    simp [iS, List.lookup, e2, show (("super" : Str) == ("self" : Str)) = false from by decide, show (("super" : Str) == ("__class__" : Str)) = false from by decide]
  have kK : (iS f).names.lookup ("__class__" : Str) = some .free := by
    simp [iS, List.lookup, e3, show (("__class__" : Str) == ("self" : Str)) = false from by decide]
  refine ks_codeAny_call_defAt (fd := ksFn "__init__" q (iA f p1 p2) (iB f m q1 q2 q3 q4 q5 q6 r1 r2 r3 r4) (iS f) .none .none doc pm an (.ref cda) ct cc) (body := iB f m q1 q2 q3 q4 q5 q6 r1 r2 r3 r4) (binds := [("self", .ref x), (f, v)]) hroom (X _ _ ho) rfl hlim (codeRec_of X hcd) rfl (BindsTo.of_eq ?_) ?_ ?_ (fun h₁ hn k => ?_) rfl rfl rfl
  · exact O.bind _ _ _ _ _ _ _ _ _ _ _ _
  · intro y hy
    simp [iS] at hy
    rcases hy with rfl | rfl | rfl | rfl <;> exact (fun z => by cases z)
  · intro y hy
    simp at hy
    rcases hy with rfl | rfl
    · exact kSelf
    · exact kF
  obtain ⟨h0, g, d, t, os⟩ := s
  have X₁ : K.In h₁ := X.keeps k
  have hx₁ := k _ _ hx
  have G₁ := G.keeps k
  have C₁ := X₁ _ _ hC
  have I₁ : InstAt h₁ x (excO C t0) C none := ⟨hx₁, rfl, rfl, trivial⟩
  have mself : ∀ y : Str, y = "self" → ([(("self" : Str), Value.ref x), (f, v)] : List (Str × Value)).reverse.lookup y = some (.ref x) := by
    rintro _ rfl
    have q : (("self" : Str) == f) = false := by simpa using Ne.symm f1
    simp [List.lookup, q]
  have mf : ([(("self" : Str), Value.ref x), (f, v)] : List (Str × Value)).reverse.lookup f = some v := by simp [List.lookup]
  unfold iB
  refine ks_wpAt_execs_cons ?_
  unfold iB1
  refine ks_wpAt_Expr_any ?_
  obtain ⟨pl, hev⟩ := hEv q h0.objs.size fI (.ref cda) cc
  refine ks_wpAt_MethodCall (pl := pl) ?_ hev
  refine ks_wpAt_super_base (env := ksEnv q (iS f) h0.objs.size fI (.ref cda) cc) kS kK (by decide) rfl (X₁ _ _ ho) rfl rfl rfl (X₁ _ _ hcode) rfl hvs (by simp) htop ?_
  obtain ⟨mb, b1, b2⟩ := G₁.blt
  refine ks_loadName_global rfl kS (loadGlobal_builtin (env := ksEnv q (iS f) h0.objs.size fI (.ref cda) cc) G₁.glob G₁.sup b1 ((b2 _ (by decide)).trans (by first | boot_by_name | rfl | kernel_rfl)) ⟨rfl, ?_⟩)
  refine wpAny_loadName_free rfl kK rfl ⟨_, X₁ _ _ hcell, rfl⟩ ?_
  refine wpAny_loadName_local rfl kSelf hn (mself _ rfl) ?_
  refine ks_wpAny_isType_cls C₁ rfl ⟨rfl, ?_⟩
  refine ks_wpAny_call_super C₁ rfl hx₁ rfl (fun c e => by cases e) (looks_mroIn X₁ T.me) (fun h₂ eso k₂ => ?_)
  have X₂ : K.In h₂ := X₁.keeps k₂
  have hx₂ := k₂ _ _ hx₁
  have I₂ : InstAt h₂ x (excO C t0) C none := ⟨hx₂, rfl, rfl, trivial⟩
  have hm := T.sup
  unfold ks_superIn at hm
  rw [hcl] at hm
  refine kxs_getMethod kxs_ValueError eso (looks_opaque X₂ T.opq) (fun A Q E s k q => wpAny_bind ((looks_clsIn X₂ hcl) A _ E s k (wpAny_pure q))) rfl X₂ hm (I₂.type.andThen (looks_subIn X₂ T.veC)) (ks_ne X₂ I₂ hcl) (by decide) ?_
  refine cw1 (i := "ValueError.__init__") (x := x) ?_
  have k3 : ∀ b o, h₂.get? b = some o → (h₂.push (kxs_mw "ValueError.__init__" x)).get? b = some o := fun b o e => Heap.get?_push_of_some _ e
  have hmw : (h₂.push (kxs_mw "ValueError.__init__" x)).get? h₂.objs.size = some (kxs_mw "ValueError.__init__" x) := Heap.get?_push_at rfl rfl
  refine Calls.spliced_cons (wpAny_Constant_str (k := 0) (pos := q4) ?_)
  refine Calls.spliced_nil ⟨hmw, ?_⟩
  refine mw_call (k3 _ _ (k₂ _ _ C₁)) (k3 _ _ hx₂) hmw (one_size _) (fun h₄ t1 k₄ hx₄ => ?_)
  have kb : ∀ b o, b ≠ x → h₁.get? b = some o → h₄.get? b = some o := fun b o hb e => k₄ b o hb (k3 _ _ (k₂ _ _ e))
  have xL : x ≠ h0.objs.size := Nat.ne_of_lt (Heap.lt_size hx)
  have X₄ : K.In h₄ := fun a o e => kb a o (fun z => by rw [z] at e; exact absurd e (by rw [hnx]; exact fun z => by cases z)) (X₁ a o e)
  have hn₄ : h₄.Ns h0.objs.size (fun y => ([(("self" : Str), Value.ref x), (f, v)] : List (Str × Value)).reverse.lookup y) := hn.at fun o e => kb _ _ xL.symm e
  unfold iB2
  refine wpAt_of_wpAny ?_
  show wpAny _ _ (execs _ _) _ _ _
  refine wpAny_execs_cons (plainObj_wpAny_Assign_Attribute ?_ (O.sw _ _ _ _ _ _ _ _ _))
  refine ldL hn₄ mf (ldL hn₄ (mself _ rfl) ?_ rfl kSelf (by decide)) rfl kF e4
  refine set_plain X₄ (ox := excO C t1) (od := none) ⟨hx₄, rfl, rfl, trivial⟩ T.sa ?_
  refine exc_osa X₄ hx₄ hcl (show refsVE (.ref C :: bm) = true from hbm) rfl T.noN (fun h₅ tk₅ dx k₅ dn dne hx₅ hn₅ => ?_)
  show wpAny _ _ (execs _ _) _ _ _
  refine wpAny_execs_nil (hq h₅ tk₅ dx t1 ⟨fun b o hb e => k₅ b o hb (kb b o hb (k b o e)), hx₅, ?_, dne, hn₅⟩)
  have z : h0.objs.size < h₄.objs.size := hn₄.lt
  exact Nat.le_of_lt (Nat.lt_of_lt_of_le z dn)
theorem e_made (T : ETxt prog.main.file K C fI cc cda f m) (O : FOk f m) {v : Value} (X : K.In s.heap) (G : Nms s.heap mg) (hlim : s.heap.NoLimit) (hroom : A.depth + 1 < recursionLimit) (htop : (prog.main.scope.names.lookup ("super" : Str)).isSome = false)
    (hq : ∀ h' tk e d, OwnMade s.heap h' e C d f v → R (.ok (.ret (.ref e))) { s with heap := h', toks := tk }) :
    codeAny (model prog w) A (.call (.ref C) ⟨[v], []⟩) R s := by
  obtain ⟨nm, q, N, bs, bm, sn, sub, ab, col, dd, k0, k1, k2, k3, k5, hC, hbm⟩ := T.cls
  obtain ⟨hp, g, dr, tk, os⟩ := s
  have k : ∀ b o, hp.get? b = some o → ((hp.push (kdv_tup [v])).push (excO C hp.objs.size)).get? b = some o := fun b o e => Heap.get?_push_of_some _ (Heap.get?_push_of_some _ e)
  have hget : ((hp.push (kdv_tup [v])).push (excO C hp.objs.size)).get? (hp.objs.size + 1) = some (excO C hp.objs.size) := by heap_get
  have hnx : K.lookup (hp.objs.size + 1) = none := by
    cases e : K.lookup (hp.objs.size + 1) with
    | none => rfl
    | some o =>
      have z : hp.get? (hp.objs.size + 1) = some o := X _ _ e
      exact absurd (Nat.lt_of_succ_lt (Heap.lt_size z)) (Nat.lt_irrefl _)
  refine call_own F.excBase_ValueError (fun X => refsVE_contains X bm hbm) (X _ _ hC) (looks_findIn X T.iC) (fun self => bind_fn X self T.tC) (one_size v) ?_
  refine e_init (s := ⟨(hp.push (kdv_tup [v])).push (excO C hp.objs.size), g, dr, tk, os⟩) T O (X.keeps k) (G.keeps k) (hlim.keeps k) hget hnx ?_ htop fun h' tk' dx t1 ⟨k', hx, dn, dne, hns⟩ => ?_
  · show A.depth + 1 < recursionLimit
    exact hroom
  · have old : ∀ b o, hp.get? b = some o → h'.get? b = some o := fun b o e => k' b o (Nat.ne_of_lt (Nat.lt_succ_of_lt (Heap.lt_size e))) (k b o e)
    have z : hp.objs.size + 1 + 1 ≤ dx := by
      first
        | (simpa only [Heap.size_push] using dn)
        | exact dn
        | (have q := dn; rw [Heap.size_push, Heap.size_push] at q; exact q)
    exact ⟨rfl, hq h' tk' (hp.objs.size + 1) dx ⟨old, Nat.le_succ _, ⟨_, _, hx, rfl, rfl, rfl, rfl⟩, Nat.le_trans (Nat.le_trans (Nat.le_succ _) (Nat.le_succ _)) z, dne, hns⟩⟩
end
end DX
end PySem

namespace L2
open PySem PySem.Spec PyProof.Rows
theorem relO_one {v : V} {v' : Value} {n : Str} (r : RelV v v') (f : Str) : RelO (List.lookup f [(n, v)]) (if f = n then some v' else none) := by
  by_cases hw : f = n
  · subst hw
    rw [if_pos rfl]
    have q : List.lookup f [(f, v)] = some v := by simp [List.lookup]
    rw [q]
    exact r
  · rw [if_neg hw]
    have qw : (f == n) = false := by simpa using hw
    have q2 : List.lookup f [(n, v)] = none := by simp [List.lookup, qw]
    rw [q2]
    trivial
section
variable {X : Cx} {C fI cc cda : Addr} {f m x : Str}
/-- the making of an own error -/
def tMkE (C : Addr) (f : Str) (ta : TA) : St → Hp → XK → Prop := fun σ H Q => ta σ H fun vs H1 => ∃ v, vs = [v] ∧ ∀ d, H1 d = none → Q (.ref C) (some d) (upd H1 d (.xd [(f, v)]))
theorem pmk_E {a : Expr} {ta : TA} {p pos : Pos} {k : Nat} (T : PySem.DX.ETxt X.prog.main.file X.K C fI cc cda f m) (O : PySem.DX.FOk f m) (gC : X.mg x = some (.ref C)) (gS : X.mg "super" = none) (htop : (X.prog.main.scope.names.lookup ("super" : Str)).isSome = false)
    (hr : Room k X.A) (hk : 1 ≤ k) (ha : PA X [a] ta) (hg : Gl X x) (hdb : (x == ("__debug__" : Str)) = false := by decide)
    (he : starEach (a :: []) X.env = (false, eval a X.env) :: starEach [] X.env := by rfl) (hpl : (backTo pos (starEach [] X.env)).any (·.1) = false := by rfl) :
    PMk X (.Call (.Name x p) [a] [] pos) (tMkE C f ta) := by
  intro pins s σ H Q I h
  refine wpAny_Call_Name_kw (ld_glob I hg gC ?_ hdb)
  refine PySem.W.callWith_K (h₀ := X.base) I.ok.mod.kin T.kC (thn (ha.run pos pins s σ H _ I h) fun us s1 hh => ?_) he hpl
  obtain ⟨vs, H1, I1, r1, v, ev, q1⟩ := hh
  subst ev
  refine ⟨I1.kIn, ?_⟩
  cases r1 with
  | cons rv rn =>
    rename_i v' us'
    cases rn
    show wpAny _ _ (call (.ref C) [v']) _ _ _
    have hlim := I1.nolimit
    have G : PySem.DX.Nms s1.heap X.mg := ⟨I1.mod.glob.keeps I1.bk, let ⟨mb, a, b⟩ := I1.mod.blt; ⟨mb, a.keeps I1.bk, b⟩, gS⟩
    obtain ⟨hp, g, dr, tk, os⟩ := s1
    refine wpAny_call (PySem.DX.e_made T O I1.kIn G hlim (by have := hr.dp; omega) htop fun h' tk' e d M => ?_)
    show MkP X pins σ Q (.ref e) ⟨h', g, dr, tk', os⟩
    obtain ⟨oe, fv, hoe, hc, hd, hdat, h1⟩ := M.obj
    have hns := M.ns
    obtain ⟨G', g1, g2⟩ := restrict h' fun b => decide (b ≠ e)
    have gk : ∀ b, b ≠ e → G'.get? b = h'.get? b := fun b hb => g1 b (decide_eq_true hb)
    have ge : G'.get? e = none := g2 e (by simp)
    have old : ∀ b o, hp.get? b = some o → G'.get? b = some o := fun b o q => (gk b (Nat.ne_of_lt (Nat.lt_of_lt_of_le (Heap.lt_size q) M.new))).trans (M.keep b o q)
    have ob : ObjOk X.prog X.w (upd H1 d (.xd [(f, v)])) G' d (.xd [(f, v)]) :=
      ⟨_, hns.at (fun o q => (gk d M.dne).trans q), fun f => relO_one rv f⟩
    have J : Inv X pins σ (upd H1 d (.xd [(f, v)])) ⟨G', g, dr, tk', os⟩ := I1.laid (t' := tk') old M.dbig ob
    refine ⟨e, oe, fv, ⟨G', g, dr, tk', os⟩, _, .ref C, some d, rfl, J, fun b o q => ?_, ge, hoe, ⟨hc, hd⟩, hdat, h1, ?_, rfl, I1.bare, raises_own T.exC T.tyC, q1 d (I1.hok.fresh M.dbig)⟩
    · by_cases hb : b = e
      · have q' : G'.get? b = some o := q
        rw [hb, ge] at q'; cases q'
      · exact (gk b hb).symm.trans q
    · rw [upd_ne (Ne.symm M.dne)]
      exact I1.hok.fresh M.new
end
end L2

set_option maxHeartbeats 4000000
/-! The value layer: own errors: raise, try .. except, isinstance and a field of what is caught. -/
namespace DL
open PySem PySem.Spec PyProof.Rows L2
section
variable {X : Cx} {C : Cid → Addr} {W : WX} {ows ows' : List Ow} {ow : Ow} {o : OwS}
/-! ### raise -/
def sRaise (c : Cid) (f : Str) (g : GE) : GS := fun env => match g env with
  | .ok d => .ex ⟨c, [(f, d)]⟩ env
  | .exc x => .ex x env
  | .bad => .bad
theorem s_raise {fI cc cda : Addr} {c : Cid} {f m x : Str} {a : Expr} {g : GE} {p pos pos2 : Pos} {k : Nat} (hc : X.calm = true) (T : PySem.DX.ETxt X.prog.main.file X.K (C c) fI cc cda f m) (O : PySem.DX.FOk f m) (gC : X.mg x = some (.ref (C c))) (gS : X.mg "super" = none)
    (htop : (X.prog.main.scope.names.lookup ("super" : Str)).isSome = false) (hr : Room k X.A) (hk : 1 ≤ k) (tk : Takes X W) (ha : PE X a (tD X.K C W o.pre .fz g)) (wx : WkI o.pre o.ex) (hg : Gl X x) (hdb : (x == ("__debug__" : Str)) = false := by decide)
    (he : starEach (a :: []) X.env = (false, eval a X.env) :: starEach [] X.env := by rfl) (hpl : (backTo pos (starEach [] X.env)).any (·.1) = false := by rfl) :
    PS X (.Raise (some (.Call (.Name x p) [a] [] pos)) none pos2) (tS X.K C W o (sRaise c f g)) :=
  (ps_raise hc tk (pmk_E (p := p) (pos := pos) T O gC gS htop hr hk (d_acons (C := C) (W := W) ha d_anil he) hg hdb he hpl)).monoD fun D σ H ⟨F, env, As, cu, q⟩ => by
    show tMkE (C c) f (tA X.K C W o.pre (aCons g aNil)) σ H _
    have q : PostS X.K C W o F H As D (match g env with | .ok d => .ex ⟨c, [(f, d)]⟩ env | .exc x => .ex x env | .bad => .bad) := q
    refine ⟨F, env, As, cu, ?_⟩
    show PostA X.K C W σ F H _ ((g env).bind fun d => (R.ok []).bind fun ds => .ok (d :: ds))
    cases e : g env with
    | ok d =>
      rw [e] at q
      intro vs F' H' p r
      cases r with
      | @cons v1 d1 vs1 ds1 rv rn =>
        cases rn
        refine ⟨_, rfl, fun a ha => ?_⟩
        have p2 := p.trans (Pr.new (o := .xd [(f, v1)]) p.fh ha)
        refine q.exc cu wx (.ref (C c)) (some a) _ _ p2 ⟨a, _, rfl, rfl, upd_same, .cons ?_ .nil⟩
        exact rv.mono (Pr.new (o := .xd [(f, v1)]) p.fh ha).le
    | exc x => rw [e] at q; exact q.exc cu wx
    | bad => rw [e] at q; exact q
end

/-! ### try: body, except x as n: suite -/
section
variable {K : PySem.W.Frag} {C : Cid → Addr} {F F' H H' : Hp} {σ : L2.St} {env : Dv} {ows : List Ow} {As : Nat → List Addr}
/-- a slot is emptied -/
theorem Cur.unset {i : Nat} (c : Cur K C F H σ env ows As) : Cur K C F H (σ.set i none) (env.set i none) (ows.set i .fz) (fun j => if j = i then [] else As j) where
  le := c.le
  sl := fun j e h => by
    by_cases hj : j = i
    · subst hj
      by_cases hl : j < env.length
      · rw [List.getElem?_set_self hl] at h; cases h
      · rw [List.getElem?_eq_none (by simpa using hl)] at h; cases h
    · rw [List.getElem?_set_ne (Ne.symm hj)] at h
      obtain ⟨u, h1, h2⟩ := c.sl j e h
      refine ⟨u, by rw [List.getElem?_set_ne (Ne.symm hj)]; exact h1, ?_⟩
      rw [if_neg hj]
      have q : (ows.set i .fz).getD j .fz = ows.getD j .fz := by
        rw [List.getD_eq_getElem?_getD, List.getD_eq_getElem?_getD, List.getElem?_set_ne (Ne.symm hj)]
      rw [q]; exact h2
  nd := fun j => by
    split
    · exact List.nodup_nil
    · exact c.nd j
  dj := fun j k a hj hk => by
    by_cases h1 : j = i
    · rw [if_pos h1] at hj; cases hj
    · by_cases h2 : k = i
      · rw [if_pos h2] at hk; cases hk
      · rw [if_neg h1] at hj; rw [if_neg h2] at hk; exact c.dj j k a hj hk
  un := fun j a h => by
    by_cases h1 : j = i
    · rw [if_pos h1] at h; cases h
    · rw [if_neg h1] at h; exact c.un j a h
  th := fun j a h => by
    by_cases h1 : j = i
    · rw [if_pos h1] at h; cases h
    · rw [if_neg h1] at h; exact c.th j a h
  ln := by simpa using c.ln
theorem Fr.unset {i : Nat} : Fr F H As F H (fun j => if j = i then [] else As j) := ⟨Same.refl _, fun _ _ e _ => e, fun _ _ e => .inl e, fun j a h => by
  by_cases h1 : j = i
  · rw [if_pos h1] at h; cases h
  · rw [if_neg h1] at h; exact .inr ⟨j, h⟩⟩
end
def Fl.unset (i : Nat) : Fl → Fl
  | .nx e => .nx (e.set i none)
  | .bk e => .bk (e.set i none)
  | .ct e => .ct (e.set i none)
  | .rt d e => .rt d (e.set i none)
  | .ex _ _ => .bad
  | .bad => .bad
def sTry (i : Nat) (hit : Cid → Option Bool) (b s : GS) : GS := fun env => match b env with
  | .ex x e => (match hit x.c with
    | some true => (s (e.set i (some (.exn x.c x.fs)))).unset i
    | some false => .ex x e
    | none => .bad)
  | r => r
def wF : WX := fun _ _ _ _ => False
/-- the suite's own way: slot i holds the error throughout -/
abbrev OwS.suite (o : OwS) (i : Nat) (pre2 : List Ow) (e : Ow) : OwS := { pre := (pre2.set i .fz).set i e, post := o.post.set i e, ret := o.ret.set i e, ex := o.ex.set i e, bk := o.bk.set i e, ct := o.ct.set i e, rw := o.rw }
theorem takesF {X : Cx} : Takes X wF := fun _ _ ⟨_, _, _, _, _, _, _, _, _, _, _, _, _, _, _, _, w⟩ => w.elim
section
variable {X : Cx} {C : Cid → Addr} {W : WX} {ows ows' : List Ow} {ow : Ow} {o : OwS}
/-- suite: entered with the slot i held by the error; all ways out leave ows with slot i frozen -/
theorem s_try {x n : Str} {cv : Value} {i : Nat} {body suite : List Stmt} {b₀ : Stmt} {np pos pos' : Pos} {hit : Cid → Option Bool} {gb gs : GS} (hs : X.stack = X.env :: X.outer) (hf : X.env.frame = some X.env.locals) (hN : X.N.Nodup) (hi : X.N[i]? = some n) (hln : X.env.kindOf n = some .local) (hc : Names X x cv) (tk : Takes X W)
    (hh : ∀ c b, hit c = some b → PySem.W.exmOne X.K (.ref (C c)) cv = some b) (pre2 : List Ow) (hex : o.ex = pre2.set i .fz) (hset : ∀ ow : Ow, ((pre2.set i .fz).set i ow).getD i .fz = ow)
    (hb : ∀ (W : WX) (pn : List (Addr × Obj)) (xe : Value → Shared → Prop), Takes (X.tr pn xe) W → PSs (X.tr pn xe) body (tS X.K C W o gb))
    (hsu : ∀ (a : Addr) (oe : Obj) (cls : Value) (d : Option Addr) (pn : List (Addr × Obj)), Zc cls d oe → (∃ vs, oe.data = .fields vs) → PSs (X.suite a ((a, oe) :: pn)) (b₀ :: suite)
      (tS X.K C wF (o.suite i pre2 (.exn a cls d)) gs))
    (h1 : o.post.set i .fz = o.post := by rfl) (h2 : o.ret.set i .fz = o.ret := by rfl) (h3 : o.bk.set i .fz = o.bk := by rfl) (h4 : o.ct.set i .fz = o.ct := by rfl) :
    PS X (.Try body [.ExceptHandler (some (.Name x np)) (some n) (b₀ :: suite) pos'] [] [] pos) (tS X.K C W o (sTry i hit gb gs)) :=
  (ps_try_as (Wout := W) (tb := fun W => tS X.K C W o gb) (ts := fun a cls d => tS X.K C wF (o.suite i pre2 (.exn a cls d)) gs) hs hf hN hi hln hc tk (fun W pn xe tk _ => hb W pn xe tk) hsu).monoD fun D σ H ⟨F, env, As, cu, q⟩ => by
    refine ⟨F, env, As, cu, ?_⟩
    have q : PostS X.K C W o F H As D (match gb env with
      | .ex x e => (match hit x.c with
        | some true => (gs (e.set i (some (.exn x.c x.fs)))).unset i
        | some false => .ex x e
        | none => .bad)
      | r => r) := q
    cases e : gb env with
    | nx _ => rw [e] at q; exact q
    | rt _ _ => rw [e] at q; exact q
    | bk _ => rw [e] at q; exact q
    | ct _ => rw [e] at q; exact q
    | bad => rw [e] at q; exact q
    | ex x ev =>
      rw [e] at q
      dsimp only at q
      intro cls dd σ' F' H' As' fr c' xr
      cases hx : hit x.c with
      | none => rw [hx] at q; exact q.elim
      | some b =>
        rw [hx] at q
        obtain ⟨d, vfs, e1, e2, e3, e4⟩ := id xr
        subst e1 e2
        refine ⟨b, hh _ _ hx, fun hb a ha => ?_, fun hb => ?_⟩
        · subst hb
          dsimp only at q
          rw [hex] at c'
          have ro : RO X.K C F' H' (.exn a (.ref (C x.c)) (some d)) (.ref a) (.exn x.c x.fs) [] := .exn e3 e4
          have c2 := c'.set (i := i) ro List.nodup_nil (fun _ z => nomatch z) (hset _)
          have f2 : Fr F' H' As' F' H' (fun j => if j = i then [] else As' j) := Fr.unset
          refine ⟨F', _, _, c2, ?_⟩
          have q2 := q
          generalize hg : gs (ev.set i (some (.exn x.c x.fs))) = r at q2 ⊢
          have f3 := fr.trans f2
          cases r with
          | nx e9 => exact fun σ9 F9 H9 As9 f9 c9 => q2 _ F9 H9 _ ((f3.trans f9).trans Fr.unset) (by have := c9.unset (i := i); rw [show (o.suite i pre2 (.exn a (.ref (C x.c)) (some d))).post.set i .fz = o.post from (List.set_set ..).trans h1] at this; exact this)
          | bk e9 => exact fun σ9 F9 H9 As9 f9 c9 => q2 _ F9 H9 _ ((f3.trans f9).trans Fr.unset) (by have := c9.unset (i := i); rw [show (o.suite i pre2 (.exn a (.ref (C x.c)) (some d))).bk.set i .fz = o.bk from (List.set_set ..).trans h3] at this; exact this)
          | ct e9 => exact fun σ9 F9 H9 As9 f9 c9 => q2 _ F9 H9 _ ((f3.trans f9).trans Fr.unset) (by have := c9.unset (i := i); rw [show (o.suite i pre2 (.exn a (.ref (C x.c)) (some d))).ct.set i .fz = o.ct from (List.set_set ..).trans h4] at this; exact this)
          | rt d9 e9 =>
            intro v9 σ9 F9 H9 As9 A9 f9 c9 r9 nd9 fa9
            refine q2 v9 _ F9 H9 _ A9 ((f3.trans f9).trans Fr.unset) (by have := c9.unset (i := i); rw [show (o.suite i pre2 (.exn a (.ref (C x.c)) (some d))).ret.set i .fz = o.ret from (List.set_set ..).trans h2] at this; exact this) r9 nd9 fun b hb => ?_
            obtain ⟨z1, z2, z3⟩ := fa9 b hb
            refine ⟨f3.back z1, z2, fun j hj => ?_⟩
            by_cases hji : j = i
            · rw [if_pos hji] at hj; cases hj
            · rw [if_neg hji] at hj; exact z3 j hj
          | ex x9 e9 => exact q2.elim
          | bad => exact q2
        · subst hb
          exact q (.ref (C x.c)) (some d) σ' F' H' As' fr c' xr
end
end DL

set_option maxHeartbeats 4000000
/-! The value layer: isinstance(e, C), isinstance(e, (A, B)), e.f in an except suite. -/
namespace DL
open PySem PySem.Spec PyProof.Rows L2
structure XcC (K : PySem.W.Frag) (D : Addr) : Prop where
  hc : (PySem.W.clsIn K D).isSome = true
  hg : PySem.W.findIn K (.ref D) "__getattribute__" = some (some (.builtin "BaseException.__getattribute__"))
  hk : PySem.W.findIn K (.ref D) "__getattr__" = some none
  hs : PySem.W.subIn K (.ref D) (.type "BaseException") = some true
  hd : PySem.W.hasDictIn K D = true
  ha : PySem.W.findIn K (.ref D) "__class__" = some (some (.builtin "object.__class__"))
  hn : PySem.W.specialIn K (.builtin "object.__class__") "__get__" = some (some (.builtin "getset_descriptor.__get__"))
  ht : PySem.W.takesIn K (.builtin "object.__class__") = some true
  hm : PySem.W.mroIn K D (.type "object") = some true
/-- a class as a value, as the object it is -/
def vCls : V → Option Value
  | .ref a => some (.ref a)
  | .ty n => some (.type n)
  | _ => none
theorem vCls_rel {v : V} {u cv : Value} (h : vCls v = some cv) (r : RelV v u) : u = cv := by
  cases v <;> cases h <;> exact r
def vClss : List V → Option (List Value)
  | [] => some []
  | v :: vs => match vCls v, vClss vs with
    | some c, some cs => some (c :: cs)
    | _, _ => none
theorem vCls_vals : ∀ {vs : List V} {us cvs : List Value}, vClss vs = some cvs → Vals vs us → us = cvs := by
  intro vs
  induction vs with
  | nil => intro us cvs h r; cases r; simpa [vClss] using h
  | cons v vs ih =>
    intro us cvs h r
    cases r with
    | cons rv rn =>
      unfold vClss at h
      split at h
      · rename_i c cs e1 e2
        cases h
        rw [vCls_rel e1 rv, ih e2 rn]
      · cases h
def rIsX (K : PySem.W.Frag) (D a : Addr) (dd : Addr) : List V → Hp → VK → Prop := fun xs H Q => (∃ fs, H dd = some (.xd fs)) ∧ ∃ (c : V) (b : Bool), xs = [.ref a, c] ∧ Q (.bl b) H ∧
  ((∃ cv, vCls c = some cv ∧ PySem.W.kitOne K (.ref D) cv = some b) ∨ ∃ tp vs cvs, c = .ref tp ∧ H tp = some (.tup vs) ∧ vClss vs = some cvs ∧ PySem.W.kitAny K (.ref D) cvs = some b)
section
variable {X : Cx} {C : Cid → Addr} {W : WX} {ows ows' : List Ow} {ow : Ow} {o : OwS}
theorem call_isX {a D dd : Addr} {oe : Obj} {pn : List (Addr × Obj)} (T : XcC X.K D) (hz : Zc (.ref D) (some dd) oe) (hf : ∃ vs, oe.data = .fields vs) : CallR (X.suite a ((a, oe) :: pn)) (.builtin "isinstance") (rIsX X.K D a dd) := by
  intro pins s σ H xs us Q I r h
  obtain ⟨⟨fs, hdd⟩, c, b, rfl, q, h⟩ := h
  cases r with
  | cons rx rr =>
    cases rr with
    | cons rt rr =>
      cases rr
      cases rx
      obtain ⟨hget, _⟩ := I.pin (a, oe) (List.mem_append.mpr (.inl List.mem_cons_self))
      obtain ⟨vs, hv⟩ := hf
      have hx : ObjOk X.prog X.w H s.heap dd (.xd fs) := I.hok dd _ hdd
      obtain ⟨mA, hns, _⟩ := hx
      obtain ⟨od, ho, _⟩ := lookIn_ns hns
      have J : PySem.W.InstAt s.heap a oe D (some od) := ⟨hget, hz.1, by unfold PySem.W.notCls; rw [hv] <;> rfl, by rw [hz.2]; exact ho⟩
      have Z : PySem.W.KitX X.K (.ref a) (.ref D) (fun h => PySem.W.InstAt h a oe D (some od)) := PySem.W.kitx_exc T.hc T.hg T.hk T.hs T.ha T.hn T.ht T.hm
      have fin : ∀ tk, EP (X.suite a ((a, oe) :: pn)) pins σ Q (.bool b) { s with toks := tk } := fun tk => ⟨.bl b, H, I.kept (t' := tk) fun _ _ z => z, rfl, q⟩
      rcases h with ⟨cv, e1, e2⟩ | ⟨tp, ws, cvs, rfl, e1, e2, e3⟩
      · have ec := vCls_rel e1 rt
        subst ec
        exact PySem.W.kia_one Z I.kIn J e2 (fun z => nomatch z) fin
      · cases rt
        have hy : ObjOk X.prog X.w H s.heap tp (.tup ws) := I.hok tp _ e1
        obtain ⟨_, its, hvs, o, hg, hc, n, hd⟩ := hy
        have ei := vCls_vals e2 hvs
        subst ei
        obtain ⟨oc, od2, odt, osl⟩ := o
        dsimp only at hc hd
        subst hc hd
        exact PySem.W.kia_tup Z I.kIn J hg e3 (fun z => nomatch z) fin
/-- the table's answer -/
def gIsX (i : Nat) (f : Cid → Option Bool) : GE := fun env => match env[i]? with
  | some (some (.exn c _)) => (match f c with
    | some b => .ok (.bl b)
    | none => .bad)
  | _ => .bad
theorem isX_state {i : Nat} {F H : Hp} {σ : L2.St} {env : Dv} {As : Nat → List Addr} {a : Addr} {cls : Value} {d : Option Addr} {c : Cid} {fs : List (Str × DL.D)} (ho : ows.getD i .fz = .exn a cls d) (cu : Cur X.K C F H σ env ows As) (e : env[i]? = some (some (.exn c fs))) :
    σ[i]? = some (some (.ref a)) ∧ cls = .ref (C c) ∧ ∃ dd vfs, d = some dd ∧ F dd = some (.xd vfs) ∧ RepF X.K C F vfs fs := by
  obtain ⟨v, h1, h2⟩ := cu.sl i _ e
  rw [ho] at h2
  generalize hA : As i = A at h2
  cases h2 with
  | exn h r => exact ⟨h1, rfl, _, _, rfl, h, r⟩
theorem d_isX {x n : Str} {i : Nat} {a : Addr} {oe : Obj} {cls cv : Value} {d : Option Addr} {pn : List (Addr × Obj)} {p p1 p2 pos : Pos} {f : Cid → Option Bool} {v : V} (hz : Zc cls d oe) (hf : ∃ vs, oe.data = .fields vs) (ho : ows.getD i .fz = .exn a cls d)
    (hi : X.N[i]? = some n) (hv : Vis X.env.scope n) (hg : Gl X "isinstance") (hm : X.mg "isinstance" = none) (hx : Gl X x) (hmx : X.mg x = some cv) (rv : RelV v cv) (e1 : vCls v = some cv) (hh : ∀ c b, f c = some b → XcC X.K (C c) ∧ PySem.W.kitOne X.K (.ref (C c)) cv = some b)
    (hdn : (n == ("__debug__" : Str)) = false := by decide) (hcd : (n == ("__classdict__" : Str)) = false := by decide) (hdx : (x == ("__debug__" : Str)) = false := by decide)
    (he : starEach [.Name n p1, .Name x p2] X.env = (false, eval (.Name n p1) X.env) :: starEach [.Name x p2] X.env := by rfl) (he2 : starEach [.Name x p2] X.env = (false, eval (.Name x p2) X.env) :: starEach [] X.env := by rfl) (hpl : (backTo pos (starEach [.Name x p2] X.env)).any (·.1) = false := by rfl) :
    PE (X.suite a ((a, oe) :: pn)) (.Call (.Name "isinstance" p) [.Name n p1, .Name x p2] [] pos) (tD X.K C W ows .fz (gIsX i f)) := ⟨fun pins s σ H Q I ⟨F, env, As, cu, h⟩ => by
  unfold gIsX at h
  split at h
  · rename_i c fs e
    obtain ⟨h1, rfl, dd, vfs, rfl, h3, _⟩ := isX_state ho cu e
    cases hb : f c with
    | none => rw [hb] at h; exact h.elim
    | some b =>
      rw [hb] at h
      obtain ⟨T, k⟩ := hh c b hb
      refine (pe_callB (X := X.suite a ((a, oe) :: pn)) (call_isX T hz hf) hg hm rfl (pa_cons (pe_var (X := X.suite a ((a, oe) :: pn)) hi hv hdn hcd) (pa_cons (pe_glob (X := X.suite a ((a, oe) :: pn)) hx hmx rv hdx) pa_nil he2) he) (by decide) (by decide) he hpl).run pins s σ H Q I ?_
      exact ⟨_, h1, ⟨vfs, cu.le _ _ h3⟩, v, b, rfl, PostE.here cu.le .bl h, .inl ⟨cv, e1, k⟩⟩
  · exact h.elim⟩
theorem d_isXb {T0 : String} {x n : Str} {i : Nat} {a : Addr} {oe : Obj} {cls : Value} {d : Option Addr} {pn : List (Addr × Obj)} {p p1 p2 pos : Pos} {f : Cid → Option Bool} (hz : Zc cls d oe) (hf : ∃ vs, oe.data = .fields vs) (ho : ows.getD i .fz = .exn a cls d)
    (hi : X.N[i]? = some n) (hv : Vis X.env.scope n) (hg : Gl X "isinstance") (hm : X.mg "isinstance" = none) (hx : Gl X x) (hmx : X.mg x = none) (hbx : bootBuiltins x = some (.type T0)) (hh : ∀ c b, f c = some b → XcC X.K (C c) ∧ PySem.W.kitOne X.K (.ref (C c)) (.type T0) = some b)
    (hdn : (n == ("__debug__" : Str)) = false := by decide) (hcd : (n == ("__classdict__" : Str)) = false := by decide) (hnx : x ≠ "__name__" := by decide) (hdx : (x == ("__debug__" : Str)) = false := by decide)
    (he : starEach [.Name n p1, .Name x p2] X.env = (false, eval (.Name n p1) X.env) :: starEach [.Name x p2] X.env := by rfl) (he2 : starEach [.Name x p2] X.env = (false, eval (.Name x p2) X.env) :: starEach [] X.env := by rfl) (hpl : (backTo pos (starEach [.Name x p2] X.env)).any (·.1) = false := by rfl) :
    PE (X.suite a ((a, oe) :: pn)) (.Call (.Name "isinstance" p) [.Name n p1, .Name x p2] [] pos) (tD X.K C W ows .fz (gIsX i f)) := ⟨fun pins s σ H Q I ⟨F, env, As, cu, h⟩ => by
  unfold gIsX at h
  split at h
  · rename_i c fs e
    obtain ⟨h1, rfl, dd, vfs, rfl, h3, _⟩ := isX_state ho cu e
    cases hb : f c with
    | none => rw [hb] at h; exact h.elim
    | some b =>
      rw [hb] at h
      obtain ⟨T, k⟩ := hh c b hb
      refine (pe_callB (X := X.suite a ((a, oe) :: pn)) (call_isX T hz hf) hg hm rfl (pa_cons (pe_var (X := X.suite a ((a, oe) :: pn)) hi hv hdn hcd) (pa_cons (pe_bltn (X := X.suite a ((a, oe) :: pn)) (v := .ty T0) hx hmx hbx rfl hnx hdx) pa_nil he2) he) (by decide) (by decide) he hpl).run pins s σ H Q I ?_
      exact ⟨_, h1, ⟨vfs, cu.le _ _ h3⟩, .ty T0, b, rfl, PostE.here cu.le .bl h, .inl ⟨_, rfl, k⟩⟩
  · exact h.elim⟩
/-- the names of a tuple of classes -/
def tVs (vs : List V) : TA := fun _ H Q => Q vs H
theorem pa_vnil : PA X [] (tVs []) := pa_nil
theorem pa_vglob {x : Str} {v : V} {u : Value} {pos : Pos} {es : List Expr} {vs : List V} (hg : Gl X x) (hm : X.mg x = some u) (r : RelV v u) (hr : PA X es (tVs vs)) (hd : (x == ("__debug__" : Str)) = false := by decide)
    (hs : starEach (.Name x pos :: es) X.env = (false, eval (.Name x pos) X.env) :: starEach es X.env := by rfl) : PA X (.Name x pos :: es) (tVs (v :: vs)) := pa_cons (pe_glob hg hm r hd) hr hs
/-- isinstance(e, (A, B, ..)): the tuple read as it stands -/
theorem d_isXt {n : Str} {i : Nat} {a : Addr} {oe : Obj} {cls : Value} {d : Option Addr} {pn : List (Addr × Obj)} {es : List Expr} {x1 : Nat} {p p1 p2 pos : Pos} {f : Cid → Option Bool} {vs : List V} {cvs : List Value} (hz : Zc cls d oe) (hf : ∃ vs, oe.data = .fields vs) (ho : ows.getD i .fz = .exn a cls d)
    (hi : X.N[i]? = some n) (hv : Vis X.env.scope n) (hg : Gl X "isinstance") (hm : X.mg "isinstance" = none) (ht : PA (X.suite a ((a, oe) :: pn)) es (tVs vs)) (hl : vs.length ≤ 100) (e1 : vClss vs = some cvs) (hh : ∀ c b, f c = some b → XcC X.K (C c) ∧ PySem.W.kitAny X.K (.ref (C c)) cvs = some b)
    (hdn : (n == ("__debug__" : Str)) = false := by decide) (hcd : (n == ("__classdict__" : Str)) = false := by decide)
    (he : starEach [.Name n p1, .Tuple es x1 p2] X.env = (false, eval (.Name n p1) X.env) :: starEach [.Tuple es x1 p2] X.env := by rfl) (he2 : starEach [.Tuple es x1 p2] X.env = (false, eval (.Tuple es x1 p2) X.env) :: starEach [] X.env := by rfl) (hpl : (backTo pos (starEach [.Tuple es x1 p2] X.env)).any (·.1) = false := by rfl) :
    PE (X.suite a ((a, oe) :: pn)) (.Call (.Name "isinstance" p) [.Name n p1, .Tuple es x1 p2] [] pos) (tD X.K C W ows .fz (gIsX i f)) := ⟨fun pins s σ H Q I ⟨F, env, As, cu, h⟩ => by
  unfold gIsX at h
  split at h
  · rename_i c fs e
    obtain ⟨h1, rfl, dd, vfs, rfl, h3, _⟩ := isX_state ho cu e
    cases hb : f c with
    | none => rw [hb] at h; exact h.elim
    | some b =>
      rw [hb] at h
      obtain ⟨T, k⟩ := hh c b hb
      refine (pe_callB (X := X.suite a ((a, oe) :: pn)) (call_isX T hz hf) hg hm rfl (pa_cons (pe_var (X := X.suite a ((a, oe) :: pn)) hi hv hdn hcd) (pa_cons (pe_tup (X := X.suite a ((a, oe) :: pn)) ht) pa_nil he2) he) (by decide) (by decide) he hpl).run pins s σ H Q I ?_
      refine ⟨_, h1, ?_, fun tp htp => ⟨⟨vfs, ?_⟩, .ref tp, b, rfl, ?_, .inr ⟨tp, vs, cvs, rfl, upd_same, e1, k⟩⟩⟩
      · rw [sizeLine_eq]; omega
      · rw [upd_ne (ne_of_none (cu.le _ _ h3) htp)]; exact cu.le _ _ h3
      · exact PostE.at_ (Pr.newO (o := .tup vs) cu.le htp) .bl h
  · exact h.elim⟩
def gXf (i : Nat) (ok : Cid → Bool) (n : Str) : GE := fun env => match env[i]? with
  | some (some (.exn c fs)) => (match ok c, fs.lookup n with
    | true, some d => .ok d
    | _, _ => .bad)
  | _ => .bad
theorem d_xf {n m : Str} {i : Nat} {a : Addr} {oe : Obj} {cls : Value} {d : Option Addr} {pn : List (Addr × Obj)} {p1 pos : Pos} {ok : Cid → Bool} (hz : Zc cls d oe) (hf : ∃ vs, oe.data = .fields vs) (ho : ows.getD i .fz = .exn a cls d) (hi : X.N[i]? = some n) (hv : Vis X.env.scope n)
    (hh : ∀ c, ok c = true → XcC X.K (C c) ∧ PySem.W.findIn X.K (.ref (C c)) m = some none)
    (hdn : (n == ("__debug__" : Str)) = false := by decide) (hcd : (n == ("__classdict__" : Str)) = false := by decide) (hb : attributeBase (.Name n p1) m X.env (eval (.Name n p1) X.env) = eval (.Name n p1) X.env := by rfl) :
    PE (X.suite a ((a, oe) :: pn)) (.Attribute (.Name n p1) m pos) (tD X.K C W ows .fz (gXf i ok m)) := ⟨fun pins s σ H Q I ⟨F, env, As, cu, h⟩ => by
  unfold gXf at h
  split at h
  · rename_i c fs e
    obtain ⟨h1, hcls, dd, vfs, rfl, h3, r⟩ := isX_state ho cu e
    split at h
    · rename_i x hok hb2
      obtain ⟨T, k⟩ := hh c hok
      obtain ⟨v, e2, r2⟩ := r.lookup hb2
      refine (pe_xf (a := a) (oe := oe) (pn := pn) ⟨T.hg, T.hk, T.hs, T.hd⟩ k hz hf (pe_var (X := X.suite a ((a, oe) :: pn)) hi hv hdn hcd) hb).run pins s σ H Q I ?_
      exact ⟨_, h1, rfl, hcls, dd, vfs, v, rfl, cu.le _ _ h3, e2, PostE.here cu.le r2 h⟩
    · exact h.elim
  · exact h.elim⟩
end
end DL

set_option maxHeartbeats 4000000
/-! The value layer: words in short; calls of defs that keep a promise by data; what the written part says. -/
namespace DL
open PySem PySem.Spec PyProof.Rows L2
section
variable {X : Cx} {C : Cid → Addr} {W : WX} {ows ows' : List Ow} {ow : Ow} {o : OwS}
/-- a name in the i-th slot -/
theorem dv (i : Nat) {x : Str} {pos : Pos} (hN : X.N[i]? = some x := by rfl) (hv : Vis X.env.scope x := by first | exact Or.inl rfl | exact Or.inr (Or.inl rfl) | exact Or.inr (Or.inr rfl)) (ho : ows.getD i .fz = .fz := by rfl) (hd : (x == ("__debug__" : Str)) = false := by decide)
    (hcd : (x == ("__classdict__" : Str)) = false := by decide) : PE X (.Name x pos) (tD X.K C W ows .fz (gVar i)) := d_var i hN hv ho hd hcd
def gChain (f f' : D → D → R D) (ga gb gc : GE) : GE := fun env => (ga env).bind fun a => (gb env).bind fun b => (f a b).bind fun z => match z with
  | .bl true => (gc env).bind fun c => f' b c
  | .bl false => .ok (.bl false)
  | _ => .bad
theorem chain_of {r r' : R2} {f f' : D → D → R D} {ga gb gc : GE} (h1 : Op2 X.K C r .fz f) (h2 : Op2 X.K C r' .fz f') (σ : L2.St) (H : Hp) (Q : VK) (h : tD X.K C W ows .fz (gChain f f' ga gb gc) σ H Q) :
    tChain r r' (tD X.K C W ows .fz ga) (tD X.K C W ows .fz gb) (tD X.K C W ows .fz gc) σ H Q := by
  obtain ⟨F, env, As, c, h⟩ := h
  refine ⟨F, env, As, c, PostE.first h fun v d F1 H1 p r1 q1 => ⟨F1, env, As, c.pr p, PostE.first q1 fun v2 d2 F2 H2 p2 r2 q2 => ?_⟩⟩
  refine h1 W σ F2 H2 v v2 d d2 _ p2.fh (r1.mono p2.le) r2 (PostE.first q2 fun v3 d3 F3 H3 p3 r3 q3 => ?_)
  cases r3 with
  | @bl b =>
    refine ⟨b, rfl, ?_⟩
    cases b with
    | true => exact ⟨F3, env, As, ((c.pr p).pr p2).pr p3, PostE.first q3 fun v4 d4 F4 H4 p4 r4 q4 => h2 W σ F4 H4 v2 v4 d2 d4 Q p4.fh ((r2.mono p3.le).mono p4.le) r4 q4⟩
    | false => exact PostE.here p3.fh .bl q3
  | _ => exact q3.elim
theorem d_chain {a b c : Expr} {pos : Pos} {op op' : CmpOp} {r r' : R2} {f f' : D → D → R D} {ga gb gc : GE} (ho : OpR X (compareOp op) r) (ho' : OpR X (compareOp op') r') (h1 : Op2 X.K C r .fz f) (h2 : Op2 X.K C r' .fz f') (ha : PE X a (tD X.K C W ows .fz ga)) (hb : PE X b (tD X.K C W ows .fz gb)) (hc : PE X c (tD X.K C W ows .fz gc))
    (hm : lastMarks [op, op'] [b, c] = false := by with_unfolding_all rfl) : PE X (.Compare a [op, op'] [b, c] pos) (tD X.K C W ows .fz (gChain f f' ga gb gc)) := (pe_chain ho ho' ha hb hc hm).monoD fun σ H Q h => chain_of h1 h2 σ H Q h
theorem d_tchain {a b c : Expr} {pos : Pos} {op op' : CmpOp} {r r' : R2} {f f' : D → D → R D} {ga gb gc : GE} (ho : OpR X (compareOp op) r) (ho' : OpR X (compareOp op') r') (h1 : Op2 X.K C r .fz f) (h2 : Op2 X.K C r' .fz f') (ha : PE X a (tD X.K C W ows .fz ga)) (hb : PE X b (tD X.K C W ows .fz gb)) (hc : PE X c (tD X.K C W ows .fz gc))
    (hm : lastMarks [op, op'] [b, c] = false := by with_unfolding_all rfl) : PT X (.Compare a [op, op'] [b, c] pos) (tT X.K C W ows (gB (gChain f f' ga gb gc))) := (pt_chain ho ho' ha hb hc hm).monoD fun σ H Q h => tB_of (fun σ H Q h => chain_of h1 h2 σ H Q h) σ H Q h

/-! ### what the written part says -/
/-- a constant of the module -/
def Gc (K : PySem.W.Frag) (mg : Str → Option Value) (C : Cid → Addr) (x : Str) (d : D) : Prop := ∃ v u, mg x = some u ∧ RelV v u ∧ ∀ F, Rep K C F v d
theorem d_gc {x : Str} {d : D} {pos : Pos} (g : Gc X.K X.mg C x d) (hg : Gl X x := by rfl) (hd : (x == ("__debug__" : Str)) = false := by decide) : PE X (.Name x pos) (tD X.K C W ows .fz (gC d)) := by
  obtain ⟨v, u, h1, h2, h3⟩ := g
  exact d_glob hg h1 h2 h3 hd
/-- the name of a built-in type -/
theorem d_ty {x : Str} {T : String} {pos : Pos} (hm : X.mg x = none) (hb : bootBuiltins x = some (.type T) := by rfl) (hg : Gl X x := by rfl) (hn : x ≠ "__name__" := by decide) (hd : (x == ("__debug__" : Str)) = false := by decide) : PE X (.Name x pos) (tD X.K C W ows .fz (gC (.ty T))) :=
  d_const (pe_bltn (v := .ty T) hg hm hb rfl hn hd) fun _ => .ty
/-- the def x, its text st -/
def Df (K : PySem.W.Frag) (mg : Str → Option Value) (x : Str) (st : Stmt) (ps : List Str) : Prop := ∃ (a : Addr) (fd : FuncData), Fun K x x st a fd ∧ Binds K fd ps [] ∧ mg x = some (.ref a) ∧ ∀ us : List Value, us.length = ps.length → bindArgs fd ⟨us, []⟩ = pure (ps.zip us)
/-- the def x answers as F by data -/
def Good (P : Program) (w : World) (K : PySem.W.Frag) (mg : Str → Option Value) (base : Heap) (C : Cid → Addr) (k : Nat) (x : Str) (ps : List Str) (rw : Ow) (F : List D → R D) : Prop :=
  (∃ (a : Addr) (fd : FuncData), FnOk P w K mg base (L2.CX P w) k a fd ps (spD K C F ps.length rw) ∧ mg x = some (.ref a) ∧ PySem.W.keepIn K (.ref a) = true ∧ Binds K fd ps [] ∧ (∃ oc od osl, K.lookup a = some ⟨oc, od, .func fd, osl⟩) ∧ ∀ us : List Value, us.length = ps.length → bindArgs fd ⟨us, []⟩ = pure (ps.zip us)) ∧ ∀ ds, ds.length ≠ ps.length → F ds = .bad
theorem runF_len {N n : Nat} {g : GS} (ds : List D) (h : ds.length ≠ n) : runF N n g ds = .bad := by
  unfold runF
  rw [decide_eq_false h]
theorem d_callG {k : Nat} {x : Str} {ps : List Str} {p pos : Pos} {e : Expr} {es : List Expr} {t : GA} {F : List D → R D} (G : Good X.prog X.w X.K X.mg X.base C k x ps ow F) (hr : Room k X.A) (tk : Takes X W)
    (ha : PA X (e :: es) (tA X.K C W ows t)) (hg : Gl X x := by rfl) (hdb : (x == ("__debug__" : Str)) = false := by decide) (he : starEach (e :: es) X.env = (false, eval e X.env) :: starEach es X.env := by rfl) (hpl : (backTo pos (starEach es X.env)).any (·.1) = false := by rfl) :
    PE X (.Call (.Name x p) (e :: es) [] pos) (tD X.K C W ows ow (gCall F t)) := by
  obtain ⟨⟨a, fd, Fk, hm, hk, hb, _⟩, hl⟩ := G
  exact (pe_callS Fk hr hg hm hk hb (fun σ => passAt tk σ) ha hdb he hpl).monoD fun σ H Q ⟨F1, env, As, c, h⟩ => ⟨F1, env, As, c, PostE.firstA h fun vs ds F2 H2 p2 r2 h2 => by
    refine ⟨F2, ds, p2.fh, r2, ?_, PostE.toW (fun _ _ _ z => z) h2⟩
    rw [r2.length]
    cases Nat.decEq ds.length ps.length with
    | isTrue e => exact e
    | isFalse e => rw [hl ds e] at h2; exact h2.elim⟩
section
variable {P : Program} {w : World} {K : PySem.W.Frag} {mg : Str → Option Value} {base : Heap}
theorem fun_at {x qual : Str} {st : Stmt} {f : Addr} {fd : FuncData} (F : Fun K x qual st f fd) : ∃ oc od osl, K.lookup f = some ⟨oc, od, .func fd, osl⟩ := by
  obtain ⟨oc, od, kV, doc, pm, an, cdv, ct, osl, _, h, _⟩ := F.ex
  exact ⟨oc, od, osl, h⟩
theorem good_of {x : Str} {st : Stmt} {N ps : List Str} {k : Nat} {g : GS} {rw : Ow} {ret ex : List Ow} (D0 : Df K mg x st ps) (S : FnScope N ps (defScope st)) (ow0 : List Ow) (how : ∀ i, ow0.getD i .fz = .fz)
    (hb : ∀ (f : Addr) (cdv : Value) (A : Around) (outer : List Env) (s : Shared) (H : Hp) (E : XK), Room k (A.deeper (envOfC x (defScope st) s.heap.objs.size f cdv)) →
      PSs (cxOf (L2.CX P w) P w K mg base N x (defScope st) f cdv A outer s H E) (defBody st) (tS K C (fun c d _ H' => E c d H') ⟨ow0, ret, ret, ex, [], [], rw⟩ g))
    (hrw : rw = .fz ∨ ∀ env e', g env ≠ .nx e') : Good P w K mg base C (k + 1) x ps rw (runF N.length ps.length g) := by
  obtain ⟨a, fd, F, hbd, hm, hba⟩ := D0
  exact ⟨⟨a, fd, fn_D F S ow0 how (fun cdv A outer s H E hr => hb a cdv A outer s H E hr) hrw, hm, F.kp, hbd, fun_at F, hba⟩, fun ds h => runF_len ds h⟩
/-- a promise of nothing -/
theorem good_bad {x : Str} {st : Stmt} {N ps : List Str} {k : Nat} {rw : Ow} (D0 : Df K mg x st ps) (S : FnScope N ps (defScope st)) : Good P w K mg base C (k + 1) x ps rw (fun _ => .bad) := by
  obtain ⟨a, fd, F, hbd, hm, hba⟩ := D0
  refine ⟨⟨a, fd, F.okX S (fun vs H Q E h => ?_) (fun cdv A outer s H vs Q E hr h => ?_), hm, F.kp, hbd, fun_at F, hba⟩, fun ds h => rfl⟩
  · obtain ⟨_, _, _, _, _, h⟩ := h; exact h.elim
  · obtain ⟨_, _, _, _, _, h⟩ := h; exact h.elim
theorem Good.mono {x : Str} {ps : List Str} {k k' : Nat} {rw : Ow} {F : List DL.D → R DL.D} (h : k ≤ k') (G : Good P w K mg base C k x ps rw F) : ∀ {A : Around}, Room k' A → Room k A := fun r => r.mono h
end
end
theorem fz_all (n i : Nat) : (List.replicate n Ow.fz).getD i .fz = .fz := by
  rw [List.getD_eq_getElem?_getD, List.getElem?_replicate]
  split <;> rfl
end DL

set_option maxHeartbeats 8000000
/-! The walk of bandstand_k72_deeds, printed by gen.py. -/
namespace G72
open PySem PySem.Spec PyProof.Rows L2 DL
def top (i : Nat) : Stmt := PySem.Challenge.pw_bandstand_k72_deeds.main.body.getD i (.Pass ⟨0, 0, 0, 0⟩)
def nbs : List Str := ["ValueError", "abs", "bool", "int", "isinstance", "len", "list", "range", "str", "sum", "super", "tuple"]
def g__law_draws : GS := (sSeq (sSet 4 (g2 modD (gCall (un intD) (aCons (gCall (un sumD) (aCons (gSl (gVar 0) pNone (pSome (gC (.int 63)))) aNil)) aNil)) (gC (.int 1000000007))))
  (sSeq (sIf (gB (g2 ltD (gVar 1) (gCall (un lenD) (aCons (gVar 0) aNil))))
    (sSet 4 (gCall (un absD) (aCons (gCall (un intD) (aCons (g2 ixD (gVar 0) (gVar 1)) aNil)) aNil)))
    sNil)
  (sSeq (sSet 5 (gLst aNil))
  (sSeq (sIf (gB (g2 geD (gVar 4) (g2 powD (gC (.int 10)) (gC (.int 18)))))
    (sSeq (sSet 4 (g2 subD (gVar 4) (g2 powD (gC (.int 10)) (gC (.int 18)))))
  (sSeq (sFor (iArg rng1D (aCons (gVar 2) aNil)) (tgN 6)
    (sSeq (sApp 5 (g2 modD (gCall (un intD) (aCons (gVar 4) aNil)) (gVar 3)))
  (sSet 4 (g2 fdivD (gVar 4) (gVar 3)))))
  (sRet (gVar 5))))
    sNil)
  (sSeq (sSet 4 (g2 modD (gCall (un intD) (aCons (g2 addD (g2 addD (gVar 4) (g2 mulD (gC (.int 7919)) (gVar 1))) (gC (.int 1))) aNil)) (gC (.int 2147483647))))
  (sSeq (sFor (iArg rng1D (aCons (gVar 2) aNil)) (tgN 6)
    (sSeq (sSet 4 (g2 modD (gCall (un intD) (aCons (g2 addD (g2 mulD (gVar 4) (gC (.int 48271))) (gC (.int 11))) aNil)) (gC (.int 2147483647))))
  (sApp 5 (g2 modD (g2 fdivD (g2 modD (gCall (un intD) (aCons (g2 mulD (gVar 4) (gVar 4)) aNil)) (gC (.int 2147483629))) (gC (.int 512))) (gVar 3)))))
  (sRet (gVar 5))))))))
def f__law_draws : List D → R D := runF 7 4 g__law_draws
def g__law_name : GS := (sRet (gS1 joinD (gC (.str "")) (gLc [1] (iArg rng1D (aCons (g2 addD (gC (.int 1)) (g2 modD (gCall (un intD) (aCons (g2 ixD (gVar 0) (gC (.int 0))) aNil)) (gC (.int 8)))) aNil)) (tgN 1) gYes (g2 ixD (gC (.str "abcdefghijklmnopqrstuvwxyz")) (g2 modD (gCall (un intD) (aCons (g2 ixD (gVar 0) (g2 addD (gC (.int 1)) (gVar 1))) aNil)) (gC (.int 26)))))))
def f__law_name : List D → R D := runF 2 1 g__law_name
def g__law_text : GS := (sSeq (sSet 2 (gCall f__law_draws (aCons (gVar 0) (aCons (gC (.int 1)) (aCons (gC (.int 24)) (aCons (gC (.int 10000)) aNil))))))
  (sSeq (sIf (gB (g2 ltD (gVar 1) (gC (.int 2))))
    (sRet (g2 addD (g2 addD (g2 addD (g2 ixD (gLst (aCons (gC (.str "cut ")) (aCons (gC (.str "open ")) aNil))) (gVar 1)) (gCall (un strD) (aCons (g2 fdivD (g2 ixD (gVar 2) (gC (.int 0))) (g2 ixD (gLst (aCons (gC (.int 1)) (aCons (gC (.int 10)) (aCons (gC (.int 100)) (aCons (gC (.int 1000)) aNil))))) (g2 modD (gCall (un intD) (aCons (g2 ixD (gVar 2) (gC (.int 2))) aNil)) (gC (.int 4))))) aNil))) (gC (.str " "))) (gCall (un strD) (aCons (g2 ixD (gVar 2) (gC (.int 1))) aNil))))
    sNil)
  (sSeq (sIf (gB (g2 ltD (gVar 1) (gC (.int 6))))
    (sSeq (sSet 3 (gCall f__law_name (aCons (gSl (gVar 2) (pSome (gC (.int 3))) pNone) aNil)))
  (sSeq (sIf (gB (g2 eqD (g2 modD (gCall (un intD) (aCons (g2 ixD (gVar 2) (gC (.int 0))) aNil)) (gC (.int 3))) (gC (.int 0))))
    (sRet (g2 addD (g2 ixD (gLst (aCons (gC (.str "print ")) (aCons (gC (.str "scrap ")) (aCons (gC (.str "lend ")) (aCons (gC (.str "return ")) aNil))))) (g2 subD (gVar 1) (gC (.int 2)))) (gVar 3)))
    sNil)
  (sSeq (sIf (gB (g2 eqD (g2 modD (gCall (un intD) (aCons (g2 ixD (gVar 2) (gC (.int 1))) aNil)) (gC (.int 8))) (gC (.int 0))))
    (sRet (g2 addD (g2 addD (g2 addD (g2 ixD (gLst (aCons (gC (.str "print ")) (aCons (gC (.str "scrap ")) (aCons (gC (.str "lend ")) (aCons (gC (.str "return ")) aNil))))) (g2 subD (gVar 1) (gC (.int 2)))) (gVar 3)) (gC (.str " "))) (gVar 3)))
    sNil)
  (sRet (g2 addD (g2 addD (g2 addD (g2 ixD (gLst (aCons (gC (.str "print ")) (aCons (gC (.str "scrap ")) (aCons (gC (.str "lend ")) (aCons (gC (.str "return ")) aNil))))) (g2 subD (gVar 1) (gC (.int 2)))) (gVar 3)) (gC (.str " "))) (gCall f__law_name (aCons (gSl (gVar 2) (pSome (gC (.int 12))) pNone) aNil)))))))
    sNil)
  (sRet (gC (.str "seat"))))))
def f__law_text : List D → R D := runF 4 2 g__law_text
def g__law_number : GS := (sSeq (sIf (tOrG (gB (g2 ltD (gCall (un lenD) (aCons (gVar 0) aNil)) (gC (.int 1)))) (tOrG (gB (g2 gtD (gCall (un lenD) (aCons (gVar 0) aNil)) (gC (.int 4)))) (tAndG (gB (g2 gtD (gCall (un lenD) (aCons (gVar 0) aNil)) (gC (.int 1)))) (gB (g2 eqD (g2 ixD (gVar 0) (gC (.int 0))) (gC (.str "0")))))))
    (sRet (g1 negD (gC (.int 1))))
    sNil)
  (sSeq (sSet 1 (gC (.int 0)))
  (sSeq (sFor (iSeq (gVar 0)) (tgN 2)
    (sSeq (sIf (gB (g2 notInD (gVar 2) (gC (.str "0123456789"))))
    (sRet (g1 negD (gC (.int 1))))
    sNil)
  (sSet 1 (g2 addD (g2 mulD (gC (.int 10)) (gVar 1)) (gS1 sidxD (gC (.str "0123456789")) (gVar 2))))))
  (sRet (gVar 1)))))
def f__law_number : List D → R D := runF 3 1 g__law_number
def g__law_is_name : GS := (sSeq (sFor (iSeq (gVar 0)) (tgN 1)
    (sIf (gB (g2 notInD (gVar 1) (gC (.str "abcdefghijklmnopqrstuvwxyz"))))
    (sRet (gC (.bl false)))
    sNil))
  (sRet (gChain ltD ltD (gC (.int 0)) (gCall (un lenD) (aCons (gVar 0) aNil)) (gC (.int 9)))))
def f__law_is_name : List D → R D := runF 2 1 g__law_is_name
def g__law_due : GS := (sSeq (sSet 1 (gS1 splitD (gVar 0) (gC (.str " "))))
  (sSeq (sIf (gB (g2 eqD (gVar 1) (gLst (aCons (gC (.str "seat")) aNil))))
    (sRet (DL.gTup (aCons (gC (.str "deed")) (aCons (DL.gTup (aCons (gC (.str "seat")) aNil)) aNil))))
    sNil)
  (sSeq (sIf (tAndG (gB (g2 inD (g2 ixD (gVar 1) (gC (.int 0))) (gLst (aCons (gC (.str "cut")) (aCons (gC (.str "open")) aNil))))) (gB (g2 eqD (gCall (un lenD) (aCons (gVar 1) aNil)) (gC (.int 3)))))
    (sIf (tAndG (gB (g2 geD (gCall f__law_number (aCons (g2 ixD (gVar 1) (gC (.int 1))) aNil)) (gC (.int 0)))) (gB (g2 geD (gCall f__law_number (aCons (g2 ixD (gVar 1) (gC (.int 2))) aNil)) (gC (.int 0)))))
    (sRet (DL.gTup (aCons (gC (.str "deed")) (aCons (DL.gTup (aCons (g2 ixD (gVar 1) (gC (.int 0))) (aCons (gCall f__law_number (aCons (g2 ixD (gVar 1) (gC (.int 1))) aNil)) (aCons (gCall f__law_number (aCons (g2 ixD (gVar 1) (gC (.int 2))) aNil)) aNil)))) aNil))))
    sNil)
    sNil)
  (sSeq (sIf (tAndG (gB (g2 inD (g2 ixD (gVar 1) (gC (.int 0))) (gLst (aCons (gC (.str "print")) (aCons (gC (.str "scrap")) (aCons (gC (.str "lend")) (aCons (gC (.str "return")) aNil))))))) (gB (g2 inD (gCall (un lenD) (aCons (gVar 1) aNil)) (gLst (aCons (gC (.int 2)) (aCons (gC (.int 3)) aNil))))))
    (sIf (gB (g2 eqD (gCall (un lenD) (aCons (gLc [2] (iSeq (gSl (gVar 1) (pSome (gC (.int 1))) pNone)) (tgN 2) (tNotG (gB (gCall f__law_is_name (aCons (gVar 2) aNil)))) (gVar 2)) aNil)) (gC (.int 0))))
    (sRet (DL.gTup (aCons (gC (.str "deed")) (aCons (DL.gTup (aCons (g2 ixD (gVar 1) (gC (.int 0))) (aCons (gCall (un tupleD) (aCons (gSl (gVar 1) (pSome (gC (.int 1))) pNone) aNil)) aNil))) aNil))))
    sNil)
    sNil)
  (sRet (DL.gTup (aCons (gC (.str "bad")) (aCons (gVar 0) aNil))))))))
def f__law_due : List D → R D := runF 3 1 g__law_due
def g__law_same (rec : List D → R D) : GS := (sSeq (sIf (gB (gCall (bi isiD) (aCons (gVar 1) (aCons (DL.gTup (aCons (gC (.ty "tuple")) (aCons (gC (.ty "list")) aNil))) aNil))))
    (sSeq (sIf (tOrG (gB (g2 neD (gCall (bi isiD) (aCons (gVar 1) (aCons (gC (.ty "tuple")) aNil))) (gCall (bi isiD) (aCons (gVar 0) (aCons (gC (.ty "tuple")) aNil))))) (gB (g2 neD (gCall (bi isiD) (aCons (gVar 1) (aCons (gC (.ty "list")) aNil))) (gCall (bi isiD) (aCons (gVar 0) (aCons (gC (.ty "list")) aNil))))))
    (sRet (gC (.bl false)))
    sNil)
  (sSeq (sIf (gB (g2 neD (gCall (un lenD) (aCons (gVar 0) aNil)) (gCall (un lenD) (aCons (gVar 1) aNil))))
    (sRet (gC (.bl false)))
    sNil)
  (sSeq (sFor (iArg rng1D (aCons (gCall (un lenD) (aCons (gVar 1) aNil)) aNil)) (tgN 2)
    (sIf (tNotG (gB (gCall rec (aCons (g2 ixD (gVar 0) (gVar 2)) (aCons (g2 ixD (gVar 1) (gVar 2)) aNil)))))
    (sRet (gC (.bl false)))
    sNil))
  (sRet (gC (.bl true))))))
    sNil)
  (sSeq (sIf (gB (g2 isND (gVar 1) (gC .non)))
    (sRet (g2 isND (gVar 0) (gC .non)))
    sNil)
  (sSeq (sIf (gB (gCall (bi isiD) (aCons (gVar 1) (aCons (gC (.ty "bool")) aNil))))
    (sRet (gAndV (gCall (bi isiD) (aCons (gVar 0) (aCons (gC (.ty "bool")) aNil))) (g2 eqD (gVar 0) (gVar 1))))
    sNil)
  (sSeq (sIf (gB (gCall (bi isiD) (aCons (gVar 1) (aCons (gC (.ty "int")) aNil))))
    (sRet (gAndV (gCall (bi isiD) (aCons (gVar 0) (aCons (gC (.ty "int")) aNil))) (gAndV (gNotV (gCall (bi isiD) (aCons (gVar 0) (aCons (gC (.ty "bool")) aNil)))) (g2 eqD (gVar 0) (gVar 1)))))
    sNil)
  (sRet (gAndV (gCall (bi isiD) (aCons (gVar 0) (aCons (gC (.ty "str")) aNil))) (g2 eqD (gVar 0) (gVar 1))))))))
def f__law_same : Nat → List D → R D
  | 0 => fun _ => .bad
  | fu + 1 => runF 3 2 (g__law_same (f__law_same fu))
def g_only : GS := (sSeq (sFor (iSeq (gVar 0)) (tgN 2)
    (sIf (gB (g2 notInD (gVar 2) (gVar 1)))
    (sRet (gC (.bl false)))
    sNil))
  (sRet (gC (.bl true))))
def f_only : List D → R D := runF 3 2 g_only
def g_read_number : GS := (sSeq (sIf (tOrG (gB (g2 ltD (gCall (un lenD) (aCons (gVar 0) aNil)) (gC (.int 1)))) (gB (g2 gtD (gCall (un lenD) (aCons (gVar 0) aNil)) (gC (.int 4)))))
    (sRet (g1 negD (gC (.int 1))))
    sNil)
  (sSeq (sIf (tNotG (gB (gCall f_only (aCons (gVar 0) (aCons (gC (.str "0123456789")) aNil)))))
    (sRet (g1 negD (gC (.int 1))))
    sNil)
  (sSeq (sIf (tAndG (gB (g2 eqD (g2 ixD (gVar 0) (gC (.int 0))) (gC (.str "0")))) (gB (g2 gtD (gCall (un lenD) (aCons (gVar 0) aNil)) (gC (.int 1)))))
    (sRet (g1 negD (gC (.int 1))))
    sNil)
  (sRet (gCall (un intD) (aCons (gVar 0) aNil))))))
def f_read_number : List D → R D := runF 1 1 g_read_number
def g_read_numbers : GS := (sSeq (sSet 1 (gLst aNil))
  (sSeq (sFor (iSeq (gVar 0)) (tgN 2)
    (sSeq (sSet 3 (gCall f_read_number (aCons (gVar 2) aNil)))
  (sSeq (sIf (gB (g2 ltD (gVar 3) (gC (.int 0))))
    (sRet (gC .non))
    sNil)
  (sApp 1 (gVar 3)))))
  (sRet (gVar 1))))
def f_read_numbers : List D → R D := runF 4 1 g_read_numbers
def g_is_name : GS := (sSeq (sIf (tOrG (gB (g2 ltD (gCall (un lenD) (aCons (gVar 0) aNil)) (gC (.int 1)))) (gB (g2 gtD (gCall (un lenD) (aCons (gVar 0) aNil)) (gC (.int 8)))))
    (sRet (gC (.bl false)))
    sNil)
  (sRet (gCall f_only (aCons (gVar 0) (aCons (gC (.str "abcdefghijklmnopqrstuvwxyz")) aNil)))))
def f_is_name : List D → R D := runF 1 1 g_is_name
def g_read_names : GS := (sSeq (sIf (tOrG (gB (g2 ltD (gCall (un lenD) (aCons (gVar 0) aNil)) (gC (.int 1)))) (gB (g2 gtD (gCall (un lenD) (aCons (gVar 0) aNil)) (gC (.int 2)))))
    (sRet (gC .non))
    sNil)
  (sSeq (sFor (iSeq (gVar 0)) (tgN 1)
    (sIf (tNotG (gB (gCall f_is_name (aCons (gVar 1) aNil))))
    (sRet (gC .non))
    sNil))
  (sRet (gCall (un tupleD) (aCons (gVar 0) aNil)))))
def f_read_names : List D → R D := runF 2 1 g_read_names
def g_read_form : GS := (sSeq (sSet 1 (g2 ixD (gVar 0) (gC (.int 0))))
  (sSeq (sIf (tAndG (gB (g2 eqD (gVar 1) (gC (.str "seat")))) (gB (g2 eqD (gCall (un lenD) (aCons (gVar 0) aNil)) (gC (.int 1)))))
    (sRet (DL.gTup (aCons (gC (.str "seat")) aNil)))
    sNil)
  (sSeq (sIf (tAndG (gB (g2 inD (gVar 1) (gC (.tup [(.str "cut"), (.str "open")])))) (gB (g2 eqD (gCall (un lenD) (aCons (gVar 0) aNil)) (gC (.int 3)))))
    (sSeq (sSet 2 (gCall f_read_numbers (aCons (gSl (gVar 0) (pSome (gC (.int 1))) pNone) aNil)))
  (sSeq (sIf (gB (g2 isND (gVar 2) (gC .non)))
    (sRet (gC .non))
    sNil)
  (sRet (DL.gTup (aCons (gVar 1) (aCons (g2 ixD (gVar 2) (gC (.int 0))) (aCons (g2 ixD (gVar 2) (gC (.int 1))) aNil)))))))
    sNil)
  (sSeq (sIf (gB (g2 inD (gVar 1) (gC (.tup [(.str "print"), (.str "scrap"), (.str "lend"), (.str "return")]))))
    (sSeq (sSet 3 (gCall f_read_names (aCons (gSl (gVar 0) (pSome (gC (.int 1))) pNone) aNil)))
  (sSeq (sIf (gB (g2 isND (gVar 3) (gC .non)))
    (sRet (gC .non))
    sNil)
  (sRet (DL.gTup (aCons (gVar 1) (aCons (gVar 3) aNil))))))
    sNil)
  (sRet (gC .non))))))
def f_read_form : List D → R D := runF 4 1 g_read_form
def g_read_deed : GS := (sSeq (sSet 1 (gCall f_read_form (aCons (gS1 splitD (gVar 0) (gC (.str " "))) aNil)))
  (sSeq (sIf (gB (g2 isND (gVar 1) (gC .non)))
    (sRaise 3 "text" (gVar 0))
    sNil)
  (sRet (gVar 1))))
def f_read_deed : List D → R D := runF 2 1 g_read_deed
def tb__law_told_0 : Cid → Option Bool
  | 3 => some true
  | _ => none
def tb__law_told_1 : Cid → Option Bool
  | 3 => some false
  | _ => none
def tb__law_told_2 : Cid → Option Bool
  | 3 => some true
  | _ => none
def tb__law_told_3 : Cid → Option Bool
  | 3 => some true
  | _ => none
def okX__law_told_4 : Cid → Bool
  | 3 => true
  | _ => false
def g__law_told : GS := (sSeq (sTry 1 (tb__law_told_0)
    (sRet (DL.gTup (aCons (gC (.str "deed")) (aCons (gCall f_read_deed (aCons (gVar 0) aNil)) aNil))))
    (sIf (tAndG (gB (gIsX 1 (tb__law_told_3))) (tAndG (gB (gIsX 1 (tb__law_told_2))) (tNotG (gB (gIsX 1 (tb__law_told_1))))))
    (sRet (DL.gTup (aCons (gC (.str "bad")) (aCons (gXf 1 okX__law_told_4 "text") aNil))))
    sNil))
  (sRet (DL.gTup (aCons (gC (.str "other")) aNil))))
def f__law_told : List D → R D := runF 2 1 g__law_told
def g_write_deed : GS := (sSeq (sSet 1 (g2 ixD (gVar 0) (gC (.int 0))))
  (sSeq (sIf (gB (g2 inD (gVar 1) (gC (.tup [(.str "cut"), (.str "open")]))))
    (sRet (gS1 joinD (gC (.str " ")) (gLst (aCons (gVar 1) (aCons (gCall (un strD) (aCons (g2 ixD (gVar 0) (gC (.int 1))) aNil)) (aCons (gCall (un strD) (aCons (g2 ixD (gVar 0) (gC (.int 2))) aNil)) aNil))))))
    sNil)
  (sSeq (sIf (gB (g2 inD (gVar 1) (gC (.tup [(.str "print"), (.str "scrap"), (.str "lend"), (.str "return")]))))
    (sRet (gS1 joinD (gC (.str " ")) (g2 addD (gLst (aCons (gVar 1) aNil)) (gCall (un listD) (aCons (g2 ixD (gVar 0) (gC (.int 1))) aNil)))))
    sNil)
  (sRet (gVar 1)))))
def f_write_deed : List D → R D := runF 2 1 g_write_deed
def g__law_near : GS := (sSeq (sSet 1 (gLst (aCons (gC (.str "")) (aCons (gC (.str " ")) (aCons (gC (.str "seat ")) (aCons (gC (.str " seat")) (aCons (gC (.str "Seat")) (aCons (gC (.str "seats")) (aCons (gC (.str "seat seat")) (aCons (gC (.str "cut")) (aCons (gC (.str "cut 1")) (aCons (gC (.str "cut 1 2 3")) (aCons (gC (.str "cut  1 2")) (aCons (gC (.str "cut 1  2")) aNil))))))))))))))
  (sSeq (sSet 1 (g2 addD (gVar 1) (gLst (aCons (gC (.str "cut 1 2 ")) (aCons (gC (.str " cut 1 2")) (aCons (gC (.str "cut 01 2")) (aCons (gC (.str "cut 1 02")) (aCons (gC (.str "cut 10000 2")) (aCons (gC (.str "cut 1 10000")) (aCons (gC (.str "cut -1 2")) (aCons (gC (.str "cut +1 2")) aNil)))))))))))
  (sSeq (sSet 1 (g2 addD (gVar 1) (gLst (aCons (gC (.str "cut 1-2")) (aCons (gC (.str "cut a b")) (aCons (gC (.str "open")) (aCons (gC (.str "open 1")) (aCons (gC (.str "open 1 x")) (aCons (gC (.str "Open 1 2")) (aCons (gC (.str "opens 1 2")) (aCons (gC (.str "print")) (aCons (gC (.str "print ")) (aCons (gC (.str "print a b c")) aNil)))))))))))))
  (sSeq (sSet 1 (g2 addD (gVar 1) (gLst (aCons (gC (.str "print a+b")) (aCons (gC (.str "print A")) (aCons (gC (.str "print a1")) (aCons (gC (.str "print abcdefghi")) (aCons (gC (.str "printa")) (aCons (gC (.str "lend a  b")) (aCons (gC (.str "return a ")) (aCons (gC (.str "scrap a\n")) aNil)))))))))))
  (sSeq (sSet 1 (g2 addD (gVar 1) (gLst (aCons (gC (.str "cut 1 2\nseat")) (aCons (gC (.str "sell a")) aNil)))))
  (sRet (g2 ixD (gVar 1) (gVar 0))))))))
def f__law_near : List D → R D := runF 2 1 g__law_near
def g_law (fu : Nat) : GS := (sSeq (sSet 1 (gCall f__law_draws (aCons (gVar 0) (aCons (gC (.int 0)) (aCons (gC (.int 16)) (aCons (gC (.int 60)) aNil))))))
  (sSeq (sSet 2 (g2 modD (gCall (un intD) (aCons (g2 ixD (gVar 1) (gC (.int 0))) aNil)) (gC (.int 7))))
  (sSeq (sSet 3 (gCall f__law_text (aCons (gVar 0) (aCons (gVar 2) aNil))))
  (sSeq (sSet 4 (gCall f__law_due (aCons (gVar 3) aNil)))
  (sSeq (sIf (tOrG (gB (g2 neD (g2 ixD (gVar 4) (gC (.int 0))) (gC (.str "deed")))) (tOrG (tNotG (gB (gCall (f__law_same fu) (aCons (gCall f__law_told (aCons (gVar 3) aNil)) (aCons (gVar 4) aNil))))) (tNotG (gB (gCall (f__law_same fu) (aCons (gCall f_write_deed (aCons (g2 ixD (gVar 4) (gC (.int 1))) aNil)) (aCons (gVar 3) aNil)))))))
    (sRet (gC (.bl false)))
    sNil)
  (sSeq (sSet 5 (gC (.str "cutopenrisaldkz AZ09+-.:\n ")))
  (sSeq (sFor (iArg rng1D (aCons (gC (.int 3)) aNil)) (tgN 6)
    (sSeq (sSet 7 (g2 modD (gCall (un intD) (aCons (g2 ixD (gVar 1) (g2 addD (gC (.int 1)) (g2 mulD (gC (.int 3)) (gVar 6)))) aNil)) (g2 addD (gCall (un lenD) (aCons (gVar 3) aNil)) (gC (.int 1)))))
  (sSeq (sSet 8 (g2 ixD (gVar 5) (g2 modD (gCall (un intD) (aCons (g2 ixD (gVar 1) (g2 addD (gC (.int 2)) (g2 mulD (gC (.int 3)) (gVar 6)))) aNil)) (gCall (un lenD) (aCons (gVar 5) aNil)))))
  (sSeq (sSet 9 (g2 addD (g2 addD (gSl (gVar 3) pNone (pSome (gVar 7))) (g2 ixD (gLst (aCons (gC (.str "")) (aCons (gVar 8) (aCons (gVar 8) aNil)))) (g2 modD (gCall (un intD) (aCons (g2 ixD (gVar 1) (g2 addD (gC (.int 3)) (g2 mulD (gC (.int 3)) (gVar 6)))) aNil)) (gC (.int 3))))) (gSl (gVar 3) (pSome (g2 addD (gVar 7) (g2 ixD (gLst (aCons (gC (.int 1)) (aCons (gC (.int 0)) (aCons (gC (.int 1)) aNil)))) (g2 modD (gCall (un intD) (aCons (g2 ixD (gVar 1) (g2 addD (gC (.int 3)) (g2 mulD (gC (.int 3)) (gVar 6)))) aNil)) (gC (.int 3)))))) pNone)))
  (sSeq (sIf (tNotG (gB (gCall (f__law_same fu) (aCons (gCall f__law_told (aCons (gVar 9) aNil)) (aCons (gCall f__law_due (aCons (gVar 9) aNil)) aNil)))))
    (sRet (gC (.bl false)))
    sNil)
  (sIf (tAndG (gB (g2 eqD (g2 ixD (gCall f__law_due (aCons (gVar 9) aNil)) (gC (.int 0))) (gC (.str "deed")))) (tNotG (gB (gCall (f__law_same fu) (aCons (gCall f_write_deed (aCons (g2 ixD (gCall f__law_due (aCons (gVar 9) aNil)) (gC (.int 1))) aNil)) (aCons (gVar 9) aNil))))))
    (sRet (gC (.bl false)))
    sNil))))))
  (sSeq (sFor (iArg rng1D (aCons (gC (.int 40)) aNil)) (tgN 6)
    (sIf (tNotG (gB (gCall (f__law_same fu) (aCons (gCall f__law_told (aCons (gCall f__law_near (aCons (gVar 6) aNil)) aNil)) (aCons (DL.gTup (aCons (gC (.str "bad")) (aCons (gCall f__law_near (aCons (gVar 6) aNil)) aNil))) aNil)))))
    (sRet (gC (.bl false)))
    sNil))
  (sRet (gC (.bl true)))))))))))
def f_law (fu : Nat) : List D → R D := runF 10 1 (g_law fu)
section
variable {P : Program} {w : World} {K : PySem.W.Frag} {mg : Str → Option Value} {base : Heap} {C : Cid → Addr}
theorem fok_BadDeed : PySem.DX.FOk "text" "bad deed" := ⟨fun _ _ _ _ _ _ _ _ _ _ _ _ => rfl, fun _ _ _ _ _ _ _ _ _ => rfl, by decide⟩
theorem sc__law_draws : FnScope ["script", "place", "many", "base", "rest", "row", "k"] ["script", "place", "many", "base"] (defScope (top 24)) := ⟨rfl, rfl, rfl, by decide +kernel, rfl, by decide +kernel, by decide +kernel⟩
theorem ok__law_draws (D0 : Df K mg "_law_draws" (top 24) ["script", "place", "many", "base"]) (NB : ∀ x ∈ nbs, mg x = none) : Good P w K mg base C 1 "_law_draws" ["script", "place", "many", "base"] .fz f__law_draws := by
  refine good_of (ret := [.fz, .fz, .fz, .fz, .fz, .fz, .fz]) (ex := [.fz, .fz, .fz, .fz, .fz, .fz, .fz]) D0 sc__law_draws [.fz, .fz, .fz, .fz, .fz, .fz, .fz] (fz_all 7) (fun f cdv A outer s H E hr => ?_) (.inl rfl)
  have tk : Takes (cxOf (L2.CX P w) P w K mg base ["script", "place", "many", "base", "rest", "row", "k"] "_law_draws" (defScope (top 24)) f cdv A outer s H E) (fun c d _ H' => E c d H') := takes_of rfl rfl rfl rfl
  exact (s_cons [.fz, .fz, .fz, .fz, .fz, .fz, .fz] (s_set 4 .fz sc__law_draws.nd rfl (by first | exact Or.inl rfl | exact Or.inr rfl) (d_op op_mod v_mod (d_callTy call_intA c_int rfl (NB "int" (by decide)) rfl (d_acons (d_callB (cr_sum rfl) c_sum rfl (NB "sum" (by decide)) rfl (d_acons (d_slice (dv 0) o_none (o_some d_int)) d_anil)) d_anil)) d_int) .refl)
    (s_cons [.fz, .fz, .fz, .fz, .fz, .fz, .fz] (s_if (d_tcmp op_lt (v_cmp _) (dv 1) (d_callB call_len c_len rfl (NB "len" (by decide)) rfl (d_acons (dv 0) d_anil)) (by rfl)) .refl (s_one (s_set 4 .fz sc__law_draws.nd rfl (by first | exact Or.inl rfl | exact Or.inr rfl) (d_callB call_abs c_abs rfl (NB "abs" (by decide)) rfl (d_acons (d_callTy call_intA c_int rfl (NB "int" (by decide)) rfl (d_acons (d_ix (dv 0) (dv 1)) d_anil)) d_anil)) .refl)) (s_nil rfl))
    (s_cons [.fz, .fz, .fz, .fz, .fz, .lst .fz, .fz] (s_set 5 (.lst .fz) sc__law_draws.nd rfl (Or.inl rfl) (d_lst d_anil) .refl)
    (s_cons [.fz, .fz, .fz, .fz, .fz, .lst .fz, .fz] (s_if (d_tcmp op_ge (v_cmp _) (dv 4) (d_op op_pow v_pow d_int d_int) (by rfl)) (.same (.same (.same (.same (.same (.frz (.lst .fz) (.same .nil))))))) (s_cons [.fz, .fz, .fz, .fz, .fz, .lst .fz, .fz] (s_set 4 .fz sc__law_draws.nd rfl (by first | exact Or.inl rfl | exact Or.inr rfl) (d_op op_sub v_sub (dv 4) (d_op op_pow v_pow d_int d_int)) (.same (.same (.same (.same (.same (.frz (.lst .fz) (.same .nil))))))))
    (s_cons [.fz, .fz, .fz, .fz, .fz, .lst .fz, .fz] (s_for (passes_of rfl) rfl (i_rng1 rfl (NB "range" (by decide)) (d_acons (dv 2) d_anil)) (pg_name (i := 6) sc__law_draws.nd rfl (Or.inl rfl)) (tg_name 6) (s_cons [.fz, .fz, .fz, .fz, .fz, .lst .fz, .fz] (s_app 5 rfl (Or.inl rfl) rfl (d_op op_mod v_mod (d_callTy call_intA c_int rfl (NB "int" (by decide)) rfl (d_acons (dv 4) d_anil)) (dv 3)) (.same (.same (.same (.same (.same (.frz (.lst .fz) (.same .nil))))))))
    (s_one (s_set 4 .fz sc__law_draws.nd rfl (by first | exact Or.inl rfl | exact Or.inr rfl) (d_op op_fdiv v_fdiv (dv 4) (dv 3)) (.same (.same (.same (.same (.same (.frz (.lst .fz) (.same .nil)))))))))) (.same (.same (.same (.same (.same (.frz (.lst .fz) (.same .nil))))))))
    (s_one (s_wk (ows' := [.fz, .fz, .fz, .fz, .fz, .fz, .fz]) (.same (.same (.same (.same (.same (.frz (.lst .fz) (.same .nil))))))) (s_ret (dv 5) .refl .refl))))) (s_nil rfl))
    (s_cons [.fz, .fz, .fz, .fz, .fz, .lst .fz, .fz] (s_set 4 .fz sc__law_draws.nd rfl (by first | exact Or.inl rfl | exact Or.inr rfl) (d_op op_mod v_mod (d_callTy call_intA c_int rfl (NB "int" (by decide)) rfl (d_acons (d_op op_addA v_add (d_op op_addA v_add (dv 4) (d_op op_mul v_mul d_int (dv 1))) d_int) d_anil)) d_int) (.same (.same (.same (.same (.same (.frz (.lst .fz) (.same .nil))))))))
    (s_cons [.fz, .fz, .fz, .fz, .fz, .lst .fz, .fz] (s_for (passes_of rfl) rfl (i_rng1 rfl (NB "range" (by decide)) (d_acons (dv 2) d_anil)) (pg_name (i := 6) sc__law_draws.nd rfl (Or.inl rfl)) (tg_name 6) (s_cons [.fz, .fz, .fz, .fz, .fz, .lst .fz, .fz] (s_set 4 .fz sc__law_draws.nd rfl (by first | exact Or.inl rfl | exact Or.inr rfl) (d_op op_mod v_mod (d_callTy call_intA c_int rfl (NB "int" (by decide)) rfl (d_acons (d_op op_addA v_add (d_op op_mul v_mul (dv 4) d_int) d_int) d_anil)) d_int) (.same (.same (.same (.same (.same (.frz (.lst .fz) (.same .nil))))))))
    (s_one (s_app 5 rfl (Or.inl rfl) rfl (d_op op_mod v_mod (d_op op_fdiv v_fdiv (d_op op_mod v_mod (d_callTy call_intA c_int rfl (NB "int" (by decide)) rfl (d_acons (d_op op_mul v_mul (dv 4) (dv 4)) d_anil)) d_int) d_int) (dv 3)) (.same (.same (.same (.same (.same (.frz (.lst .fz) (.same .nil)))))))))) (.same (.same (.same (.same (.same (.frz (.lst .fz) (.same .nil))))))))
    (s_one (s_wk (ows' := [.fz, .fz, .fz, .fz, .fz, .fz, .fz]) (.same (.same (.same (.same (.same (.frz (.lst .fz) (.same .nil))))))) (s_ret (dv 5) .refl .refl)))))))))
theorem sc__law_name : FnScope ["row", "k"] ["row"] (defScope (top 29)) := ⟨rfl, rfl, rfl, by decide +kernel, rfl, by decide +kernel, by decide +kernel⟩
theorem ok__law_name (D0 : Df K mg "_law_name" (top 29) ["row"]) (NB : ∀ x ∈ nbs, mg x = none) : Good P w K mg base C 1 "_law_name" ["row"] .fz f__law_name := by
  refine good_of (ret := [.fz, .fz]) (ex := [.fz, .fz]) D0 sc__law_name [.fz, .fz] (fz_all 2) (fun f cdv A outer s H E hr => ?_) (.inl rfl)
  have tk : Takes (cxOf (L2.CX P w) P w K mg base ["row", "k"] "_law_name" (defScope (top 29)) f cdv A outer s H E) (fun c d _ H' => E c d H') := takes_of rfl rfl rfl rfl
  exact (s_one (s_ret (d_join d_str (d_frz (.lst .fz) (d_lc (W := _) rfl sc__law_name.nd (own := [("k", 1)]) (ownI := [1]) (BlkOk.mk (N := ["row", "k"]) (sc := defScope (top 29)) rfl (by decide +kernel) (by decide +kernel) (by decide +kernel) (by decide +kernel)) rfl (i_rng1 rfl (NB "range" (by decide)) (d_acons (d_op op_addA v_add d_int (d_op op_mod v_mod (d_callTy call_intA c_int rfl (NB "int" (by decide)) rfl (d_acons (d_ix (dv 0) d_int) d_anil)) d_int)) d_anil)) (tg_name 1) (tw_name (by decide)) (fun _ _ _ _ _ => pg_name (i := 1) sc__law_name.nd rfl (Or.inl rfl)) (fun _ _ _ _ _ => t_yes) (fun _ _ _ _ _ => (d_ix d_str (d_op op_mod v_mod (d_callTy call_intA c_int rfl (NB "int" (by decide)) rfl (d_acons (d_ix (dv 0) (d_op op_addA v_add d_int (dv 1))) d_anil)) d_int)))))) .refl .refl))
theorem sc__law_text : FnScope ["script", "kind", "row", "name"] ["script", "kind"] (defScope (top 30)) := ⟨rfl, rfl, rfl, by decide +kernel, rfl, by decide +kernel, by decide +kernel⟩
theorem ok__law_text (D0 : Df K mg "_law_text" (top 30) ["script", "kind"]) (NB : ∀ x ∈ nbs, mg x = none) (G__law_draws : Good P w K mg base C 1 "_law_draws" ["script", "place", "many", "base"] .fz f__law_draws) (G__law_name : Good P w K mg base C 1 "_law_name" ["row"] .fz f__law_name) : Good P w K mg base C 2 "_law_text" ["script", "kind"] .fz f__law_text := by
  refine good_of (ret := [.fz, .fz, .fz, .fz]) (ex := [.fz, .fz, .fz, .fz]) D0 sc__law_text [.fz, .fz, .fz, .fz] (fz_all 4) (fun f cdv A outer s H E hr => ?_) (.inl rfl)
  have tk : Takes (cxOf (L2.CX P w) P w K mg base ["script", "kind", "row", "name"] "_law_text" (defScope (top 30)) f cdv A outer s H E) (fun c d _ H' => E c d H') := takes_of rfl rfl rfl rfl
  exact (s_cons [.fz, .fz, .fz, .fz] (s_set 2 .fz sc__law_text.nd rfl (by first | exact Or.inl rfl | exact Or.inr rfl) (d_callG G__law_draws (hr.mono (by decide)) tk (d_acons (dv 0) (d_acons d_int (d_acons d_int (d_acons d_int d_anil))))) .refl)
    (s_cons [.fz, .fz, .fz, .fz] (s_if (d_tcmp op_lt (v_cmp _) (dv 1) d_int (by rfl)) .refl (s_one (s_ret (d_op op_addA v_add (d_op op_addA v_add (d_op op_addA v_add (d_ix (d_frz (.lst .fz) (d_lst (d_acons d_str (d_acons d_str d_anil)))) (dv 1)) (d_callTy call_str_int c_str rfl (NB "str" (by decide)) rfl (d_acons (d_op op_fdiv v_fdiv (d_ix (dv 2) d_int) (d_ix (d_frz (.lst .fz) (d_lst (d_acons d_int (d_acons d_int (d_acons d_int (d_acons d_int d_anil)))))) (d_op op_mod v_mod (d_callTy call_intA c_int rfl (NB "int" (by decide)) rfl (d_acons (d_ix (dv 2) d_int) d_anil)) d_int))) d_anil))) d_str) (d_callTy call_str_int c_str rfl (NB "str" (by decide)) rfl (d_acons (d_ix (dv 2) d_int) d_anil))) .refl .refl)) (s_nil rfl))
    (s_cons [.fz, .fz, .fz, .fz] (s_if (d_tcmp op_lt (v_cmp _) (dv 1) d_int (by rfl)) .refl (s_cons [.fz, .fz, .fz, .fz] (s_set 3 .fz sc__law_text.nd rfl (by first | exact Or.inl rfl | exact Or.inr rfl) (d_callG G__law_name (hr.mono (by decide)) tk (d_acons (d_slice (dv 2) (o_some d_int) o_none) d_anil)) .refl)
    (s_cons [.fz, .fz, .fz, .fz] (s_if (d_tcmp (op_eqA hr.units) v_eq (d_op op_mod v_mod (d_callTy call_intA c_int rfl (NB "int" (by decide)) rfl (d_acons (d_ix (dv 2) d_int) d_anil)) d_int) d_int (by rfl)) .refl (s_one (s_ret (d_op op_addA v_add (d_ix (d_frz (.lst .fz) (d_lst (d_acons d_str (d_acons d_str (d_acons d_str (d_acons d_str d_anil)))))) (d_op op_sub v_sub (dv 1) d_int)) (dv 3)) .refl .refl)) (s_nil rfl))
    (s_cons [.fz, .fz, .fz, .fz] (s_if (d_tcmp (op_eqA hr.units) v_eq (d_op op_mod v_mod (d_callTy call_intA c_int rfl (NB "int" (by decide)) rfl (d_acons (d_ix (dv 2) d_int) d_anil)) d_int) d_int (by rfl)) .refl (s_one (s_ret (d_op op_addA v_add (d_op op_addA v_add (d_op op_addA v_add (d_ix (d_frz (.lst .fz) (d_lst (d_acons d_str (d_acons d_str (d_acons d_str (d_acons d_str d_anil)))))) (d_op op_sub v_sub (dv 1) d_int)) (dv 3)) d_str) (dv 3)) .refl .refl)) (s_nil rfl))
    (s_one (s_ret (d_op op_addA v_add (d_op op_addA v_add (d_op op_addA v_add (d_ix (d_frz (.lst .fz) (d_lst (d_acons d_str (d_acons d_str (d_acons d_str (d_acons d_str d_anil)))))) (d_op op_sub v_sub (dv 1) d_int)) (dv 3)) d_str) (d_callG G__law_name (hr.mono (by decide)) tk (d_acons (d_slice (dv 2) (o_some d_int) o_none) d_anil))) .refl .refl))))) (s_nil rfl))
    (s_one (s_ret d_str .refl .refl)))))
theorem sc__law_number : FnScope ["word", "total", "sign"] ["word"] (defScope (top 25)) := ⟨rfl, rfl, rfl, by decide +kernel, rfl, by decide +kernel, by decide +kernel⟩
theorem ok__law_number (D0 : Df K mg "_law_number" (top 25) ["word"]) (NB : ∀ x ∈ nbs, mg x = none) : Good P w K mg base C 1 "_law_number" ["word"] .fz f__law_number := by
  refine good_of (ret := [.fz, .fz, .fz]) (ex := [.fz, .fz, .fz]) D0 sc__law_number [.fz, .fz, .fz] (fz_all 3) (fun f cdv A outer s H E hr => ?_) (.inl rfl)
  have tk : Takes (cxOf (L2.CX P w) P w K mg base ["word", "total", "sign"] "_law_number" (defScope (top 25)) f cdv A outer s H E) (fun c d _ H' => E c d H') := takes_of rfl rfl rfl rfl
  exact (s_cons [.fz, .fz, .fz] (s_if (PW.pt (d_or (d_tcmp op_lt (v_cmp _) (d_callB call_len c_len rfl (NB "len" (by decide)) rfl (d_acons (dv 0) d_anil)) d_int (by rfl)) (d_or (d_tcmp op_gt (v_cmp _) (d_callB call_len c_len rfl (NB "len" (by decide)) rfl (d_acons (dv 0) d_anil)) d_int (by rfl)) (d_or1 (PW.pt (d_and (d_tcmp op_gt (v_cmp _) (d_callB call_len c_len rfl (NB "len" (by decide)) rfl (d_acons (dv 0) d_anil)) d_int (by rfl)) (d_and1 (d_tcmp (op_eqA hr.units) v_eq (d_ix (dv 0) d_int) d_str (by rfl))))))))) .refl (s_one (s_ret (d_neg d_int) .refl .refl)) (s_nil rfl))
    (s_cons [.fz, .fz, .fz] (s_set 1 .fz sc__law_number.nd rfl (by first | exact Or.inl rfl | exact Or.inr rfl) d_int .refl)
    (s_cons [.fz, .fz, .fz] (s_for (passes_of rfl) rfl (i_seq (dv 0)) (pg_name (i := 2) sc__law_number.nd rfl (Or.inl rfl)) (tg_name 2) (s_cons [.fz, .fz, .fz] (s_if (d_tcmp op_inN v_notIn (dv 2) d_str (by rfl)) .refl (s_one (s_ret (d_neg d_int) .refl .refl)) (s_nil rfl))
    (s_one (s_set 1 .fz sc__law_number.nd rfl (by first | exact Or.inl rfl | exact Or.inr rfl) (d_op op_addA v_add (d_op op_mul v_mul d_int (dv 1)) (d_sidx rfl tk d_str (dv 2))) .refl))) .refl)
    (s_one (s_ret (dv 1) .refl .refl)))))
theorem sc__law_is_name : FnScope ["word", "sign"] ["word"] (defScope (top 26)) := ⟨rfl, rfl, rfl, by decide +kernel, rfl, by decide +kernel, by decide +kernel⟩
theorem ok__law_is_name (D0 : Df K mg "_law_is_name" (top 26) ["word"]) (NB : ∀ x ∈ nbs, mg x = none) : Good P w K mg base C 1 "_law_is_name" ["word"] .fz f__law_is_name := by
  refine good_of (ret := [.fz, .fz]) (ex := [.fz, .fz]) D0 sc__law_is_name [.fz, .fz] (fz_all 2) (fun f cdv A outer s H E hr => ?_) (.inl rfl)
  have tk : Takes (cxOf (L2.CX P w) P w K mg base ["word", "sign"] "_law_is_name" (defScope (top 26)) f cdv A outer s H E) (fun c d _ H' => E c d H') := takes_of rfl rfl rfl rfl
  exact (s_cons [.fz, .fz] (s_for (passes_of rfl) rfl (i_seq (dv 0)) (pg_name (i := 1) sc__law_is_name.nd rfl (Or.inl rfl)) (tg_name 1) (s_one (s_if (d_tcmp op_inN v_notIn (dv 1) d_str (by rfl)) .refl (s_one (s_ret d_bl .refl .refl)) (s_nil rfl))) .refl)
    (s_one (s_ret (d_chain op_lt op_lt (v_cmp _) (v_cmp _) d_int (d_callB call_len c_len rfl (NB "len" (by decide)) rfl (d_acons (dv 0) d_anil)) d_int) .refl .refl)))
theorem sc__law_due : FnScope ["text", "words", "word"] ["text"] (defScope (top 27)) := ⟨rfl, rfl, rfl, by decide +kernel, rfl, by decide +kernel, by decide +kernel⟩
theorem ok__law_due (D0 : Df K mg "_law_due" (top 27) ["text"]) (NB : ∀ x ∈ nbs, mg x = none) (G__law_number : Good P w K mg base C 1 "_law_number" ["word"] .fz f__law_number) (G__law_is_name : Good P w K mg base C 1 "_law_is_name" ["word"] .fz f__law_is_name) : Good P w K mg base C 2 "_law_due" ["text"] .fz f__law_due := by
  refine good_of (ret := [.fz, .fz, .fz]) (ex := [.fz, .fz, .fz]) D0 sc__law_due [.fz, .fz, .fz] (fz_all 3) (fun f cdv A outer s H E hr => ?_) (.inl rfl)
  have tk : Takes (cxOf (L2.CX P w) P w K mg base ["text", "words", "word"] "_law_due" (defScope (top 27)) f cdv A outer s H E) (fun c d _ H' => E c d H') := takes_of rfl rfl rfl rfl
  exact (s_cons [.fz, .fz, .fz] (s_set 1 .fz sc__law_due.nd rfl (by first | exact Or.inl rfl | exact Or.inr rfl) (d_frz (.lst .fz) (d_split (dv 0) d_str)) .refl)
    (s_cons [.fz, .fz, .fz] (s_if (d_tcmp (op_eqA hr.units) v_eq (dv 1) (d_frz (.lst .fz) (d_lst (d_acons d_str d_anil))) (by rfl)) .refl (s_one (s_ret (d_tup (d_acons d_str (d_acons (d_tup (d_acons d_str d_anil)) d_anil))) .refl .refl)) (s_nil rfl))
    (s_cons [.fz, .fz, .fz] (s_if (PW.pt (d_and (d_tcmp op_inA v_in (d_ix (dv 1) d_int) (d_frz (.lst .fz) (d_lst (d_acons d_str (d_acons d_str d_anil)))) (by rfl)) (d_and1 (d_tcmp (op_eqA hr.units) v_eq (d_callB call_len c_len rfl (NB "len" (by decide)) rfl (d_acons (dv 1) d_anil)) d_int (by rfl))))) .refl (s_one (s_if (PW.pt (d_and (d_tcmp op_ge (v_cmp _) (d_callG G__law_number (hr.mono (by decide)) tk (d_acons (d_ix (dv 1) d_int) d_anil)) d_int (by rfl)) (d_and1 (d_tcmp op_ge (v_cmp _) (d_callG G__law_number (hr.mono (by decide)) tk (d_acons (d_ix (dv 1) d_int) d_anil)) d_int (by rfl))))) .refl (s_one (s_ret (d_tup (d_acons d_str (d_acons (d_tup (d_acons (d_ix (dv 1) d_int) (d_acons (d_callG G__law_number (hr.mono (by decide)) tk (d_acons (d_ix (dv 1) d_int) d_anil)) (d_acons (d_callG G__law_number (hr.mono (by decide)) tk (d_acons (d_ix (dv 1) d_int) d_anil)) d_anil)))) d_anil))) .refl .refl)) (s_nil rfl))) (s_nil rfl))
    (s_cons [.fz, .fz, .fz] (s_if (PW.pt (d_and (d_tcmp op_inA v_in (d_ix (dv 1) d_int) (d_frz (.lst .fz) (d_lst (d_acons d_str (d_acons d_str (d_acons d_str (d_acons d_str d_anil)))))) (by rfl)) (d_and1 (d_tcmp op_inA v_in (d_callB call_len c_len rfl (NB "len" (by decide)) rfl (d_acons (dv 1) d_anil)) (d_frz (.lst .fz) (d_lst (d_acons d_int (d_acons d_int d_anil)))) (by rfl))))) .refl (s_one (s_if (d_tcmp (op_eqA hr.units) v_eq (d_callB call_len c_len rfl (NB "len" (by decide)) rfl (d_acons (d_frz (.lst .fz) (d_lc (W := _) rfl sc__law_due.nd (own := [("word", 2)]) (ownI := [2]) (BlkOk.mk (N := ["text", "words", "word"]) (sc := defScope (top 27)) rfl (by decide +kernel) (by decide +kernel) (by decide +kernel) (by decide +kernel)) rfl (i_seq (d_slice (dv 1) (o_some d_int) o_none)) (tg_name 2) (tw_name (by decide)) (fun _ _ _ _ _ => pg_name (i := 2) sc__law_due.nd rfl (Or.inl rfl)) (fun _ _ _ _ _ => (t_one (d_not (d_tval (d_callG G__law_is_name (hr.mono (by decide)) takesF (d_acons (dv 2) d_anil)))))) (fun _ _ _ _ _ => (dv 2)))) d_anil)) d_int (by rfl)) .refl (s_one (s_ret (d_tup (d_acons d_str (d_acons (d_tup (d_acons (d_ix (dv 1) d_int) (d_acons (d_callTy call_tuple_of c_tuple rfl (NB "tuple" (by decide)) rfl (d_acons (d_slice (dv 1) (o_some d_int) o_none) d_anil)) d_anil))) d_anil))) .refl .refl)) (s_nil rfl))) (s_nil rfl))
    (s_one (s_ret (d_tup (d_acons d_str (d_acons (dv 0) d_anil))) .refl .refl))))))
theorem sc__law_same : FnScope ["told", "due", "k"] ["told", "due"] (defScope (top 23)) := ⟨rfl, rfl, rfl, by decide +kernel, rfl, by decide +kernel, by decide +kernel⟩
theorem ok__law_same (D0 : Df K mg "_law_same" (top 23) ["told", "due"]) (NB : ∀ x ∈ nbs, mg x = none) : ∀ fu, Good P w K mg base C (fu + 1) "_law_same" ["told", "due"] .fz (f__law_same fu)
  | 0 => good_bad D0 sc__law_same
  | fu + 1 => by
    have G_rec := ok__law_same D0 NB fu
    refine good_of (ret := [.fz, .fz, .fz]) (ex := [.fz, .fz, .fz]) D0 sc__law_same [.fz, .fz, .fz] (fz_all 3) (fun f cdv A outer s H E hr => ?_) (.inl rfl)
    have tk : Takes (cxOf (L2.CX P w) P w K mg base ["told", "due", "k"] "_law_same" (defScope (top 23)) f cdv A outer s H E) (fun c d _ H' => E c d H') := takes_of rfl rfl rfl rfl
    exact (s_cons [.fz, .fz, .fz] (s_if (d_tval (d_callB call_isiA c_isi rfl (NB "isinstance" (by decide)) rfl (d_acons (dv 1) (d_acons (d_tup (d_acons (d_ty (NB "tuple" (by decide))) (d_acons (d_ty (NB "list" (by decide))) d_anil))) d_anil)))) .refl (s_cons [.fz, .fz, .fz] (s_if (PW.pt (d_or (d_tcmp (op_neA hr.units) v_ne (d_callB call_isiA c_isi rfl (NB "isinstance" (by decide)) rfl (d_acons (dv 1) (d_acons (d_ty (NB "tuple" (by decide))) d_anil))) (d_callB call_isiA c_isi rfl (NB "isinstance" (by decide)) rfl (d_acons (dv 0) (d_acons (d_ty (NB "tuple" (by decide))) d_anil))) (by rfl)) (d_or1 (d_tcmp (op_neA hr.units) v_ne (d_callB call_isiA c_isi rfl (NB "isinstance" (by decide)) rfl (d_acons (dv 1) (d_acons (d_ty (NB "list" (by decide))) d_anil))) (d_callB call_isiA c_isi rfl (NB "isinstance" (by decide)) rfl (d_acons (dv 0) (d_acons (d_ty (NB "list" (by decide))) d_anil))) (by rfl))))) .refl (s_one (s_ret d_bl .refl .refl)) (s_nil rfl))
      (s_cons [.fz, .fz, .fz] (s_if (d_tcmp (op_neA hr.units) v_ne (d_callB call_len c_len rfl (NB "len" (by decide)) rfl (d_acons (dv 0) d_anil)) (d_callB call_len c_len rfl (NB "len" (by decide)) rfl (d_acons (dv 1) d_anil)) (by rfl)) .refl (s_one (s_ret d_bl .refl .refl)) (s_nil rfl))
      (s_cons [.fz, .fz, .fz] (s_for (passes_of rfl) rfl (i_rng1 rfl (NB "range" (by decide)) (d_acons (d_callB call_len c_len rfl (NB "len" (by decide)) rfl (d_acons (dv 1) d_anil)) d_anil)) (pg_name (i := 2) sc__law_same.nd rfl (Or.inl rfl)) (tg_name 2) (s_one (s_if (d_not (d_tval (d_callG G_rec (hr.mono (by omega)) tk (d_acons (d_ix (dv 0) (dv 2)) (d_acons (d_ix (dv 1) (dv 2)) d_anil))))) .refl (s_one (s_ret d_bl .refl .refl)) (s_nil rfl))) .refl)
      (s_one (s_ret d_bl .refl .refl))))) (s_nil rfl))
      (s_cons [.fz, .fz, .fz] (s_if (d_tcmp op_isN v_isN (dv 1) d_non (by rfl)) .refl (s_one (s_ret (d_cmp op_isN v_isN (dv 0) d_non (by rfl)) .refl .refl)) (s_nil rfl))
      (s_cons [.fz, .fz, .fz] (s_if (d_tval (d_callB call_isiA c_isi rfl (NB "isinstance" (by decide)) rfl (d_acons (dv 1) (d_acons (d_ty (NB "bool" (by decide))) d_anil)))) .refl (s_one (s_ret (d_vand (d_callB call_isiA c_isi rfl (NB "isinstance" (by decide)) rfl (d_acons (dv 0) (d_acons (d_ty (NB "bool" (by decide))) d_anil))) (d_vone (d_cmp (op_eqA hr.units) v_eq (dv 0) (dv 1) (by rfl)))) .refl .refl)) (s_nil rfl))
      (s_cons [.fz, .fz, .fz] (s_if (d_tval (d_callB call_isiA c_isi rfl (NB "isinstance" (by decide)) rfl (d_acons (dv 1) (d_acons (d_ty (NB "int" (by decide))) d_anil)))) .refl (s_one (s_ret (d_vand (d_callB call_isiA c_isi rfl (NB "isinstance" (by decide)) rfl (d_acons (dv 0) (d_acons (d_ty (NB "int" (by decide))) d_anil))) (d_vand (d_vnot (d_callB call_isiA c_isi rfl (NB "isinstance" (by decide)) rfl (d_acons (dv 0) (d_acons (d_ty (NB "bool" (by decide))) d_anil)))) (d_vone (d_cmp (op_eqA hr.units) v_eq (dv 0) (dv 1) (by rfl))))) .refl .refl)) (s_nil rfl))
      (s_one (s_ret (d_vand (d_callB call_isiA c_isi rfl (NB "isinstance" (by decide)) rfl (d_acons (dv 0) (d_acons (d_ty (NB "str" (by decide))) d_anil))) (d_vone (d_cmp (op_eqA hr.units) v_eq (dv 0) (dv 1) (by rfl)))) .refl .refl))))))
theorem sc_only : FnScope ["word", "allowed", "char"] ["word", "allowed"] (defScope (top 11)) := ⟨rfl, rfl, rfl, by decide +kernel, rfl, by decide +kernel, by decide +kernel⟩
theorem ok_only (D0 : Df K mg "only" (top 11) ["word", "allowed"]) (NB : ∀ x ∈ nbs, mg x = none) : Good P w K mg base C 1 "only" ["word", "allowed"] .fz f_only := by
  refine good_of (ret := [.fz, .fz, .fz]) (ex := [.fz, .fz, .fz]) D0 sc_only [.fz, .fz, .fz] (fz_all 3) (fun f cdv A outer s H E hr => ?_) (.inl rfl)
  have tk : Takes (cxOf (L2.CX P w) P w K mg base ["word", "allowed", "char"] "only" (defScope (top 11)) f cdv A outer s H E) (fun c d _ H' => E c d H') := takes_of rfl rfl rfl rfl
  exact (s_cons [.fz, .fz, .fz] (s_for (passes_of rfl) rfl (i_seq (dv 0)) (pg_name (i := 2) sc_only.nd rfl (Or.inl rfl)) (tg_name 2) (s_one (s_if (d_tcmp op_inN v_notIn (dv 2) (dv 1) (by rfl)) .refl (s_one (s_ret d_bl .refl .refl)) (s_nil rfl))) .refl)
    (s_one (s_ret d_bl .refl .refl)))
theorem sc_read_number : FnScope ["word"] ["word"] (defScope (top 13)) := ⟨rfl, rfl, rfl, by decide +kernel, rfl, by decide +kernel, by decide +kernel⟩
theorem ok_read_number (D0 : Df K mg "read_number" (top 13) ["word"]) (NB : ∀ x ∈ nbs, mg x = none) (c_LONGEST_NUMBER : Gc K mg C "LONGEST_NUMBER" (.int 4)) (c_DIGITS : Gc K mg C "DIGITS" (.str "0123456789")) (G_only : Good P w K mg base C 1 "only" ["word", "allowed"] .fz f_only) : Good P w K mg base C 2 "read_number" ["word"] .fz f_read_number := by
  refine good_of (ret := [.fz]) (ex := [.fz]) D0 sc_read_number [.fz] (fz_all 1) (fun f cdv A outer s H E hr => ?_) (.inl rfl)
  have tk : Takes (cxOf (L2.CX P w) P w K mg base ["word"] "read_number" (defScope (top 13)) f cdv A outer s H E) (fun c d _ H' => E c d H') := takes_of rfl rfl rfl rfl
  exact (s_cons [.fz] (s_if (PW.pt (d_or (d_tcmp op_lt (v_cmp _) (d_callB call_len c_len rfl (NB "len" (by decide)) rfl (d_acons (dv 0) d_anil)) d_int (by rfl)) (d_or1 (d_tcmp op_gt (v_cmp _) (d_callB call_len c_len rfl (NB "len" (by decide)) rfl (d_acons (dv 0) d_anil)) (d_gc c_LONGEST_NUMBER) (by rfl))))) .refl (s_one (s_ret (d_neg d_int) .refl .refl)) (s_nil rfl))
    (s_cons [.fz] (s_if (d_not (d_tval (d_callG G_only (hr.mono (by decide)) tk (d_acons (dv 0) (d_acons (d_gc c_DIGITS) d_anil))))) .refl (s_one (s_ret (d_neg d_int) .refl .refl)) (s_nil rfl))
    (s_cons [.fz] (s_if (PW.pt (d_and (d_tcmp (op_eqA hr.units) v_eq (d_ix (dv 0) d_int) d_str (by rfl)) (d_and1 (d_tcmp op_gt (v_cmp _) (d_callB call_len c_len rfl (NB "len" (by decide)) rfl (d_acons (dv 0) d_anil)) d_int (by rfl))))) .refl (s_one (s_ret (d_neg d_int) .refl .refl)) (s_nil rfl))
    (s_one (s_ret (d_callTy call_intA c_int rfl (NB "int" (by decide)) rfl (d_acons (dv 0) d_anil)) .refl .refl)))))
theorem sc_read_numbers : FnScope ["words", "numbers", "word", "number"] ["words"] (defScope (top 14)) := ⟨rfl, rfl, rfl, by decide +kernel, rfl, by decide +kernel, by decide +kernel⟩
theorem ok_read_numbers (D0 : Df K mg "read_numbers" (top 14) ["words"]) (NB : ∀ x ∈ nbs, mg x = none) (G_read_number : Good P w K mg base C 2 "read_number" ["word"] .fz f_read_number) : Good P w K mg base C 3 "read_numbers" ["words"] .fz f_read_numbers := by
  refine good_of (ret := [.fz, .fz, .fz, .fz]) (ex := [.fz, .fz, .fz, .fz]) D0 sc_read_numbers [.fz, .fz, .fz, .fz] (fz_all 4) (fun f cdv A outer s H E hr => ?_) (.inl rfl)
  have tk : Takes (cxOf (L2.CX P w) P w K mg base ["words", "numbers", "word", "number"] "read_numbers" (defScope (top 14)) f cdv A outer s H E) (fun c d _ H' => E c d H') := takes_of rfl rfl rfl rfl
  exact (s_cons [.fz, .lst .fz, .fz, .fz] (s_set 1 (.lst .fz) sc_read_numbers.nd rfl (Or.inl rfl) (d_lst d_anil) .refl)
    (s_cons [.fz, .lst .fz, .fz, .fz] (s_for (passes_of rfl) rfl (i_seq (dv 0)) (pg_name (i := 2) sc_read_numbers.nd rfl (Or.inl rfl)) (tg_name 2) (s_cons [.fz, .lst .fz, .fz, .fz] (s_set 3 .fz sc_read_numbers.nd rfl (by first | exact Or.inl rfl | exact Or.inr rfl) (d_callG G_read_number (hr.mono (by decide)) tk (d_acons (dv 2) d_anil)) (.same (.frz (.lst .fz) (.same (.same .nil)))))
    (s_cons [.fz, .lst .fz, .fz, .fz] (s_if (d_tcmp op_lt (v_cmp _) (dv 3) d_int (by rfl)) (.same (.frz (.lst .fz) (.same (.same .nil)))) (s_one (s_ret d_non (.same (.frz (.lst .fz) (.same (.same .nil)))) (.same (.frz (.lst .fz) (.same (.same .nil)))))) (s_nil rfl))
    (s_one (s_app 1 rfl (Or.inl rfl) rfl (dv 3) (.same (.frz (.lst .fz) (.same (.same .nil)))))))) (.same (.frz (.lst .fz) (.same (.same .nil)))))
    (s_one (s_wk (ows' := [.fz, .fz, .fz, .fz]) (.same (.frz (.lst .fz) (.same (.same .nil)))) (s_ret (dv 1) .refl .refl)))))
theorem sc_is_name : FnScope ["word"] ["word"] (defScope (top 12)) := ⟨rfl, rfl, rfl, by decide +kernel, rfl, by decide +kernel, by decide +kernel⟩
theorem ok_is_name (D0 : Df K mg "is_name" (top 12) ["word"]) (NB : ∀ x ∈ nbs, mg x = none) (c_LONGEST_NAME : Gc K mg C "LONGEST_NAME" (.int 8)) (c_LETTERS : Gc K mg C "LETTERS" (.str "abcdefghijklmnopqrstuvwxyz")) (G_only : Good P w K mg base C 1 "only" ["word", "allowed"] .fz f_only) : Good P w K mg base C 2 "is_name" ["word"] .fz f_is_name := by
  refine good_of (ret := [.fz]) (ex := [.fz]) D0 sc_is_name [.fz] (fz_all 1) (fun f cdv A outer s H E hr => ?_) (.inl rfl)
  have tk : Takes (cxOf (L2.CX P w) P w K mg base ["word"] "is_name" (defScope (top 12)) f cdv A outer s H E) (fun c d _ H' => E c d H') := takes_of rfl rfl rfl rfl
  exact (s_cons [.fz] (s_if (PW.pt (d_or (d_tcmp op_lt (v_cmp _) (d_callB call_len c_len rfl (NB "len" (by decide)) rfl (d_acons (dv 0) d_anil)) d_int (by rfl)) (d_or1 (d_tcmp op_gt (v_cmp _) (d_callB call_len c_len rfl (NB "len" (by decide)) rfl (d_acons (dv 0) d_anil)) (d_gc c_LONGEST_NAME) (by rfl))))) .refl (s_one (s_ret d_bl .refl .refl)) (s_nil rfl))
    (s_one (s_ret (d_callG G_only (hr.mono (by decide)) tk (d_acons (dv 0) (d_acons (d_gc c_LETTERS) d_anil))) .refl .refl)))
theorem sc_read_names : FnScope ["words", "word"] ["words"] (defScope (top 18)) := ⟨rfl, rfl, rfl, by decide +kernel, rfl, by decide +kernel, by decide +kernel⟩
theorem ok_read_names (D0 : Df K mg "read_names" (top 18) ["words"]) (NB : ∀ x ∈ nbs, mg x = none) (G_is_name : Good P w K mg base C 2 "is_name" ["word"] .fz f_is_name) : Good P w K mg base C 3 "read_names" ["words"] .fz f_read_names := by
  refine good_of (ret := [.fz, .fz]) (ex := [.fz, .fz]) D0 sc_read_names [.fz, .fz] (fz_all 2) (fun f cdv A outer s H E hr => ?_) (.inl rfl)
  have tk : Takes (cxOf (L2.CX P w) P w K mg base ["words", "word"] "read_names" (defScope (top 18)) f cdv A outer s H E) (fun c d _ H' => E c d H') := takes_of rfl rfl rfl rfl
  exact (s_cons [.fz, .fz] (s_if (PW.pt (d_or (d_tcmp op_lt (v_cmp _) (d_callB call_len c_len rfl (NB "len" (by decide)) rfl (d_acons (dv 0) d_anil)) d_int (by rfl)) (d_or1 (d_tcmp op_gt (v_cmp _) (d_callB call_len c_len rfl (NB "len" (by decide)) rfl (d_acons (dv 0) d_anil)) d_int (by rfl))))) .refl (s_one (s_ret d_non .refl .refl)) (s_nil rfl))
    (s_cons [.fz, .fz] (s_for (passes_of rfl) rfl (i_seq (dv 0)) (pg_name (i := 1) sc_read_names.nd rfl (Or.inl rfl)) (tg_name 1) (s_one (s_if (d_not (d_tval (d_callG G_is_name (hr.mono (by decide)) tk (d_acons (dv 1) d_anil)))) .refl (s_one (s_ret d_non .refl .refl)) (s_nil rfl))) .refl)
    (s_one (s_ret (d_callTy call_tuple_of c_tuple rfl (NB "tuple" (by decide)) rfl (d_acons (dv 0) d_anil)) .refl .refl))))
theorem sc_read_form : FnScope ["words", "key", "numbers", "names"] ["words"] (defScope (top 19)) := ⟨rfl, rfl, rfl, by decide +kernel, rfl, by decide +kernel, by decide +kernel⟩
theorem ok_read_form (D0 : Df K mg "read_form" (top 19) ["words"]) (NB : ∀ x ∈ nbs, mg x = none) (c_CUT_WORDS : Gc K mg C "CUT_WORDS" (.tup [(.str "cut"), (.str "open")])) (c_BOOK_WORDS : Gc K mg C "BOOK_WORDS" (.tup [(.str "print"), (.str "scrap"), (.str "lend"), (.str "return")])) (G_read_numbers : Good P w K mg base C 3 "read_numbers" ["words"] .fz f_read_numbers) (G_read_names : Good P w K mg base C 3 "read_names" ["words"] .fz f_read_names) : Good P w K mg base C 4 "read_form" ["words"] .fz f_read_form := by
  refine good_of (ret := [.fz, .fz, .fz, .fz]) (ex := [.fz, .fz, .fz, .fz]) D0 sc_read_form [.fz, .fz, .fz, .fz] (fz_all 4) (fun f cdv A outer s H E hr => ?_) (.inl rfl)
  have tk : Takes (cxOf (L2.CX P w) P w K mg base ["words", "key", "numbers", "names"] "read_form" (defScope (top 19)) f cdv A outer s H E) (fun c d _ H' => E c d H') := takes_of rfl rfl rfl rfl
  exact (s_cons [.fz, .fz, .fz, .fz] (s_set 1 .fz sc_read_form.nd rfl (by first | exact Or.inl rfl | exact Or.inr rfl) (d_ix (dv 0) d_int) .refl)
    (s_cons [.fz, .fz, .fz, .fz] (s_if (PW.pt (d_and (d_tcmp (op_eqA hr.units) v_eq (dv 1) d_str (by rfl)) (d_and1 (d_tcmp (op_eqA hr.units) v_eq (d_callB call_len c_len rfl (NB "len" (by decide)) rfl (d_acons (dv 0) d_anil)) d_int (by rfl))))) .refl (s_one (s_ret (d_tup (d_acons d_str d_anil)) .refl .refl)) (s_nil rfl))
    (s_cons [.fz, .fz, .fz, .fz] (s_if (PW.pt (d_and (d_tcmp op_inA v_in (dv 1) (d_gc c_CUT_WORDS) (by rfl)) (d_and1 (d_tcmp (op_eqA hr.units) v_eq (d_callB call_len c_len rfl (NB "len" (by decide)) rfl (d_acons (dv 0) d_anil)) d_int (by rfl))))) .refl (s_cons [.fz, .fz, .fz, .fz] (s_set 2 .fz sc_read_form.nd rfl (by first | exact Or.inl rfl | exact Or.inr rfl) (d_callG G_read_numbers (hr.mono (by decide)) tk (d_acons (d_slice (dv 0) (o_some d_int) o_none) d_anil)) .refl)
    (s_cons [.fz, .fz, .fz, .fz] (s_if (d_tcmp op_isN v_isN (dv 2) d_non (by rfl)) .refl (s_one (s_ret d_non .refl .refl)) (s_nil rfl))
    (s_one (s_ret (d_tup (d_acons (dv 1) (d_acons (d_ix (dv 2) d_int) (d_acons (d_ix (dv 2) d_int) d_anil)))) .refl .refl)))) (s_nil rfl))
    (s_cons [.fz, .fz, .fz, .fz] (s_if (d_tcmp op_inA v_in (dv 1) (d_gc c_BOOK_WORDS) (by rfl)) .refl (s_cons [.fz, .fz, .fz, .fz] (s_set 3 .fz sc_read_form.nd rfl (by first | exact Or.inl rfl | exact Or.inr rfl) (d_callG G_read_names (hr.mono (by decide)) tk (d_acons (d_slice (dv 0) (o_some d_int) o_none) d_anil)) .refl)
    (s_cons [.fz, .fz, .fz, .fz] (s_if (d_tcmp op_isN v_isN (dv 3) d_non (by rfl)) .refl (s_one (s_ret d_non .refl .refl)) (s_nil rfl))
    (s_one (s_ret (d_tup (d_acons (dv 1) (d_acons (dv 3) d_anil))) .refl .refl)))) (s_nil rfl))
    (s_one (s_ret d_non .refl .refl))))))
theorem sc_read_deed : FnScope ["text", "deed"] ["text"] (defScope (top 20)) := ⟨rfl, rfl, rfl, by decide +kernel, rfl, by decide +kernel, by decide +kernel⟩
theorem ok_read_deed (D0 : Df K mg "read_deed" (top 20) ["text"]) (NB : ∀ x ∈ nbs, mg x = none) (htop : (P.main.scope.names.lookup ("super" : Str)).isSome = false) {fI_0 cc_0 cda_0 : Addr} (hE_0 : PySem.DX.ETxt P.main.file K (C 3) fI_0 cc_0 cda_0 "text" "bad deed") (g_BadDeed : mg "BadDeed" = some (.ref (C 3))) (G_read_form : Good P w K mg base C 4 "read_form" ["words"] .fz f_read_form) : Good P w K mg base C 5 "read_deed" ["text"] .fz f_read_deed := by
  refine good_of (ret := [.fz, .fz]) (ex := [.fz, .fz]) D0 sc_read_deed [.fz, .fz] (fz_all 2) (fun f cdv A outer s H E hr => ?_) (.inl rfl)
  have tk : Takes (cxOf (L2.CX P w) P w K mg base ["text", "deed"] "read_deed" (defScope (top 20)) f cdv A outer s H E) (fun c d _ H' => E c d H') := takes_of rfl rfl rfl rfl
  exact (s_cons [.fz, .fz] (s_set 1 .fz sc_read_deed.nd rfl (by first | exact Or.inl rfl | exact Or.inr rfl) (d_callG G_read_form (hr.mono (by decide)) tk (d_acons (d_frz (.lst .fz) (d_split (dv 0) d_str)) d_anil)) .refl)
    (s_cons [.fz, .fz] (s_if (d_tcmp op_isN v_isN (dv 1) d_non (by rfl)) .refl (s_one (s_raise rfl hE_0 fok_BadDeed g_BadDeed (NB "super" (by decide)) htop (hr.mono (by decide)) (Nat.le_refl 1) tk (dv 0) .refl rfl)) (s_nil rfl))
    (s_one (s_ret (dv 1) .refl .refl))))
theorem sc__law_told : FnScope ["text", "e"] ["text"] (defScope (top 28)) := ⟨rfl, rfl, rfl, by decide +kernel, rfl, by decide +kernel, by decide +kernel⟩
theorem ok__law_told (D0 : Df K mg "_law_told" (top 28) ["text"]) (NB : ∀ x ∈ nbs, mg x = none) (hE_0 : ∀ c b, tb__law_told_0 c = some b → PySem.W.exmOne K (.ref (C c)) (.ref (C 0)) = some b) (hE_1 : ∀ c b, tb__law_told_1 c = some b → XcC K (C c) ∧ PySem.W.kitAny K (.ref (C c)) [.ref (C 2), .ref (C 1), .ref (C 4)] = some b) (hE_2 : ∀ c b, tb__law_told_2 c = some b → XcC K (C c) ∧ PySem.W.kitOne K (.ref (C c)) (.type "ValueError") = some b) (hE_3 : ∀ c b, tb__law_told_3 c = some b → XcC K (C c) ∧ PySem.W.kitOne K (.ref (C c)) (.ref (C 3)) = some b) (hE_4 : ∀ c, okX__law_told_4 c = true → XcC K (C c) ∧ PySem.W.findIn K (.ref (C c)) "text" = some none) (g_BandError : mg "BandError" = some (.ref (C 0))) (g_BadText : mg "BadText" = some (.ref (C 2))) (g_BadNumber : mg "BadNumber" = some (.ref (C 1))) (g_NoSuchPlayer : mg "NoSuchPlayer" = some (.ref (C 4))) (g_BadDeed : mg "BadDeed" = some (.ref (C 3))) (G_read_deed : Good P w K mg base C 5 "read_deed" ["text"] .fz f_read_deed) : Good P w K mg base C 6 "_law_told" ["text"] .fz f__law_told := by
  refine good_of (ret := [.fz, .fz]) (ex := [.fz, .fz]) D0 sc__law_told [.fz, .fz] (fz_all 2) (fun f cdv A outer s H E hr => ?_) (.inl rfl)
  have tk : Takes (cxOf (L2.CX P w) P w K mg base ["text", "e"] "_law_told" (defScope (top 28)) f cdv A outer s H E) (fun c d _ H' => E c d H') := takes_of rfl rfl rfl rfl
  exact (s_cons [.fz, .fz] (s_try (i := 1) (cv := .ref (C 0)) rfl rfl sc__law_told.nd rfl rfl ⟨rfl, rfl, .inl g_BandError⟩ tk hE_0 [.fz, .fz] rfl (fun _ => rfl) (fun W pn xe tk => (s_one (s_ret (d_tup (d_acons d_str (d_acons (d_callG G_read_deed (hr.mono (by decide)) tk (d_acons (dv 0) d_anil)) d_anil))) .refl .refl))) (fun a oe cls d pn hz hf => (s_one (s_if (PW.pt (d_and (d_tval (d_isX (v := .ref (C 3)) hz hf rfl rfl (.inl rfl) rfl (NB "isinstance" (by decide)) rfl g_BadDeed rfl rfl hE_3)) (d_and (d_tval (d_isXb hz hf rfl rfl (.inl rfl) rfl (NB "isinstance" (by decide)) rfl (NB "ValueError" (by decide)) rfl hE_2)) (d_and1 (d_not (d_tval (d_isXt hz hf rfl rfl (.inl rfl) rfl (NB "isinstance" (by decide)) (pa_vglob (v := .ref (C 2)) rfl g_BadText rfl (pa_vglob (v := .ref (C 1)) rfl g_BadNumber rfl (pa_vglob (v := .ref (C 4)) rfl g_NoSuchPlayer rfl pa_vnil))) (Nat.le_of_ble_eq_true rfl) rfl hE_1))))))) .refl (s_one (s_ret (d_tup (d_acons d_str (d_acons (d_xf hz hf rfl rfl (.inl rfl) (hE_4)) d_anil))) .refl .refl)) (s_nil rfl)))))
    (s_one (s_ret (d_tup (d_acons d_str d_anil)) .refl .refl)))
theorem sc_write_deed : FnScope ["deed", "key"] ["deed"] (defScope (top 21)) := ⟨rfl, rfl, rfl, by decide +kernel, rfl, by decide +kernel, by decide +kernel⟩
theorem ok_write_deed (D0 : Df K mg "write_deed" (top 21) ["deed"]) (NB : ∀ x ∈ nbs, mg x = none) (c_CUT_WORDS : Gc K mg C "CUT_WORDS" (.tup [(.str "cut"), (.str "open")])) (c_BOOK_WORDS : Gc K mg C "BOOK_WORDS" (.tup [(.str "print"), (.str "scrap"), (.str "lend"), (.str "return")])) : Good P w K mg base C 1 "write_deed" ["deed"] .fz f_write_deed := by
  refine good_of (ret := [.fz, .fz]) (ex := [.fz, .fz]) D0 sc_write_deed [.fz, .fz] (fz_all 2) (fun f cdv A outer s H E hr => ?_) (.inl rfl)
  have tk : Takes (cxOf (L2.CX P w) P w K mg base ["deed", "key"] "write_deed" (defScope (top 21)) f cdv A outer s H E) (fun c d _ H' => E c d H') := takes_of rfl rfl rfl rfl
  exact (s_cons [.fz, .fz] (s_set 1 .fz sc_write_deed.nd rfl (by first | exact Or.inl rfl | exact Or.inr rfl) (d_ix (dv 0) d_int) .refl)
    (s_cons [.fz, .fz] (s_if (d_tcmp op_inA v_in (dv 1) (d_gc c_CUT_WORDS) (by rfl)) .refl (s_one (s_ret (d_join d_str (d_frz (.lst .fz) (d_lst (d_acons (dv 1) (d_acons (d_callTy call_str_int c_str rfl (NB "str" (by decide)) rfl (d_acons (d_ix (dv 0) d_int) d_anil)) (d_acons (d_callTy call_str_int c_str rfl (NB "str" (by decide)) rfl (d_acons (d_ix (dv 0) d_int) d_anil)) d_anil)))))) .refl .refl)) (s_nil rfl))
    (s_cons [.fz, .fz] (s_if (d_tcmp op_inA v_in (dv 1) (d_gc c_BOOK_WORDS) (by rfl)) .refl (s_one (s_ret (d_join d_str (d_op op_addA v_add (d_frz (.lst .fz) (d_lst (d_acons (dv 1) d_anil))) (d_frz (.lst .fz) (d_callTy call_list_of c_list rfl (NB "list" (by decide)) rfl (d_acons (d_ix (dv 0) d_int) d_anil))))) .refl .refl)) (s_nil rfl))
    (s_one (s_ret (dv 1) .refl .refl)))))
theorem sc__law_near : FnScope ["cell", "texts"] ["cell"] (defScope (top 31)) := ⟨rfl, rfl, rfl, by decide +kernel, rfl, by decide +kernel, by decide +kernel⟩
theorem ok__law_near (D0 : Df K mg "_law_near" (top 31) ["cell"]) (NB : ∀ x ∈ nbs, mg x = none) : Good P w K mg base C 1 "_law_near" ["cell"] .fz f__law_near := by
  refine good_of (ret := [.fz, .fz]) (ex := [.fz, .fz]) D0 sc__law_near [.fz, .fz] (fz_all 2) (fun f cdv A outer s H E hr => ?_) (.inl rfl)
  have tk : Takes (cxOf (L2.CX P w) P w K mg base ["cell", "texts"] "_law_near" (defScope (top 31)) f cdv A outer s H E) (fun c d _ H' => E c d H') := takes_of rfl rfl rfl rfl
  exact (s_cons [.fz, .fz] (s_set 1 .fz sc__law_near.nd rfl (by first | exact Or.inl rfl | exact Or.inr rfl) (d_frz (.lst .fz) (d_lst (d_acons d_str (d_acons d_str (d_acons d_str (d_acons d_str (d_acons d_str (d_acons d_str (d_acons d_str (d_acons d_str (d_acons d_str (d_acons d_str (d_acons d_str (d_acons d_str d_anil)))))))))))))) .refl)
    (s_cons [.fz, .fz] (s_set 1 .fz sc__law_near.nd rfl (by first | exact Or.inl rfl | exact Or.inr rfl) (d_op op_addA v_add (dv 1) (d_frz (.lst .fz) (d_lst (d_acons d_str (d_acons d_str (d_acons d_str (d_acons d_str (d_acons d_str (d_acons d_str (d_acons d_str (d_acons d_str d_anil))))))))))) .refl)
    (s_cons [.fz, .fz] (s_set 1 .fz sc__law_near.nd rfl (by first | exact Or.inl rfl | exact Or.inr rfl) (d_op op_addA v_add (dv 1) (d_frz (.lst .fz) (d_lst (d_acons d_str (d_acons d_str (d_acons d_str (d_acons d_str (d_acons d_str (d_acons d_str (d_acons d_str (d_acons d_str (d_acons d_str (d_acons d_str d_anil))))))))))))) .refl)
    (s_cons [.fz, .fz] (s_set 1 .fz sc__law_near.nd rfl (by first | exact Or.inl rfl | exact Or.inr rfl) (d_op op_addA v_add (dv 1) (d_frz (.lst .fz) (d_lst (d_acons d_str (d_acons d_str (d_acons d_str (d_acons d_str (d_acons d_str (d_acons d_str (d_acons d_str (d_acons d_str d_anil))))))))))) .refl)
    (s_cons [.fz, .fz] (s_set 1 .fz sc__law_near.nd rfl (by first | exact Or.inl rfl | exact Or.inr rfl) (d_op op_addA v_add (dv 1) (d_frz (.lst .fz) (d_lst (d_acons d_str (d_acons d_str d_anil))))) .refl)
    (s_one (s_ret (d_ix (dv 1) (dv 0)) .refl .refl)))))))
theorem sc_law : FnScope ["script", "sizes", "kind", "text", "due", "signs", "k", "at", "sign", "changed"] ["script"] (defScope (top 32)) := ⟨rfl, rfl, rfl, by decide +kernel, rfl, by decide +kernel, by decide +kernel⟩
theorem ok_law {fu : Nat} (D0 : Df K mg "law" (top 32) ["script"]) (NB : ∀ x ∈ nbs, mg x = none) (G__law_draws : Good P w K mg base C 1 "_law_draws" ["script", "place", "many", "base"] .fz f__law_draws) (G__law_text : Good P w K mg base C 2 "_law_text" ["script", "kind"] .fz f__law_text) (G__law_due : Good P w K mg base C 2 "_law_due" ["text"] .fz f__law_due) (G_write_deed : Good P w K mg base C 1 "write_deed" ["deed"] .fz f_write_deed) (G__law_same : Good P w K mg base C (fu + 1) "_law_same" ["told", "due"] .fz (f__law_same fu)) (G__law_told : Good P w K mg base C 6 "_law_told" ["text"] .fz f__law_told) (G__law_near : Good P w K mg base C 1 "_law_near" ["cell"] .fz f__law_near) : Good P w K mg base C (fu + 7) "law" ["script"] .fz (f_law fu) := by
  refine good_of (ret := [.fz, .fz, .fz, .fz, .fz, .fz, .fz, .fz, .fz, .fz]) (ex := [.fz, .fz, .fz, .fz, .fz, .fz, .fz, .fz, .fz, .fz]) D0 sc_law [.fz, .fz, .fz, .fz, .fz, .fz, .fz, .fz, .fz, .fz] (fz_all 10) (fun f cdv A outer s H E hr => ?_) (.inl rfl)
  have tk : Takes (cxOf (L2.CX P w) P w K mg base ["script", "sizes", "kind", "text", "due", "signs", "k", "at", "sign", "changed"] "law" (defScope (top 32)) f cdv A outer s H E) (fun c d _ H' => E c d H') := takes_of rfl rfl rfl rfl
  exact (s_cons [.fz, .fz, .fz, .fz, .fz, .fz, .fz, .fz, .fz, .fz] (s_set 1 .fz sc_law.nd rfl (by first | exact Or.inl rfl | exact Or.inr rfl) (d_callG G__law_draws (hr.mono (by omega)) tk (d_acons (dv 0) (d_acons d_int (d_acons d_int (d_acons d_int d_anil))))) .refl)
    (s_cons [.fz, .fz, .fz, .fz, .fz, .fz, .fz, .fz, .fz, .fz] (s_set 2 .fz sc_law.nd rfl (by first | exact Or.inl rfl | exact Or.inr rfl) (d_op op_mod v_mod (d_callTy call_intA c_int rfl (NB "int" (by decide)) rfl (d_acons (d_ix (dv 1) d_int) d_anil)) d_int) .refl)
    (s_cons [.fz, .fz, .fz, .fz, .fz, .fz, .fz, .fz, .fz, .fz] (s_set 3 .fz sc_law.nd rfl (by first | exact Or.inl rfl | exact Or.inr rfl) (d_callG G__law_text (hr.mono (by omega)) tk (d_acons (dv 0) (d_acons (dv 2) d_anil))) .refl)
    (s_cons [.fz, .fz, .fz, .fz, .fz, .fz, .fz, .fz, .fz, .fz] (s_set 4 .fz sc_law.nd rfl (by first | exact Or.inl rfl | exact Or.inr rfl) (d_callG G__law_due (hr.mono (by omega)) tk (d_acons (dv 3) d_anil)) .refl)
    (s_cons [.fz, .fz, .fz, .fz, .fz, .fz, .fz, .fz, .fz, .fz] (s_if (PW.pt (d_or (d_tcmp (op_neA hr.units) v_ne (d_ix (dv 4) d_int) d_str (by rfl)) (d_or (d_not (d_tval (d_callG G__law_same (hr.mono (by omega)) tk (d_acons (d_callG G__law_told (hr.mono (by omega)) tk (d_acons (dv 3) d_anil)) (d_acons (dv 4) d_anil))))) (d_or1 (d_not (d_tval (d_callG G__law_same (hr.mono (by omega)) tk (d_acons (d_callG G_write_deed (hr.mono (by omega)) tk (d_acons (d_ix (dv 4) d_int) d_anil)) (d_acons (dv 3) d_anil))))))))) .refl (s_one (s_ret d_bl .refl .refl)) (s_nil rfl))
    (s_cons [.fz, .fz, .fz, .fz, .fz, .fz, .fz, .fz, .fz, .fz] (s_set 5 .fz sc_law.nd rfl (by first | exact Or.inl rfl | exact Or.inr rfl) d_str .refl)
    (s_cons [.fz, .fz, .fz, .fz, .fz, .fz, .fz, .fz, .fz, .fz] (s_for (passes_of rfl) rfl (i_rng1 rfl (NB "range" (by decide)) (d_acons d_int d_anil)) (pg_name (i := 6) sc_law.nd rfl (Or.inl rfl)) (tg_name 6) (s_cons [.fz, .fz, .fz, .fz, .fz, .fz, .fz, .fz, .fz, .fz] (s_set 7 .fz sc_law.nd rfl (by first | exact Or.inl rfl | exact Or.inr rfl) (d_op op_mod v_mod (d_callTy call_intA c_int rfl (NB "int" (by decide)) rfl (d_acons (d_ix (dv 1) (d_op op_addA v_add d_int (d_op op_mul v_mul d_int (dv 6)))) d_anil)) (d_op op_addA v_add (d_callB call_len c_len rfl (NB "len" (by decide)) rfl (d_acons (dv 3) d_anil)) d_int)) .refl)
    (s_cons [.fz, .fz, .fz, .fz, .fz, .fz, .fz, .fz, .fz, .fz] (s_set 8 .fz sc_law.nd rfl (by first | exact Or.inl rfl | exact Or.inr rfl) (d_ix (dv 5) (d_op op_mod v_mod (d_callTy call_intA c_int rfl (NB "int" (by decide)) rfl (d_acons (d_ix (dv 1) (d_op op_addA v_add d_int (d_op op_mul v_mul d_int (dv 6)))) d_anil)) (d_callB call_len c_len rfl (NB "len" (by decide)) rfl (d_acons (dv 5) d_anil)))) .refl)
    (s_cons [.fz, .fz, .fz, .fz, .fz, .fz, .fz, .fz, .fz, .fz] (s_set 9 .fz sc_law.nd rfl (by first | exact Or.inl rfl | exact Or.inr rfl) (d_op op_addA v_add (d_op op_addA v_add (d_slice (dv 3) o_none (o_some (dv 7))) (d_ix (d_frz (.lst .fz) (d_lst (d_acons d_str (d_acons (dv 8) (d_acons (dv 8) d_anil))))) (d_op op_mod v_mod (d_callTy call_intA c_int rfl (NB "int" (by decide)) rfl (d_acons (d_ix (dv 1) (d_op op_addA v_add d_int (d_op op_mul v_mul d_int (dv 6)))) d_anil)) d_int))) (d_slice (dv 3) (o_some (d_op op_addA v_add (dv 7) (d_ix (d_frz (.lst .fz) (d_lst (d_acons d_int (d_acons d_int (d_acons d_int d_anil))))) (d_op op_mod v_mod (d_callTy call_intA c_int rfl (NB "int" (by decide)) rfl (d_acons (d_ix (dv 1) (d_op op_addA v_add d_int (d_op op_mul v_mul d_int (dv 6)))) d_anil)) d_int)))) o_none)) .refl)
    (s_cons [.fz, .fz, .fz, .fz, .fz, .fz, .fz, .fz, .fz, .fz] (s_if (d_not (d_tval (d_callG G__law_same (hr.mono (by omega)) tk (d_acons (d_callG G__law_told (hr.mono (by omega)) tk (d_acons (dv 9) d_anil)) (d_acons (d_callG G__law_due (hr.mono (by omega)) tk (d_acons (dv 9) d_anil)) d_anil))))) .refl (s_one (s_ret d_bl .refl .refl)) (s_nil rfl))
    (s_one (s_if (PW.pt (d_and (d_tcmp (op_eqA hr.units) v_eq (d_ix (d_callG G__law_due (hr.mono (by omega)) tk (d_acons (dv 9) d_anil)) d_int) d_str (by rfl)) (d_and1 (d_not (d_tval (d_callG G__law_same (hr.mono (by omega)) tk (d_acons (d_callG G_write_deed (hr.mono (by omega)) tk (d_acons (d_ix (d_callG G__law_due (hr.mono (by omega)) tk (d_acons (dv 9) d_anil)) d_int) d_anil)) (d_acons (dv 9) d_anil)))))))) .refl (s_one (s_ret d_bl .refl .refl)) (s_nil rfl))))))) .refl)
    (s_cons [.fz, .fz, .fz, .fz, .fz, .fz, .fz, .fz, .fz, .fz] (s_for (passes_of rfl) rfl (i_rng1 rfl (NB "range" (by decide)) (d_acons d_int d_anil)) (pg_name (i := 6) sc_law.nd rfl (Or.inl rfl)) (tg_name 6) (s_one (s_if (d_not (d_tval (d_callG G__law_same (hr.mono (by omega)) tk (d_acons (d_callG G__law_told (hr.mono (by omega)) tk (d_acons (d_callG G__law_near (hr.mono (by omega)) tk (d_acons (dv 6) d_anil)) d_anil)) (d_acons (d_tup (d_acons d_str (d_acons (d_callG G__law_near (hr.mono (by omega)) tk (d_acons (dv 6) d_anil)) d_anil))) d_anil))))) .refl (s_one (s_ret d_bl .refl .refl)) (s_nil rfl))) .refl)
    (s_one (s_ret d_bl .refl .refl))))))))))
end
end G72

set_option maxHeartbeats 4000000
/-! Plain laws of the value layer: loops, texts, numbers. -/
namespace DL
open PySem PySem.Spec PyProof.Rows L2
@[simp] theorem bind_ok {α β : Type} (a : α) (k : α → R β) : (R.ok a).bind k = k a := rfl
@[simp] theorem bind_exc {α β : Type} (x : Exn) (k : α → R β) : (R.exc x : R α).bind k = .exc x := rfl
@[simp] theorem bind_bad {α β : Type} (k : α → R β) : (R.bad : R α).bind k = .bad := rfl
@[simp] theorem chk_true {α : Type} (r : R α) : chk true r = r := rfl
@[simp] theorem chk_false {α : Type} (r : R α) : chk false r = .bad := rfl
theorem chk_of {α : Type} {p : Prop} [Decidable p] (r : R α) (h : p) : chk (decide p) r = r := by rw [decide_eq_true h]; rfl
section
variable (a b c d : GE) (t u : GT) (x y z : D) (env : Dv)
@[simp] theorem ev_var0 (r : Dv) : gVar 0 (some x :: r) = .ok x := rfl
@[simp] theorem ev_varS (i : Nat) (o : Option D) (r : Dv) : gVar (i + 1) (o :: r) = gVar i r := rfl
@[simp] theorem ev_C : gC x env = .ok x := rfl
@[simp] theorem ev_g1 (f : D → R D) : g1 f a env = (a env).bind f := rfl
@[simp] theorem ev_g2 (f : D → D → R D) : g2 f a b env = (a env).bind fun x => (b env).bind fun y => f x y := rfl
@[simp] theorem ev_un (f : D → R D) : un f [x] = f x := rfl
@[simp] theorem ev_bi (f : D → D → R D) : bi f [x, y] = f x y := rfl
@[simp] theorem ev_call (f : List D → R D) (g : GA) : gCall f g env = (g env).bind f := rfl
@[simp] theorem ev_aNil : aNil env = .ok [] := rfl
@[simp] theorem ev_aCons (g : GA) : aCons a g env = (a env).bind fun d => (g env).bind fun ds => .ok (d :: ds) := rfl
@[simp] theorem ev_B : gB a env = (a env).bind isB := rfl
@[simp] theorem ev_isB (k : Bool) : isB (.bl k) = .ok k := rfl
@[simp] theorem ev_and : tAndG t u env = (t env).bind fun c => match c with | true => u env | false => .ok false := rfl
@[simp] theorem ev_or : tOrG t u env = (t env).bind fun c => match c with | true => .ok true | false => u env := rfl
@[simp] theorem ev_not : tNotG t env = (t env).bind fun c => .ok (!c) := rfl
@[simp] theorem ev_andV : gAndV a b env = (a env).bind fun c => match c with | .bl true => b env | .bl false => .ok (.bl false) | _ => .bad := rfl
@[simp] theorem ev_orV : gOrV a b env = (a env).bind fun c => match c with | .bl true => .ok (.bl true) | .bl false => b env | _ => .bad := rfl
@[simp] theorem ev_notV : gNotV a env = (a env).bind fun c => match c with | .bl b => .ok (.bl (!b)) | _ => .bad := rfl
@[simp] theorem ev_ifE : gIf t a b env = (t env).bind fun c => match c with | true => a env | false => b env := rfl
@[simp] theorem ev_tup (g : GA) : DL.gTup g env = (g env).bind (szL .tup) := rfl
@[simp] theorem ev_lst (g : GA) : gLst g env = (g env).bind (szL .lst) := rfl
@[simp] theorem ev_S1 (f : Str → D → R D) : gS1 f a b env = (a env).bind fun q => match q with | .str z => (b env).bind (f z) | _ => .bad := rfl
@[simp] theorem ev_lt (i j : Int) : ltD (.int i) (.int j) = .ok (.bl (decide (i < j))) := rfl
@[simp] theorem ev_le (i j : Int) : leD (.int i) (.int j) = .ok (.bl (decide (i ≤ j))) := rfl
@[simp] theorem ev_gt (i j : Int) : gtD (.int i) (.int j) = .ok (.bl (decide (j < i))) := rfl
@[simp] theorem ev_ge (i j : Int) : geD (.int i) (.int j) = .ok (.bl (decide (j ≤ i))) := rfl
@[simp] theorem ev_eqI (i j : Int) : eqD (.int i) (.int j) = .ok (.bl (decide (i = j))) := rfl
@[simp] theorem ev_eqS (i j : Str) : eqD (.str i) (.str j) = .ok (.bl (decide (i = j))) := rfl
@[simp] theorem ev_neI (i j : Int) : neD (.int i) (.int j) = .ok (.bl (!decide (i = j))) := rfl
@[simp] theorem ev_neS (i j : Str) : neD (.str i) (.str j) = .ok (.bl (!decide (i = j))) := rfl
@[simp] theorem ev_neB (i j : Bool) : neD (.bl i) (.bl j) = .ok (.bl (!decide (i = j))) := rfl
@[simp] theorem ev_addI (i j : Int) : addD (.int i) (.int j) = .ok (.int (i + j)) := rfl
@[simp] theorem ev_subI (i j : Int) : subD (.int i) (.int j) = .ok (.int (i - j)) := rfl
@[simp] theorem ev_neg (i : Int) : negD (.int i) = .ok (.int (-i)) := rfl
theorem ev_mulI {i j : Int} (h : smallI i = true ∨ smallI j = true) : mulD (.int i) (.int j) = .ok (.int (i * j)) := by
  show chk (smallI i || smallI j) _ = _
  rw [show (smallI i || smallI j) = true from by simpa using h]; rfl
theorem ev_modI {i j : Int} (h : 0 < j) : modD (.int i) (.int j) = .ok (.int (i % j)) := chk_of _ h
theorem ev_fdivI {i j : Int} (h : 0 < j) (h2 : j < 1073741824) : fdivD (.int i) (.int j) = .ok (.int (i / j)) := chk_of _ ⟨h, h2⟩
theorem ev_lenS {w : Str} (h : w.length ≤ big) : lenD (.str w) = .ok (.int w.length) := chk_of _ h
@[simp] theorem ev_lenL (ds : List D) : lenD (.lst ds) = .ok (.int ds.length) := rfl
@[simp] theorem ev_lenT (ds : List D) : lenD (.tup ds) = .ok (.int ds.length) := rfl
@[simp] theorem ev_lenC (ns : List Int) : lenD (.scr ns) = .ok (.int ns.length) := rfl
@[simp] theorem ev_int (i : Int) : intD (.int i) = .ok (.int i) := rfl
@[simp] theorem ev_abs (i : Int) : absD (.int i) = .ok (.int (if i < 0 then -i else i)) := rfl
@[simp] theorem ev_isNN : isND .non .non = .ok (.bl true) := rfl
@[simp] theorem ev_isNS (s : Str) : isND (.str s) .non = .ok (.bl false) := rfl
@[simp] theorem ev_isNT (s : List D) : isND (.tup s) .non = .ok (.bl false) := rfl
@[simp] theorem ev_isNL (s : List D) : isND (.lst s) .non = .ok (.bl false) := rfl
@[simp] theorem ev_isNI (s : Int) : isND (.int s) .non = .ok (.bl false) := rfl
theorem ev_szL {f : List D → D} {ds : List D} (h : ds.length ≤ big) : szL f ds = .ok (f ds) := if_pos h
@[simp] theorem ev_iSeq : iSeq a env = (a env).bind itD := rfl
@[simp] theorem ev_iArg (f : List D → R (List D)) (g : GA) : iArg f g env = (g env).bind f := rfl
@[simp] theorem ev_itL (ds : List D) : itD (.lst ds) = .ok ds := rfl
@[simp] theorem ev_itT (ds : List D) : itD (.tup ds) = .ok ds := rfl
@[simp] theorem ev_itS (s : Str) : itD (.str s) = .ok (charsD s) := rfl
@[simp] theorem ev_itC (ns : List Int) : itD (.scr ns) = .ok (ns.map .int) := rfl
theorem ev_rng {j : Int} (h : -(2 ^ 62) ≤ j ∧ j < 2 ^ 62) : rng1D [.int j] = .ok (rngL 0 j.toNat) := chk_of _ h
@[simp] theorem ev_pNone : pNone env = .ok none := rfl
@[simp] theorem ev_pSome : pSome a env = (a env).bind fun d => match d with | .int i => .ok (some i) | _ => .bad := rfl
@[simp] theorem ev_Sl (lo hi : GP) : gSl a lo hi env = (a env).bind fun d => (lo env).bind fun l => (hi env).bind fun h => slD d l h := rfl
end
section
variable (p q : GS) (t : GT) (a : GE) (env : Dv)
@[simp] theorem ev_sNil : sNil env = .nx env := rfl
@[simp] theorem ev_seq : sSeq p q env = match p env with | .nx e => q e | r => r := rfl
@[simp] theorem ev_if : sIf t p q env = match t env with | .ok true => p env | .ok false => q env | .exc x => .ex x env | .bad => .bad := rfl
@[simp] theorem ev_ret : sRet a env = match a env with | .ok d => .rt d env | .exc x => .ex x env | .bad => .bad := rfl
@[simp] theorem ev_set (i : Nat) : sSet i a env = match a env with | .ok d => .nx (env.set i (some d)) | .exc x => .ex x env | .bad => .bad := rfl
@[simp] theorem ev_for (it : GA) (tg : D → Dv → Option Dv) : sFor it tg p env = match it env with | .ok ds => loopG tg p ds env | .exc x => .ex x env | .bad => .bad := rfl
@[simp] theorem ev_raise (c : Cid) (f : Str) : sRaise c f a env = match a env with | .ok d => .ex ⟨c, [(f, d)]⟩ env | .exc x => .ex x env | .bad => .bad := rfl
end
section
variable {p q : GS} {t : GT} {a : GE} {env e e' : Dv} {d : D} {x : Exn}
theorem seq_nx (h : p env = .nx e) : sSeq p q env = q e := by rw [ev_seq, h]
theorem seq_rt (h : p env = .rt d e) : sSeq p q env = .rt d e := by rw [ev_seq, h]
theorem seq_ex (h : p env = .ex x e) : sSeq p q env = .ex x e := by rw [ev_seq, h]
theorem if_t (h : t env = .ok true) : sIf t p q env = p env := by rw [ev_if, h]
theorem if_f (h : t env = .ok false) : sIf t p q env = q env := by rw [ev_if, h]
theorem ret_ok (h : a env = .ok d) : sRet a env = .rt d env := by rw [ev_ret, h]
theorem set_ok {i : Nat} (h : a env = .ok d) : sSet i a env = .nx (env.set i (some d)) := by rw [ev_set, h]
theorem for_ok {it : GA} {tg : D → Dv → Option Dv} {ds : List D} (h : it env = .ok ds) : sFor it tg p env = loopG tg p ds env := by rw [ev_for, h]
theorem run_rt {N n : Nat} {g : GS} {ds : List D} (hl : ds.length = n) (h : g (ds.map some ++ List.replicate (N - ds.length) none) = .rt d e) : runF N n g ds = .ok d := by
  unfold runF
  rw [decide_eq_true hl, h]
end
theorem atI_zero {α : Type} (c : α) (r : List α) : atI (c :: r) 0 = some c := by
  unfold atI ixN
  simp
theorem atI_nat {α : Type} {xs : List α} {i : Nat} {x : α} (h : xs[i]? = some x) : atI xs (i : Int) = some x := by
  have hl : i < xs.length := by
    cases Nat.lt_or_ge i xs.length with
    | inl h => exact h
    | inr q => rw [List.getElem?_eq_none q] at h; cases h
  unfold atI ixN
  rw [if_pos (by omega), if_pos (by omega)]
  simpa using h
/-- a loop that only looks -/
theorem loop_chk {i : Nat} {body : GS} {res : D} (p : D → Bool) {env : Dv} : ∀ {ds : List D}, (∀ d ∈ ds, body (env.set i (some d)) = match p d with | true => .rt res (env.set i (some d)) | false => .nx (env.set i (some d))) →
    ∀ e0, (e0 = env ∨ ∃ d, e0 = env.set i (some d)) → (ds.any p = true ∧ ∃ e, loopG (tgN i) body ds e0 = .rt res e) ∨ (ds.any p = false ∧ ∃ e, loopG (tgN i) body ds e0 = .nx e ∧ (e = env ∨ ∃ d, e = env.set i (some d)))
  | [], _, e0, h0 => .inr ⟨rfl, e0, rfl, h0⟩
  | d :: ds, hb, e0, h0 => by
    have e1 : e0.set i (some d) = env.set i (some d) := by
      rcases h0 with rfl | ⟨d', rfl⟩
      · rfl
      · rw [List.set_set]
    have hd := hb d List.mem_cons_self
    show _ ∨ _
    have hl : loopG (tgN i) body (d :: ds) e0 = match body (env.set i (some d)) with
      | .nx e => loopG (tgN i) body ds e
      | .ct e => loopG (tgN i) body ds e
      | .bk e => .nx e
      | q => q := by
      show (match tgN i d e0 with
        | none => Fl.bad
        | some env1 => match body env1 with
          | .nx e => loopG (tgN i) body ds e
          | .ct e => loopG (tgN i) body ds e
          | .bk e => .nx e
          | q => q) = _
      unfold tgN
      rw [e1]
    rw [hl, hd]
    cases hp : p d with
    | true => exact .inl ⟨by simp [hp], _, rfl⟩
    | false =>
      rcases loop_chk (env := env) p (fun d hd => hb d (List.mem_cons_of_mem _ hd)) (env.set i (some d)) (.inr ⟨d, rfl⟩) with ⟨h1, h2⟩ | ⟨h1, h2⟩
      · exact .inl ⟨by simp [hp, h1], h2⟩
      · exact .inr ⟨by simpa [hp] using h1, h2⟩
/-- a loop with an invariant: done, the environment -/
theorem loop_inv {i : Nat} {body : GS} (I : List D → Dv → Prop) : ∀ {ds : List D} {done : List D} {env : Dv}, I done env → (∀ pre d post env, done ++ ds = pre ++ d :: post → I pre env → ∃ e, body (env.set i (some d)) = .nx e ∧ I (pre ++ [d]) e) →
    ∃ e, loopG (tgN i) body ds env = .nx e ∧ I (done ++ ds) e
  | [], done, env, h, _ => ⟨env, rfl, by simpa using h⟩
  | d :: ds, done, env, h, hb => by
    obtain ⟨e, e1, e2⟩ := hb done d ds env rfl h
    obtain ⟨e', e3, e4⟩ := loop_inv I (ds := ds) (done := done ++ [d]) (env := e) e2 (fun pre d' post env hp => hb pre d' post env (by simpa using hp))
    refine ⟨e', ?_, by simpa using e4⟩
    show (match body (env.set i (some d)) with
      | .nx e => loopG (tgN i) body ds e
      | .ct e => loopG (tgN i) body ds e
      | .bk e => .nx e
      | q => q) = _
    rw [e1]
    exact e3
theorem inB_char (c : Nat) (z : Str) : inB (.str ⟨#[c]⟩) (.str z) = some (decide (c ∈ z.cps.toList)) := rfl
/-! ### texts -/
def L (x : Str) : List Nat := x.cps.toList
theorem L_inj {x y : Str} (h : L x = L y) : x = y := Str.ext' (Array.toList_inj.mp h)
theorem L_len (x : Str) : (L x).length = x.length := Array.length_toList
theorem eqB_str (a b : Str) : eqB (.str a) (.str b) = some (decide (a = b)) := rfl
theorem eqB_int (a b : Int) : eqB (.int a) (.int b) = some (decide (a = b)) := rfl
theorem toPs_strs : ∀ ws : List Str, toPs (ws.map D.str) = some (ws.map PyData.str)
  | [] => by simp [toPs]
  | w :: r => by
    rw [List.map_cons]
    unfold toPs
    rw [toPs_strs r]
    simp [toP]
end DL

set_option maxHeartbeats 4000000
/-! Plain laws of the value layer: membership, slices, equality of plain data. -/
namespace DL
open PySem PySem.Spec PyProof.Rows L2
open TL (tl)
@[simp] theorem ev_sz0 (f : List D → D) : szL f [] = .ok (f []) := if_pos (Nat.le_of_ble_eq_true rfl)
@[simp] theorem ev_sz1 (f : List D → D) (x0 : D) : szL f [x0] = .ok (f [x0]) := if_pos (Nat.le_of_ble_eq_true rfl)
@[simp] theorem ev_sz2 (f : List D → D) (x0 x1 : D) : szL f [x0, x1] = .ok (f [x0, x1]) := if_pos (Nat.le_of_ble_eq_true rfl)
@[simp] theorem ev_sz3 (f : List D → D) (x0 x1 x2 : D) : szL f [x0, x1, x2] = .ok (f [x0, x1, x2]) := if_pos (Nat.le_of_ble_eq_true rfl)
@[simp] theorem ev_sz4 (f : List D → D) (x0 x1 x2 x3 : D) : szL f [x0, x1, x2, x3] = .ok (f [x0, x1, x2, x3]) := if_pos (Nat.le_of_ble_eq_true rfl)
@[simp] theorem ev_sz5 (f : List D → D) (x0 x1 x2 x3 x4 : D) : szL f [x0, x1, x2, x3, x4] = .ok (f [x0, x1, x2, x3, x4]) := if_pos (Nat.le_of_ble_eq_true rfl)
@[simp] theorem ev_sz6 (f : List D → D) (x0 x1 x2 x3 x4 x5 : D) : szL f [x0, x1, x2, x3, x4, x5] = .ok (f [x0, x1, x2, x3, x4, x5]) := if_pos (Nat.le_of_ble_eq_true rfl)
@[simp] theorem ev_sz7 (f : List D → D) (x0 x1 x2 x3 x4 x5 x6 : D) : szL f [x0, x1, x2, x3, x4, x5, x6] = .ok (f [x0, x1, x2, x3, x4, x5, x6]) := if_pos (Nat.le_of_ble_eq_true rfl)
@[simp] theorem ev_sz8 (f : List D → D) (x0 x1 x2 x3 x4 x5 x6 x7 : D) : szL f [x0, x1, x2, x3, x4, x5, x6, x7] = .ok (f [x0, x1, x2, x3, x4, x5, x6, x7]) := if_pos (Nat.le_of_ble_eq_true rfl)
@[simp] theorem ev_sz9 (f : List D → D) (x0 x1 x2 x3 x4 x5 x6 x7 x8 : D) : szL f [x0, x1, x2, x3, x4, x5, x6, x7, x8] = .ok (f [x0, x1, x2, x3, x4, x5, x6, x7, x8]) := if_pos (Nat.le_of_ble_eq_true rfl)
@[simp] theorem ev_sz10 (f : List D → D) (x0 x1 x2 x3 x4 x5 x6 x7 x8 x9 : D) : szL f [x0, x1, x2, x3, x4, x5, x6, x7, x8, x9] = .ok (f [x0, x1, x2, x3, x4, x5, x6, x7, x8, x9]) := if_pos (Nat.le_of_ble_eq_true rfl)
@[simp] theorem ev_sz11 (f : List D → D) (x0 x1 x2 x3 x4 x5 x6 x7 x8 x9 x10 : D) : szL f [x0, x1, x2, x3, x4, x5, x6, x7, x8, x9, x10] = .ok (f [x0, x1, x2, x3, x4, x5, x6, x7, x8, x9, x10]) := if_pos (Nat.le_of_ble_eq_true rfl)
@[simp] theorem ev_sz12 (f : List D → D) (x0 x1 x2 x3 x4 x5 x6 x7 x8 x9 x10 x11 : D) : szL f [x0, x1, x2, x3, x4, x5, x6, x7, x8, x9, x10, x11] = .ok (f [x0, x1, x2, x3, x4, x5, x6, x7, x8, x9, x10, x11]) := if_pos (Nat.le_of_ble_eq_true rfl)
@[simp] theorem ev_sz13 (f : List D → D) (x0 x1 x2 x3 x4 x5 x6 x7 x8 x9 x10 x11 x12 : D) : szL f [x0, x1, x2, x3, x4, x5, x6, x7, x8, x9, x10, x11, x12] = .ok (f [x0, x1, x2, x3, x4, x5, x6, x7, x8, x9, x10, x11, x12]) := if_pos (Nat.le_of_ble_eq_true rfl)
theorem flVs_strs : ∀ l : List Str, flVs (l.map D.str) = some (l.map V.str)
  | [] => rfl
  | x :: l => by
    show (match flV (.str x), flVs (l.map D.str) with | some v, some vs => some (v :: vs) | _, _ => none) = _
    rw [flVs_strs l]
    rfl
theorem flVs_ints : ∀ l : List Int, flVs (l.map D.int) = some (l.map V.int)
  | [] => rfl
  | x :: l => by
    show (match flV (.int x), flVs (l.map D.int) with | some v, some vs => some (v :: vs) | _, _ => none) = _
    rw [flVs_ints l]
    rfl
theorem inV_str (x : Str) (l : List Str) : inV (.str x) (l.map V.str) = decide (x ∈ l) := by
  induction l with
  | nil => rfl
  | cons y l ih =>
    have e : eqV (V.str y) (V.str x) = decide (x = y) := by
      show (y == x) = _
      by_cases h : x = y
      · subst h; simp
      · rw [decide_eq_false h, beq_false_of_ne (fun z => h z.symm)]
    show (eqV (V.str y) (V.str x) || inV (.str x) (l.map V.str)) = _
    rw [e, ih]
    simp
theorem inV_int (x : Int) (l : List Int) : inV (.int x) (l.map V.int) = decide (x ∈ l) := by
  induction l with
  | nil => rfl
  | cons y l ih =>
    have e : eqV (V.int y) (V.int x) = decide (x = y) := by
      show (y == x) = _
      by_cases h : x = y
      · subst h; simp
      · rw [decide_eq_false h, beq_false_of_ne (fun z => h z.symm)]
    show (eqV (V.int y) (V.int x) || inV (.int x) (l.map V.int)) = _
    rw [e, ih]
    simp
theorem inT_str (x : Str) (l : List Str) : inD (.str x) (.tup (l.map D.str)) = .ok (.bl (decide (x ∈ l))) := by
  show (match (match flV (.str x), flVs (l.map D.str) with | some v, some vs => some (inV v vs) | _, _ => none) with | some c => R.ok (D.bl c) | none => .bad) = _
  rw [flVs_strs]
  show R.ok (D.bl (inV (.str x) (l.map V.str))) = _
  rw [inV_str]
theorem inL_str (x : Str) (l : List Str) : inD (.str x) (.lst (l.map D.str)) = .ok (.bl (decide (x ∈ l))) := inT_str x l
theorem inL_int (x : Int) (l : List Int) : inD (.int x) (.lst (l.map D.int)) = .ok (.bl (decide (x ∈ l))) := by
  show (match (match flV (.int x), flVs (l.map D.int) with | some v, some vs => some (inV v vs) | _, _ => none) with | some c => R.ok (D.bl c) | none => .bad) = _
  rw [flVs_ints]
  show R.ok (D.bl (inV (.int x) (l.map V.int))) = _
  rw [inV_int]
theorem cutL_from {α : Type} (xs : List α) (i : Nat) : cutL xs (some (i : Int)) none = xs.drop i := by
  unfold cutL
  rw [HT.sIx_nat, HT.sIx_none]
  by_cases h : i ≤ xs.length
  · rw [Nat.min_eq_left h, List.take_of_length_le (by rw [List.length_drop]; omega)]
  · rw [Nat.min_eq_right (by omega), List.drop_eq_nil_of_le (by omega : xs.length ≤ i), List.drop_eq_nil_of_le (Nat.le_refl _), List.take_nil]
theorem cutL_to {α : Type} (xs : List α) (i : Nat) : cutL xs none (some (i : Int)) = xs.take i := by
  unfold cutL
  rw [HT.sIx_nat, HT.sIx_none]
  by_cases h : i ≤ xs.length
  · rw [Nat.min_eq_left h]; rfl
  · rw [Nat.min_eq_right (by omega), List.take_of_length_le (by omega : xs.length ≤ i)]
    show xs.take (xs.length - 0) = xs
    rw [Nat.sub_zero, List.take_length]
theorem slL_from (ds : List D) (i : Nat) : slD (.lst ds) (some (i : Int)) none = .ok (.lst (ds.drop i)) := by
  show R.ok (D.lst (cutL ds _ _)) = _
  rw [cutL_from]
theorem slL_1 (ds : List D) : slD (.lst ds) (some 1) none = .ok (.lst (ds.drop 1)) := slL_from ds 1
theorem slC_to (ns : List Int) (i : Nat) : slD (.scr ns) none (some (i : Int)) = .ok (.lst ((ns.take i).map .int)) := by
  show R.ok (D.lst ((cutL ns _ _).map .int)) = _
  rw [cutL_to]
theorem tl_cut (z : Str) (lo hi : Option Int) : tl (cutS z lo hi) = cutL (tl z) lo hi := by
  unfold cutS cutL
  rw [TL.len_tl z]
theorem slS {z : Str} (h : z.length ≤ big) (lo hi : Option Int) : slD (.str z) lo hi = .ok (.str (cutS z lo hi)) := chk_of _ h
theorem cutL_len {α : Type} (xs : List α) (lo hi : Option Int) : (cutL xs lo hi).length ≤ xs.length := by
  unfold cutL
  rw [List.length_take, List.length_drop]
  omega
theorem cutS_len (z : Str) (lo hi : Option Int) : (cutS z lo hi).length ≤ z.length := by
  rw [TL.len_tl, tl_cut, TL.len_tl]
  exact cutL_len _ _ _
/-! ### == of lists of texts -/
theorem eqvAll_strs : ∀ (a b : List Str), PyData.eqvAll (a.map PyData.str) (b.map PyData.str) = decide (a = b)
  | [], [] => rfl
  | [], _ :: _ => rfl
  | _ :: _, [] => rfl
  | x :: a, y :: b => by
    show (PyData.eqv (.str x) (.str y) && PyData.eqvAll (a.map PyData.str) (b.map PyData.str)) = _
    rw [eqvAll_strs a b]
    show ((x == y) && _) = _
    by_cases h : x = y
    · subst h; simp
    · simp [h]
theorem lay_strs : ∀ l : List Str, (∀ w ∈ l, PyData.strOk w = true) → PyData.canLayAll0 (l.map PyData.str) = true
  | [], _ => rfl
  | x :: l, h => by
    show (PyData.canLay0 (.str x) && PyData.canLayAll0 (l.map PyData.str)) = true
    rw [lay_strs l fun w hw => h w (List.mem_cons_of_mem _ hw)]
    show (PyData.strOk x && true) = true
    rw [h x List.mem_cons_self]
    rfl
theorem depth_strs : ∀ l : List Str, PyData.depthAll (l.map PyData.str) = 0
  | [] => rfl
  | x :: l => by
    show max (PyData.depth (.str x)) (PyData.depthAll (l.map PyData.str)) = 0
    rw [depth_strs l]
    rfl
theorem shaped_strs (l : List Str) (h : ∀ w ∈ l, PyData.strOk w = true) : SeqAt.shaped (.list (l.map PyData.str)) = true := by
  show (PyData.canLayAll0 (l.map PyData.str) && decide (PyData.depthAll (l.map PyData.str) + 1 ≤ 64)) = true
  rw [lay_strs l h, depth_strs l]
  rfl
theorem eqL_strs (a b : List Str) (ha : ∀ w ∈ a, PyData.strOk w = true) (hb : ∀ w ∈ b, PyData.strOk w = true) : eqD (.lst (a.map D.str)) (.lst (b.map D.str)) = .ok (.bl (decide (a = b))) := by
  have e : eqB (.lst (a.map D.str)) (.lst (b.map D.str)) = some (decide (a = b)) := by
    show (match ((toPs (a.map D.str)).map PyData.list), ((toPs (b.map D.str)).map PyData.list) with
      | some p, some q => match SeqAt.shaped p && SeqAt.shaped q with
        | true => some (PyData.eqv p q)
        | false => none
      | _, _ => none) = _
    rw [toPs_strs, toPs_strs]
    show (match SeqAt.shaped (.list (a.map PyData.str)) && SeqAt.shaped (.list (b.map PyData.str)) with
        | true => some (PyData.eqvAll (a.map PyData.str) (b.map PyData.str))
        | false => none) = _
    rw [shaped_strs a ha, shaped_strs b hb, eqvAll_strs]
    rfl
  unfold eqD
  rw [e]
/-! ### comprehensions -/
theorem lc_eq {i : Nat} {env : Dv} {test : GT} {elt : GE} (p : D → Bool) (f : D → D) : ∀ {ds acc : List D}, (∀ d ∈ ds, test (env.set i (some d)) = .ok (p d)) → (∀ d ∈ ds, p d = true → elt (env.set i (some d)) = .ok (f d)) → acc.length + ds.length ≤ big →
    lcLoop env (tgN i) test elt ds acc = .ok (.lst (acc ++ (ds.filter p).map f))
  | [], acc, _, _, _ => by simp [lcLoop]
  | d :: ds, acc, h1, h2, hl => by
    have t1 := h1 d List.mem_cons_self
    rw [List.length_cons] at hl
    have step : lcLoop env (tgN i) test elt (d :: ds) acc = match test (env.set i (some d)) with
      | .ok true => (match elt (env.set i (some d)) with
        | .ok y => chk (decide (acc.length < big)) (lcLoop env (tgN i) test elt ds (acc ++ [y]))
        | _ => .bad)
      | .ok false => lcLoop env (tgN i) test elt ds acc
      | _ => .bad := rfl
    rw [step, t1]
    cases hp : p d with
    | true =>
      rw [h2 d List.mem_cons_self hp]
      show chk (decide (acc.length < big)) (lcLoop env (tgN i) test elt ds (acc ++ [f d])) = _
      rw [chk_of _ (by omega), lc_eq p f (ds := ds) (acc := acc ++ [f d]) (fun d hd => h1 d (List.mem_cons_of_mem _ hd)) (fun d hd => h2 d (List.mem_cons_of_mem _ hd)) (by rw [List.length_append, List.length_singleton]; omega)]
      simp [hp]
    | false =>
      show lcLoop env (tgN i) test elt ds acc = _
      rw [lc_eq p f (ds := ds) (acc := acc) (fun d hd => h1 d (List.mem_cons_of_mem _ hd)) (fun d hd => h2 d (List.mem_cons_of_mem _ hd)) (by omega)]
      simp [hp]
end DL

set_option maxHeartbeats 4000000
/-! The plain law of k72: names, numbers, forms. -/
namespace G72
open PySem PySem.Spec PyProof.Rows L2 DL
open TL (tl)
def onlyB (w al : List Nat) : Bool := w.all fun c => decide (c ∈ al)
/-- a loop over the signs of a text that looks whether each is of al -/
theorem only_any (w al : Str) : (charsD w).any (fun d => match d with | .str x => !strIn x al | _ => true) = !onlyB (tl w) (tl al) := by
  unfold charsD onlyB
  rw [List.any_map]
  show ((tl w).any fun c => !decide (c ∈ tl al)) = _
  generalize tl w = l
  induction l with
  | nil => rfl
  | cons c l ih =>
    rw [List.any_cons, List.all_cons, ih]
    cases decide (c ∈ tl al) <;> simp
theorem only_eq (w al : Str) : f_only [.str w, .str al] = .ok (.bl (onlyB (tl w) (tl al))) := by
  have hl := loop_chk (i := 2) (body := sIf (gB (g2 notInD (gVar 2) (gVar 1))) (sRet (gC (.bl false))) sNil) (res := .bl false) (fun d => match d with | .str x => !strIn x al | _ => true) (env := [some (.str w), some (.str al), none]) (ds := charsD w)
    (fun d hd => by
      obtain ⟨c, _, rfl⟩ := List.mem_map.mp hd
      show sIf _ _ _ [some (.str w), some (.str al), some (.str ⟨#[c]⟩)] = _
      show (match (R.ok (!strIn ⟨#[c]⟩ al) : R Bool) with | .ok true => Fl.rt (.bl false) [some (.str w), some (.str al), some (.str ⟨#[c]⟩)] | .ok false => Fl.nx [some (.str w), some (.str al), some (.str ⟨#[c]⟩)] | .exc x => _ | .bad => Fl.bad) = _
      cases h : (!strIn ⟨#[c]⟩ al) <;> simp [h]) _ (.inl rfl)
  rw [only_any] at hl
  show (match (match (match loopG (tgN 2) (sIf (gB (g2 notInD (gVar 2) (gVar 1))) (sRet (gC (.bl false))) sNil) (charsD w) [some (.str w), some (.str al), none] with
    | .nx env' => sRet (gC (.bl true)) env'
    | r => r) with | r => r) with
    | .rt d _ => R.ok d
    | .nx _ => .ok .non
    | .ex x _ => .exc x
    | _ => .bad) = _
  rcases hl with ⟨h1, e, h2⟩ | ⟨h1, e, h2, _⟩
  · rw [h2]
    have : onlyB (tl w) (tl al) = false := by simpa using h1
    rw [this]
  · rw [h2]
    have : onlyB (tl w) (tl al) = true := by simpa using h1
    rw [this]
    rfl
def lets : List Nat := tl ("abcdefghijklmnopqrstuvwxyz" : Str)
def digs : List Nat := tl ("0123456789" : Str)
def nameB (w : Str) : Bool := decide (1 ≤ w.length) && (decide (w.length ≤ 8) && onlyB (tl w) lets)
theorem is_name_eq {w : Str} (h : w.length ≤ big) : f_is_name [.str w] = .ok (.bl (nameB w)) := by
  unfold f_is_name runF g_is_name nameB
  by_cases h1 : 1 ≤ w.length
  · by_cases h2 : w.length ≤ 8
    · have a1 : ¬ ((w.length : Int) < 1) := by omega
      have a2 : ¬ ((8 : Int) < w.length) := by omega
      simp [ev_lenS h, only_eq, h1, h2, a1, a2]
      rfl
    · have a1 : ¬ ((w.length : Int) < 1) := by omega
      have a2 : ((8 : Int) < w.length) := by omega
      simp [ev_lenS h, h1, h2, a1, a2]
  · have a1 : ((w.length : Int) < 1) := by omega
    simp [ev_lenS h, h1, a1]
theorem law_is_name_eq {w : Str} (h : w.length ≤ big) : f__law_is_name [.str w] = .ok (.bl (nameB w)) := by
  have hl := loop_chk (i := 1) (body := sIf (gB (g2 notInD (gVar 1) (gC (.str "abcdefghijklmnopqrstuvwxyz")))) (sRet (gC (.bl false))) sNil) (res := .bl false) (fun d => match d with | .str x => !strIn x "abcdefghijklmnopqrstuvwxyz" | _ => true) (env := [some (.str w), none]) (ds := charsD w)
    (fun d hd => by
      obtain ⟨c, _, rfl⟩ := List.mem_map.mp hd
      show (match (R.ok (!strIn ⟨#[c]⟩ "abcdefghijklmnopqrstuvwxyz") : R Bool) with | .ok true => Fl.rt (.bl false) [some (.str w), some (.str ⟨#[c]⟩)] | .ok false => Fl.nx [some (.str w), some (.str ⟨#[c]⟩)] | .exc x => _ | .bad => Fl.bad) = _
      cases h : (!strIn ⟨#[c]⟩ "abcdefghijklmnopqrstuvwxyz") <;> simp [h]) _ (.inl rfl)
  rw [only_any] at hl
  have fin : ∀ e : Dv, e[0]? = some (some (.str w)) → gChain ltD ltD (gC (.int 0)) (gCall (un lenD) (aCons (gVar 0) aNil)) (gC (.int 9)) e = .ok (.bl (decide (1 ≤ w.length) && decide (w.length ≤ 8))) := fun e he => by
    have el : gVar 0 e = .ok (.str w) := by unfold gVar; rw [he]
    by_cases h1 : 1 ≤ w.length
    · have a1 : 0 < w.length := by omega
      by_cases h2 : w.length ≤ 8
      · have a2 : ((w.length : Int) < 9) := by omega
        simp [gChain, el, ev_lenS h, a1, a2, h1, h2]
      · have a2 : ¬ ((w.length : Int) < 9) := by omega
        simp [gChain, el, ev_lenS h, a1, a2, h1, h2]
    · have a1 : ¬ (0 < w.length) := by omega
      simp [gChain, el, ev_lenS h, a1, h1]
  show (match (match (match loopG (tgN 1) (sIf (gB (g2 notInD (gVar 1) (gC (.str "abcdefghijklmnopqrstuvwxyz")))) (sRet (gC (.bl false))) sNil) (charsD w) [some (.str w), none] with
    | .nx env' => sRet (gChain ltD ltD (gC (.int 0)) (gCall (un lenD) (aCons (gVar 0) aNil)) (gC (.int 9))) env'
    | r => r) with | r => r) with
    | .rt d _ => R.ok d
    | .nx _ => .ok .non
    | .ex x _ => .exc x
    | _ => .bad) = _
  unfold nameB lets
  rcases hl with ⟨h1, e, h2⟩ | ⟨h1, e, h2, h3⟩
  · rw [h2]
    have : onlyB (tl w) (tl ("abcdefghijklmnopqrstuvwxyz" : Str)) = false := by simpa using h1
    rw [this]
    simp
  · rw [h2]
    have : onlyB (tl w) (tl ("abcdefghijklmnopqrstuvwxyz" : Str)) = true := by simpa using h1
    rw [this]
    have he : e[0]? = some (some (.str w)) := by
      rcases h3 with rfl | ⟨d, rfl⟩ <;> rfl
    simp only [sRet, fin e he, Bool.and_true]
/-! ### numbers -/
def numB (w : Str) : Bool := decide (1 ≤ w.length) && (decide (w.length ≤ 4) && (onlyB (tl w) digs && !(decide ((tl w).head? = some 48) && decide (1 < w.length))))
def numI (w : Str) : Int := match numB w with
  | true => (NumText.digitsVal (tl w) : Nat)
  | false => -1
theorem first_eq {w : Str} (h : w.length ≤ big) (h1 : 1 ≤ w.length) : ∃ c r, tl w = c :: r ∧ ixD (.str w) (.int 0) = .ok (.str ⟨#[c]⟩) := by
  have hl : (tl w).length = w.length := (TL.len_tl w).symm
  cases e : tl w with
  | nil => rw [e] at hl; simp at hl; omega
  | cons c r =>
    refine ⟨c, r, rfl, ?_⟩
    show chk (decide (w.length ≤ big)) (match atI (tl w) 0 with | some c => R.ok (D.str ⟨#[c]⟩) | none => .bad) = _
    rw [chk_of _ h, e, atI_zero]
theorem digs_all {l : List Nat} (h : onlyB l digs = true) : NumText.AllDigits l := by
  intro c hc
  have := List.all_eq_true.mp h c hc
  have hm : c ∈ digs := of_decide_eq_true this
  have : ∀ c ∈ digs, 48 ≤ c ∧ c ≤ 57 := by decide +kernel
  exact this c hm
theorem eq0_eq (c : Nat) : decide ((⟨#[c]⟩ : Str) = ("0" : Str)) = decide (c = 48) := by
  by_cases hc48 : c = 48
  · subst hc48; rfl
  · rw [decide_eq_false hc48, decide_eq_false (fun z => hc48 (by
      have := congrArg tl z
      have z2 : [c] = [48] := this.trans (by rfl)
      simpa using z2))]
theorem int_word {w : Str} (h1 : 1 ≤ w.length) (h2 : w.length ≤ 4) (ho : onlyB (tl w) digs = true) : DL.intD (.str w) = R.ok (D.int ((NumText.digitsVal (tl w) : Nat) : Int)) := by
  have hl : (tl w).length = w.length := (TL.len_tl w).symm
  have := intText_digits (x := w) (digs_all ho) (by intro z; rw [show w.cps.toList = tl w from rfl] at z; rw [z] at hl; simp at hl; omega) (by omega)
  show chk (decide (w.length ≤ 640)) (match PySem.intText? w with | some n => R.ok (D.int n) | none => .bad) = _
  rw [chk_of _ (by omega), this]
theorem read_number_eq {w : Str} (h : w.length ≤ big) : f_read_number [.str w] = .ok (.int (numI w)) := by
  unfold f_read_number runF g_read_number numI numB
  by_cases h1 : 1 ≤ w.length
  · obtain ⟨c, r, hc, hx⟩ := first_eq h h1
    by_cases h2 : w.length ≤ 4
    · have a1 : ¬ ((w.length : Int) < 1) := by omega
      have a2 : ¬ ((4 : Int) < w.length) := by omega
      have eo : onlyB (tl w) (tl ("0123456789" : Str)) = onlyB (tl w) digs := rfl
      cases ho : onlyB (tl w) digs with
      | false => simp [ev_lenS h, only_eq, eo, h1, h2, a1, a2, ho]
      | true =>
        have ei := int_word h1 h2 ho
        have hh : (tl w).head? = some c := by rw [hc]; rfl
        by_cases h3 : c = 48
        · by_cases h4 : 1 < w.length
          · have a4 : ((1 : Int) < w.length) := by omega
            simp [ev_lenS h, only_eq, eo, h1, h2, a1, a2, ho, hx, eq0_eq, hh, h3, h4, a4]
          · have a4 : ¬ ((1 : Int) < w.length) := by omega
            simp [ev_lenS h, only_eq, eo, h1, h2, a1, a2, ho, hx, eq0_eq, hh, h3, h4, a4, ei]
        · simp [ev_lenS h, only_eq, eo, h1, h2, a1, a2, ho, hx, eq0_eq, hh, h3, ei]
    · have a1 : ¬ ((w.length : Int) < 1) := by omega
      have a2 : ((4 : Int) < w.length) := by omega
      simp [ev_lenS h, h1, h2, a1, a2]
  · have a1 : ((w.length : Int) < 1) := by omega
    simp [ev_lenS h, h1, a1]
def numBody : GS := sSeq (sIf (gB (g2 notInD (gVar 2) (gC (.str "0123456789")))) (sRet (g1 negD (gC (.int 1)))) sNil) (sSet 1 (g2 addD (g2 mulD (gC (.int 10)) (gVar 1)) (gS1 sidxD (gC (.str "0123456789")) (gVar 2))))
theorem notIn_digs (c : Nat) : notInD (.str ⟨#[c]⟩) (.str "0123456789") = .ok (.bl (!decide (c ∈ digs))) := rfl
theorem index_dig : ∀ c ∈ digs, Txt.index0 ("0123456789" : Str) ⟨#[c]⟩ = some (c - 48) := by decide +kernel
theorem num_loop (x : D) : ∀ (cs : List Nat) (v : Nat) (o : Option D), (onlyB cs digs = false ∧ ∃ e, loopG (tgN 2) numBody (cs.map fun c => .str ⟨#[c]⟩) [some x, some (.int v), o] = .rt (.int (-1)) e) ∨
    (onlyB cs digs = true ∧ ∃ o', loopG (tgN 2) numBody (cs.map fun c => .str ⟨#[c]⟩) [some x, some (.int v), o] = .nx [some x, some (.int ((cs.foldl (fun acc c => acc * 10 + (c - 48)) v : Nat) : Int)), o'])
  | [], v, o => .inr ⟨rfl, o, rfl⟩
  | c :: cs, v, o => by
    have hstep : loopG (tgN 2) numBody ((c :: cs).map fun c => .str ⟨#[c]⟩) [some x, some (.int v), o] = match numBody [some x, some (.int v), some (.str ⟨#[c]⟩)] with
      | .nx e => loopG (tgN 2) numBody (cs.map fun c => .str ⟨#[c]⟩) e
      | .ct e => loopG (tgN 2) numBody (cs.map fun c => .str ⟨#[c]⟩) e
      | .bk e => .nx e
      | q => q := rfl
    by_cases hc : c ∈ digs
    · have hx := index_dig c hc
      have h48 : 48 ≤ c := by
        have : ∀ c ∈ digs, 48 ≤ c := by decide +kernel
        exact this c hc
      have hb : numBody [some x, some (.int v), some (.str ⟨#[c]⟩)] = .nx [some x, some (.int ((v * 10 + (c - 48) : Nat) : Int)), some (.str ⟨#[c]⟩)] := by
        have e1 : sidxD "0123456789" (.str ⟨#[c]⟩) = .ok (.int ((c - 48 : Nat) : Int)) := by
          show (match Txt.index0 ("0123456789" : Str) ⟨#[c]⟩ with | some k => R.ok (D.int (k : Nat)) | none => .bad) = _
          rw [hx]
        have e2 : (10 : Int) * (v : Int) + ((c - 48 : Nat) : Int) = ((v * 10 + (c - 48) : Nat) : Int) := by omega
        unfold numBody
        simp only [ev_seq, ev_if, ev_B, ev_g2, ev_varS, ev_var0, ev_C, bind_ok, notIn_digs, decide_eq_true hc, Bool.not_true, ev_isB, ev_sNil, ev_set, ev_S1, e1, ev_mulI (.inl (by decide : smallI 10 = true)), ev_addI, e2]
        rfl
      rw [hstep, hb]
      rcases num_loop x cs (v * 10 + (c - 48)) (some (.str ⟨#[c]⟩)) with ⟨h1, h2⟩ | ⟨h1, h2⟩
      · exact .inl ⟨by unfold onlyB; rw [List.all_cons]; unfold onlyB at h1; rw [h1, Bool.and_false], h2⟩
      · exact .inr ⟨by unfold onlyB; rw [List.all_cons, decide_eq_true hc]; exact h1, h2⟩
    · have hb : numBody [some x, some (.int v), some (.str ⟨#[c]⟩)] = .rt (.int (-1)) [some x, some (.int v), some (.str ⟨#[c]⟩)] := by
        unfold numBody
        simp only [ev_seq, ev_if, ev_B, ev_g2, ev_varS, ev_var0, ev_C, bind_ok, notIn_digs, decide_eq_false hc, Bool.not_false, ev_isB, ev_ret, ev_g1, ev_neg]
      rw [hstep, hb]
      exact .inl ⟨by unfold onlyB; rw [List.all_cons, decide_eq_false hc]; rfl, _, rfl⟩
theorem law_number_eq {w : Str} (h : w.length ≤ big) : f__law_number [.str w] = .ok (.int (numI w)) := by
  unfold f__law_number runF g__law_number numI numB
  rw [show (sSeq (sIf (gB (g2 notInD (gVar 2) (gC (.str "0123456789")))) (sRet (g1 negD (gC (.int 1)))) sNil) (sSet 1 (g2 addD (g2 mulD (gC (.int 10)) (gVar 1)) (gS1 sidxD (gC (.str "0123456789")) (gVar 2))))) = numBody from rfl]
  by_cases h1 : 1 ≤ w.length
  · obtain ⟨c, r, hc, hx⟩ := first_eq h h1
    by_cases h2 : w.length ≤ 4
    · have a1 : ¬ ((w.length : Int) < 1) := by omega
      have a2 : ¬ ((4 : Int) < w.length) := by omega
      have hh : (tl w).head? = some c := by rw [hc]; rfl
      by_cases h5 : c = 48 ∧ 1 < w.length
      · obtain ⟨h3, h4⟩ := h5
        have a4 : ((1 : Int) < w.length) := by omega
        simp [ev_lenS h, h1, h2, a1, a2, hx, eq0_eq, hh, h3, h4, a4]
      · have hd : (decide ((tl w).head? = some 48) && decide (1 < w.length)) = false := by
          rw [hh]
          simp only [Option.some.injEq, Bool.and_eq_false_iff, decide_eq_false_iff_not]
          omega
        have ht : (tAndG (gB (g2 gtD (gCall (un lenD) (aCons (gVar 0) aNil)) (gC (.int 1)))) (gB (g2 eqD (g2 ixD (gVar 0) (gC (.int 0))) (gC (.str "0"))))) [some (.str w), none, none] = .ok false := by
          by_cases h4 : 1 < w.length
          · have a4 : ((1 : Int) < w.length) := by omega
            have h3 : c ≠ 48 := fun z => h5 ⟨z, h4⟩
            simp [ev_lenS h, hx, eq0_eq, h4, a4, h3]
          · have a4 : ¬ ((1 : Int) < w.length) := by omega
            simp [ev_lenS h, h4, a4]
        rcases num_loop (.str w) (tl w) 0 none with ⟨q1, e, q2⟩ | ⟨q1, o, q2⟩
        · have q2' : loopG (tgN 2) numBody (charsD w) [some (.str w), some (.int 0), none] = .rt (.int (-1)) e := q2
          simp [ev_lenS h, h1, h2, a1, a2, -ev_and, ht, hd, q1, q2']
        · have q2' : loopG (tgN 2) numBody (charsD w) [some (.str w), some (.int 0), none] = .nx [some (.str w), some (.int ((NumText.digitsVal (tl w) : Nat) : Int)), o] := q2
          simp [ev_lenS h, h1, h2, a1, a2, -ev_and, ht, hd, q1, q2']
    · have a1 : ¬ ((w.length : Int) < 1) := by omega
      have a2 : ((4 : Int) < w.length) := by omega
      simp [ev_lenS h, h1, h2, a1, a2]
  · have a1 : ((w.length : Int) < 1) := by omega
    simp [ev_lenS h, h1, a1]
end G72

set_option maxHeartbeats 4000000
/-! The plain law of k72: deeds read from words, and the law's own reading. -/
namespace G72
open PySem PySem.Spec PyProof.Rows L2 DL
open TL (tl)
theorem b0 : 0 < big := by decide
theorem b1 : 1 < big := by decide
theorem numI_neg {w : Str} : decide (numI w < 0) = !numB w := by
  unfold numI
  cases numB w with
  | true =>
    show decide (((NumText.digitsVal (tl w) : Nat) : Int) < 0) = false
    rw [decide_eq_false_iff_not]
    omega
  | false => rfl
theorem numI_ge {w : Str} : decide (0 ≤ numI w) = numB w := by
  unfold numI
  cases numB w with
  | true =>
    show decide (0 ≤ ((NumText.digitsVal (tl w) : Nat) : Int)) = true
    rw [decide_eq_true_iff]
    omega
  | false => rfl
theorem read_numbers_eq {a b : Str} (ha : a.length ≤ big) (hb : b.length ≤ big) : f_read_numbers [.lst [.str a, .str b]] = .ok (match numB a && numB b with | true => .lst [.int (numI a), .int (numI b)] | false => .non) := by
  unfold f_read_numbers runF g_read_numbers
  have na := numI_neg (w := a)
  have nb := numI_neg (w := b)
  cases h1 : numB a with
  | false => simp [loopG, tgN, read_number_eq ha, ev_szL, na, h1]
  | true =>
    cases h2 : numB b with
    | false => simp [loopG, tgN, read_number_eq ha, read_number_eq hb, ev_szL, na, nb, h1, h2, sApp, b0, b1]
    | true => simp [loopG, tgN, read_number_eq ha, read_number_eq hb, ev_szL, na, nb, h1, h2, sApp, b0, b1]
theorem read_names_eq (l : List Str) (hl : ∀ w ∈ l, w.length ≤ big) (h2 : l.length ≤ 1000) : f_read_names [.lst (l.map .str)] = .ok (match decide (1 ≤ l.length) && (decide (l.length ≤ 2) && l.all nameB) with | true => .tup (l.map .str) | false => .non) := by
  unfold f_read_names runF g_read_names
  match l, hl with
  | [], _ => simp [ev_szL]
  | [a], hl =>
    have ha := is_name_eq (hl a (by simp))
    cases h1 : nameB a with
    | true => simp [loopG, tgN, ha, h1]; rfl
    | false => simp [loopG, tgN, ha, h1]
  | [a, b], hl =>
    have ha := is_name_eq (hl a (by simp))
    have hb := is_name_eq (hl b (by simp))
    cases h1 : nameB a with
    | true =>
      cases h3 : nameB b with
      | true => simp [loopG, tgN, ha, hb, h1, h3]; rfl
      | false => simp [loopG, tgN, ha, hb, h1, h3]
    | false => simp [loopG, tgN, ha, h1]
  | a :: b :: c :: r, hl =>
    have e1 : ¬ ((r.length : Int) + 1 + 1 + 1 < 1) := by omega
    have e2 : ((2 : Int) < (r.length : Int) + 1 + 1 + 1) := by omega
    simp [e1, e2]
def cuts : List Str := ["cut", "open"]
def books : List Str := ["print", "scrap", "lend", "return"]
/-- the deed that the words k, r tell -/
def formD (k : Str) (r : List Str) : D :=
  if k = "seat" ∧ r = [] then .tup [.str "seat"]
  else if k ∈ cuts ∧ r.length = 2 then (match r with
    | [a, b] => (match numB a && numB b with | true => .tup [.str k, .int (numI a), .int (numI b)] | false => .non)
    | _ => .non)
  else if k ∈ books then (match decide (1 ≤ r.length) && (decide (r.length ≤ 2) && r.all nameB) with | true => .tup [.str k, .tup (r.map .str)] | false => .non)
  else .non
theorem read_form_eq (k : Str) (r : List Str) (hl : ∀ w ∈ r, w.length ≤ big) (h2 : r.length ≤ 1000) : f_read_form [.lst ((k :: r).map .str)] = .ok (formD k r) := by
  have hix : ixD (.lst ((k :: r).map .str)) (.int 0) = .ok (.str k) := by
    show (match atI (D.str k :: r.map D.str) 0 with | some d => R.ok d | none => .bad) = _
    rw [atI_zero]
  have hcut : inD (.str k) (.tup [.str "cut", .str "open"]) = .ok (.bl (decide (k ∈ cuts))) := inT_str k cuts
  have hbook : inD (.str k) (.tup [.str "print", .str "scrap", .str "lend", .str "return"]) = .ok (.bl (decide (k ∈ books))) := inT_str k books
  have hdrop : slD (.lst ((k :: r).map .str)) (some 1) none = .ok (.lst (r.map .str)) := slL_1 _
  have hlen : lenD (.lst ((k :: r).map .str)) = .ok (.int ((r.length : Int) + 1)) := by simp
  have l1 : ((r.length : Int) + 1 = 1) ↔ r = [] := by
    cases r with
    | nil => simp
    | cons a r => simp; omega
  have l3 : ((r.length : Int) + 1 = 3) ↔ r.length = 2 := by omega
  unfold f_read_form runF g_read_form formD
  generalize hW : D.lst ((k :: r).map .str) = W at hix hdrop hlen
  by_cases c1 : k = "seat"
  · by_cases c2 : r = []
    · simp [hix, hlen, l1, c1, c2, ev_szL (show [D.str "seat"].length ≤ big from by decide)]
    · have n1 : ("seat" : Str) ∉ cuts := by decide
      have n2 : ("seat" : Str) ∉ books := by decide
      subst c1
      simp [hix, hlen, l1, c2, hcut, hbook, n1, n2]
  · by_cases c3 : k ∈ cuts
    · have n2 : k ∉ books := by
        intro z
        have : ∀ k ∈ cuts, k ∉ books := by decide
        exact this k c3 z
      by_cases c4 : r.length = 2
      · match r, c4, hl with
        | [a, b], _, hl =>
          have hr := read_numbers_eq (hl a (by simp)) (hl b (by simp))
          have z2 : ∀ (x y z : D), [x, y, z].length ≤ big := fun _ _ _ => Nat.le_of_ble_eq_true rfl
          have i0 : ∀ (x y : D), ixD (.lst [x, y]) (.int 0) = .ok x := fun x y => rfl
          have i1 : ∀ (x y : D), ixD (.lst [x, y]) (.int 1) = .ok y := fun x y => rfl
          have hd : D.lst (([a, b] : List Str).map D.str) = .lst [.str a, .str b] := rfl
          rw [hd] at hdrop
          cases h1 : (numB a && numB b) with
          | true =>
            rw [h1] at hr
            simp [hix, hlen, c1, c3, hcut, hbook, n2, hdrop, hr, h1, i0, i1, ev_szL (z2 _ _ _)]
          | false =>
            rw [h1] at hr
            simp [hix, hlen, c1, c3, hcut, hbook, n2, hdrop, hr, h1]
      · simp [hix, hlen, l3, c1, c3, c4, hcut, hbook, n2]
    · by_cases c5 : k ∈ books
      · have hr := read_names_eq r hl h2
        have z2 : ∀ (x y : D), [x, y].length ≤ big := fun _ _ => Nat.le_of_ble_eq_true rfl
        cases h1 : (decide (1 ≤ r.length) && (decide (r.length ≤ 2) && r.all nameB)) with
        | true =>
          rw [h1] at hr
          simp [hix, hlen, c1, c3, c5, hcut, hbook, hdrop, hr, ev_szL (z2 _ _), h1]
        | false =>
          rw [h1] at hr
          simp [hix, hlen, c1, c3, c5, hcut, hbook, hdrop, hr, h1]
      · simp [hix, hlen, c1, c3, c5, hcut, hbook]
/-! ### texts and their words -/
structure TextOk (t : Str) : Prop where
  len : t.length ≤ 1000
  chr : ∀ c ∈ tl t, c < 1114112
theorem mem_joinL {sep : List Nat} : ∀ {l : List (List Nat)} {w : List Nat} {c : Nat}, w ∈ l → c ∈ w → c ∈ TL.joinL sep l
  | [x], w, c, hw, hc => by
    simp at hw; subst hw; exact hc
  | x :: y :: l, w, c, hw, hc => by
    rcases List.mem_cons.mp hw with rfl | hw
    · simp [TL.joinL, hc]
    · have := mem_joinL (sep := sep) hw hc
      simp [TL.joinL, this]
theorem le_sum : ∀ {l : List Nat} {n : Nat}, n ∈ l → n ≤ l.sum
  | x :: l, n, h => by
    rw [List.sum_cons]
    rcases List.mem_cons.mp h with rfl | h
    · omega
    · have := le_sum h
      omega
structure WordsOk (t k : Str) (r : List Str) : Prop where
  eq : Txt.split t " " = k :: r
  join : Txt.join " " (k :: r) = t
  len : ∀ w ∈ k :: r, w.length ≤ t.length
  num : r.length ≤ t.length
  ok : ∀ w ∈ k :: r, PyData.strOk w = true
theorem words_of {t : Str} (h : TextOk t) : ∃ k r, WordsOk t k r := by
  have hp := split_pos t " "
  have hw := split_weight t " " (by decide)
  have hj := PySem.StrLaws.join_split t " "
  cases e : Txt.split t " " with
  | nil => rw [e] at hp; simp at hp
  | cons k r =>
    rw [e] at hw hj
    refine ⟨k, r, e, ?_, ?_, ?_, ?_⟩
    · rw [TL.join_eq]; exact hj
    · intro w hm
      have : w.length ≤ ((k :: r).map (·.length)).sum := by
        have hm2 : w.length ∈ (k :: r).map (·.length) := List.mem_map.mpr ⟨w, hm, rfl⟩
        exact le_sum hm2
      simp only [List.length_cons] at hw
      omega
    · simp only [List.length_cons] at hw
      omega
    · intro w hm
      unfold PyData.strOk
      rw [← Array.all_toList, List.all_eq_true]
      intro c hc
      refine decide_eq_true (h.chr c ?_)
      rw [← hj, TL.tl_join]
      exact mem_joinL (List.mem_map.mpr ⟨w, hm, rfl⟩) hc
def deedW (t : Str) : D := match Txt.split t " " with
  | [] => .non
  | k :: r => formD k r
theorem deedW_eq {t k : Str} {r : List Str} (w : WordsOk t k r) : deedW t = formD k r := by
  unfold deedW
  rw [w.eq]
def toldD (t : Str) : D := match deedW t with
  | .tup l => .tup [.str "deed", .tup l]
  | _ => .tup [.str "bad", .str t]
theorem formD_cases (k : Str) (r : List Str) : formD k r = .non ∨ ∃ l, formD k r = .tup l := by
  unfold formD
  split
  · exact .inr ⟨_, rfl⟩
  · split
    · split
      · split
        · exact .inr ⟨_, rfl⟩
        · exact .inl rfl
      · exact .inl rfl
    · split
      · split
        · exact .inr ⟨_, rfl⟩
        · exact .inl rfl
      · exact .inl rfl
theorem split_eq {t k : Str} {r : List Str} (h : TextOk t) (w : WordsOk t k r) : splitD t (.str " ") = .ok (.lst ((k :: r).map .str)) := by
  have e : splitD t (.str " ") = chk (decide ((((" " : Str)).length == 0) = false ∧ t.length + 2 ≤ big)) (R.ok (.lst ((Txt.split t " ").map .str))) := rfl
  rw [e, chk_of _ ⟨by decide, Nat.le_trans (Nat.add_le_add_right h.len 2) (by decide)⟩, w.eq]
theorem le_big {n : Nat} (h : n ≤ 1000) : n ≤ big := Nat.le_trans h (by decide)
theorem read_deed_eq {t k : Str} {r : List Str} (h : TextOk t) (w : WordsOk t k r) : f_read_deed [.str t] = match formD k r with | .non => .exc ⟨3, [("text", .str t)]⟩ | d => .ok d := by
  have hf := read_form_eq k r (fun x hx => le_big (Nat.le_trans (w.len x (List.mem_cons_of_mem _ hx)) h.len)) (Nat.le_trans w.num h.len)
  have hs := split_eq h w
  simp only [List.map_cons] at hf hs
  unfold f_read_deed runF g_read_deed
  rcases formD_cases k r with e | ⟨l, e⟩
  · rw [e] at hf ⊢
    simp [hs, hf]
  · rw [e] at hf ⊢
    simp [hs, hf]
theorem told_eq {t : Str} (h : TextOk t) : f__law_told [.str t] = .ok (toldD t) := by
  obtain ⟨k, r, w⟩ := words_of h
  have hr := read_deed_eq h w
  have z2 : ∀ (x y : D), [x, y].length ≤ big := fun _ _ => Nat.le_of_ble_eq_true rfl
  unfold f__law_told runF g__law_told toldD
  rw [deedW_eq w]
  rcases formD_cases k r with e | ⟨l, e⟩
  · rw [e] at hr ⊢
    simp [sTry, hr, tb__law_told_0, Fl.unset, gIsX, tb__law_told_3, tb__law_told_2, tb__law_told_1, gXf, okX__law_told_4, ev_szL (z2 _ _)]
  · rw [e] at hr ⊢
    simp [sTry, hr, ev_szL (z2 _ _)]
end G72

set_option maxHeartbeats 4000000
/-! The plain law of k72: the law's own reading is the program's. -/
namespace G72
open PySem PySem.Spec PyProof.Rows L2 DL
open TL (tl)
theorem lc_names (r : List Str) (hl : ∀ w ∈ r, w.length ≤ big) (h2 : r.length ≤ 1000) (x y : Option D) : lcLoop [x, y, none] (tgN 2) (tNotG (gB (gCall f__law_is_name (aCons (gVar 2) aNil)))) (gVar 2) (r.map .str) [] = .ok (.lst ((r.filter fun w => !nameB w).map .str)) := by
  have h := lc_eq (i := 2) (env := [x, y, none]) (test := tNotG (gB (gCall f__law_is_name (aCons (gVar 2) aNil)))) (elt := gVar 2) (fun d => match d with | .str w => !nameB w | _ => false) id (ds := r.map .str) (acc := [])
    (fun d hd => by
      obtain ⟨w, hw, rfl⟩ := List.mem_map.mp hd
      have hn := law_is_name_eq (hl w hw)
      simp [hn]) (fun d hd _ => by
      obtain ⟨w, hw, rfl⟩ := List.mem_map.mp hd
      simp) (by
      rw [List.length_map]
      exact Nat.le_trans (by simpa using h2) (by decide : 1000 ≤ big))
  rw [h, List.map_id, List.nil_append, List.filter_map]
  rfl
theorem due_eq {t : Str} (h : TextOk t) : f__law_due [.str t] = .ok (toldD t) := by
  obtain ⟨k, r, w⟩ := words_of h
  have hs := split_eq h w
  have hl : ∀ x ∈ r, x.length ≤ big := fun x hx => le_big (Nat.le_trans (w.len x (List.mem_cons_of_mem _ hx)) h.len)
  have h2 : r.length ≤ 1000 := Nat.le_trans w.num h.len
  have heq : eqD (.lst ((k :: r).map .str)) (.lst [.str "seat"]) = .ok (.bl (decide (k :: r = [("seat" : Str)]))) := eqL_strs (k :: r) ["seat"] w.ok (by decide +kernel)
  have hix : ixD (.lst ((k :: r).map .str)) (.int 0) = .ok (.str k) := by
    show (match atI (D.str k :: r.map D.str) 0 with | some d => R.ok d | none => .bad) = _
    rw [atI_zero]
  have hcut : inD (.str k) (.lst [.str "cut", .str "open"]) = .ok (.bl (decide (k ∈ cuts))) := inL_str k cuts
  have hbook : inD (.str k) (.lst [.str "print", .str "scrap", .str "lend", .str "return"]) = .ok (.bl (decide (k ∈ books))) := inL_str k books
  have hdrop : slD (.lst ((k :: r).map .str)) (some 1) none = .ok (.lst (r.map .str)) := slL_1 _
  have hlen : lenD (.lst ((k :: r).map .str)) = .ok (.int ((r.length : Int) + 1)) := by simp
  have hin2 : inD (.int ((r.length : Int) + 1)) (.lst [.int 2, .int 3]) = .ok (.bl (decide (r.length = 1 ∨ r.length = 2))) := by
    have := inL_int ((r.length : Int) + 1) [2, 3]
    rw [show ([2, 3] : List Int).map D.int = [.int 2, .int 3] from rfl] at this
    rw [this]
    congr 2
    simp only [List.mem_cons, List.not_mem_nil, or_false]
    congr 1
    apply propext
    omega
  have l3 : ((r.length : Int) + 1 = 3) ↔ r.length = 2 := by omega
  have hlc := lc_names r hl h2
  unfold f__law_due runF g__law_due toldD
  rw [deedW_eq w]
  unfold formD
  generalize hW : D.lst ((k :: r).map .str) = W at hs hix hdrop hlen heq
  by_cases c0 : k = "seat" ∧ r = []
  · obtain ⟨c1, c2⟩ := c0
    simp [hs, heq, c1, c2]
  · have c0' : ¬ (k :: r = [("seat" : Str)]) := by
      intro z
      simp only [List.cons.injEq] at z
      exact c0 z
    by_cases c3 : k ∈ cuts
    · have n2 : k ∉ books := by
        intro z
        have : ∀ k ∈ cuts, k ∉ books := by decide
        exact this k c3 z
      by_cases c4 : r.length = 2
      · match r, c4, hl with
        | [a, b], _, hl =>
          have na := numI_ge (w := a)
          have nb := numI_ge (w := b)
          have ra := law_number_eq (hl a (by simp))
          have rb := law_number_eq (hl b (by simp))
          have i1 : ixD W (.int 1) = .ok (.str a) := by rw [← hW]; rfl
          have i2 : ixD W (.int 2) = .ok (.str b) := by rw [← hW]; rfl
          cases h1 : numB a with
          | true =>
            cases h3 : numB b with
            | true => simp [hs, heq, hix, i1, i2, hlen, c3, hcut, ra, rb, na, nb, h1, h3, c0]
            | false => simp [hs, heq, hix, i1, i2, hlen, c3, hcut, hbook, n2, ra, rb, na, nb, h1, h3, c0]
          | false => simp [hs, heq, hix, i1, i2, hlen, c3, hcut, hbook, n2, ra, rb, na, nb, h1, c0]
      · simp [hs, heq, hix, hlen, l3, c3, c4, hcut, hbook, n2, c0]
    · by_cases c5 : k ∈ books
      · by_cases c6 : r.length = 1 ∨ r.length = 2
        · have hf : (decide (1 ≤ r.length) && (decide (r.length ≤ 2) && r.all nameB)) = r.all nameB := by
            rw [decide_eq_true (by omega), decide_eq_true (by omega)]; rfl
          have hz : (((r.filter fun w => !nameB w).map D.str).length : Int) = 0 ↔ r.all nameB = true := by
            rw [List.length_map]
            constructor
            · intro z
              have z' : (r.filter fun w => !nameB w) = [] := List.eq_nil_of_length_eq_zero (by omega)
              rw [List.filter_eq_nil_iff] at z'
              rw [List.all_eq_true]
              intro x hx
              have := z' x hx
              simpa using this
            · intro z
              have : (r.filter fun w => !nameB w) = [] := by
                rw [List.filter_eq_nil_iff]
                intro x hx
                rw [List.all_eq_true.mp z x hx]
                simp
              rw [this]
              rfl
          have ht : tupleD (.lst (r.map .str)) = .ok (.tup (r.map .str)) := rfl
          have hwipe : wipeE [some (.str t), some W, none] [2] = [some (.str t), some W, none] := rfl
          rw [hf]
          have hg : gLc [2] (iSeq (gSl (gVar 1) (pSome (gC (.int 1))) pNone)) (tgN 2) (tNotG (gB (gCall f__law_is_name (aCons (gVar 2) aNil)))) (gVar 2) [some (.str t), some W, none] = .ok (.lst ((r.filter fun w => !nameB w).map .str)) := by
            unfold gLc
            simp [-ev_not, hdrop, hwipe, hlc]
          cases h1 : r.all nameB with
          | true =>
            have hz' := hz.mpr h1
            have hz2 : eqD (.int ((((r.filter fun w => !nameB w).map D.str).length : Nat) : Int)) (.int 0) = .ok (.bl true) := by rw [ev_eqI, decide_eq_true hz']
            simp [-List.length_map, hs, heq, hix, hlen, c3, c5, c6, hcut, hbook, hin2, c0, hg, hz2, hdrop, ht, h1, -ev_eqI]
          | false =>
            have hz' : ¬ ((((r.filter fun w => !nameB w).map D.str).length : Int) = 0) := fun z => by rw [hz.mp z] at h1; cases h1
            have hz2 : eqD (.int ((((r.filter fun w => !nameB w).map D.str).length : Nat) : Int)) (.int 0) = .ok (.bl false) := by rw [ev_eqI, decide_eq_false hz']
            simp [-List.length_map, hs, heq, hix, hlen, c3, c5, c6, hcut, hbook, hin2, c0, hg, hz2, hdrop, ht, h1, -ev_eqI]
        · have hf : (decide (1 ≤ r.length) && (decide (r.length ≤ 2) && r.all nameB)) = false := by
            by_cases q : 1 ≤ r.length
            · rw [decide_eq_false (show ¬ r.length ≤ 2 by omega)]; simp
            · rw [decide_eq_false q]; simp
          rw [hf]
          simp [hs, heq, hix, hlen, c3, c5, c6, hcut, hbook, hin2, c0]
      · simp [hs, heq, hix, hlen, c3, c5, hcut, hbook, c0]
end G72

set_option maxHeartbeats 4000000
/-! The plain law of k72: equal data, deeds written. -/
namespace G72
open PySem PySem.Spec PyProof.Rows L2 DL
open TL (tl)
/-! ### equal data -/
theorem is_tl_tup (ds : List D) : isiD (.tup ds) (.tup [.ty "tuple", .ty "list"]) = .ok (.bl true) := by rfl
theorem is_t_tup (ds : List D) : isiD (.tup ds) (.ty "tuple") = .ok (.bl true) := by rfl
theorem is_l_tup (ds : List D) : isiD (.tup ds) (.ty "list") = .ok (.bl false) := by rfl
theorem is_tl_str (x : Str) : isiD (.str x) (.tup [.ty "tuple", .ty "list"]) = .ok (.bl false) := by rfl
theorem is_b_str (x : Str) : isiD (.str x) (.ty "bool") = .ok (.bl false) := by rfl
theorem is_i_str (x : Str) : isiD (.str x) (.ty "int") = .ok (.bl false) := by rfl
theorem is_s_str (x : Str) : isiD (.str x) (.ty "str") = .ok (.bl true) := by rfl
theorem is_tl_int (x : Int) : isiD (.int x) (.tup [.ty "tuple", .ty "list"]) = .ok (.bl false) := by rfl
theorem is_b_int (x : Int) : isiD (.int x) (.ty "bool") = .ok (.bl false) := by rfl
theorem is_i_int (x : Int) : isiD (.int x) (.ty "int") = .ok (.bl true) := by rfl
theorem same_str (fu : Nat) (x : Str) : f__law_same (fu + 1) [.str x, .str x] = .ok (.bl true) := by
  unfold f__law_same runF g__law_same
  simp [is_tl_str, is_b_str, is_i_str, is_s_str]
theorem same_int (fu : Nat) (x : Int) : f__law_same (fu + 1) [.int x, .int x] = .ok (.bl true) := by
  unfold f__law_same runF g__law_same
  simp [is_tl_int, is_b_int, is_i_int]
theorem ixT_nat {ds : List D} {i : Nat} {d : D} (h : ds[i]? = some d) : ixD (.tup ds) (.int (i : Int)) = .ok d := by
  show (match atI ds (i : Int) with | some d => R.ok d | none => .bad) = _
  rw [DL.atI_nat h]
def sameBody (rec : List D → R D) : GS := sIf (tNotG (gB (gCall rec (aCons (g2 ixD (gVar 0) (gVar 2)) (aCons (g2 ixD (gVar 1) (gVar 2)) aNil))))) (sRet (gC (.bl false))) sNil
theorem same_step (rec : List D → R D) (ds : List D) (k : Nat) (d : D) (e : ds[k]? = some d) (hs : rec [d, d] = .ok (.bl true)) : sameBody rec [some (.tup ds), some (.tup ds), some (.int (k : Int))] = .nx [some (.tup ds), some (.tup ds), some (.int (k : Int))] := by
  have hx := ixT_nat e
  unfold sameBody
  simp [hx, hs]
theorem same_loop (rec : List D → R D) (ds : List D) (h : ∀ d ∈ ds, rec [d, d] = .ok (.bl true)) : ∃ e, loopG (tgN 2) (sameBody rec) (rngL 0 ds.length) [some (.tup ds), some (.tup ds), none] = .nx e := by
  have hloop := loop_chk (i := 2) (body := sameBody rec) (res := .bl false) (fun _ => false) (env := [some (.tup ds), some (.tup ds), none]) (ds := rngL 0 ds.length)
    (fun d hd => by
      obtain ⟨k, hk, rfl⟩ := List.mem_map.mp hd
      rw [List.mem_range] at hk
      have e : ds[k]? = some ds[k] := List.getElem?_eq_getElem hk
      rw [Int.zero_add]
      exact same_step rec ds k _ e (h _ (List.getElem_mem hk))) _ (.inl rfl)
  rcases hloop with ⟨h1, _⟩ | ⟨_, e, h2, _⟩
  · simp at h1
  · exact ⟨e, h2⟩
theorem same_for (rec : List D → R D) (ds : List D) (hl : ds.length < 1000) (h : ∀ d ∈ ds, rec [d, d] = .ok (.bl true)) : ∃ e, sFor (iArg rng1D (aCons (gCall (un lenD) (aCons (gVar 1) aNil)) aNil)) (tgN 2) (sameBody rec) [some (.tup ds), some (.tup ds), none] = .nx e := by
  obtain ⟨e, he⟩ := same_loop rec ds h
  have hr : rng1D [.int (ds.length : Int)] = .ok (rngL 0 ds.length) := by
    rw [ev_rng (by omega)]
    rfl
  have h1 : iArg rng1D (aCons (gCall (un lenD) (aCons (gVar 1) aNil)) aNil) [some (.tup ds), some (.tup ds), none] = .ok (rngL 0 ds.length) := by
    rw [ev_iArg]
    have h2 : aCons (gCall (un lenD) (aCons (gVar 1) aNil)) aNil [some (.tup ds), some (.tup ds), none] = .ok [.int (ds.length : Int)] := by simp
    rw [h2, bind_ok, hr]
  refine ⟨e, ?_⟩
  rw [ev_for, h1]
  exact he
def sEnv (ds : List D) : Dv := [some (.tup ds), some (.tup ds), none]
theorem same_c1 (ds : List D) : gB (gCall (bi isiD) (aCons (gVar 1) (aCons (DL.gTup (aCons (gC (.ty "tuple")) (aCons (gC (.ty "list")) aNil))) aNil))) (sEnv ds) = .ok true := by
  unfold sEnv
  simp [is_tl_tup]
theorem same_c2 (ds : List D) : (tOrG (gB (g2 neD (gCall (bi isiD) (aCons (gVar 1) (aCons (gC (.ty "tuple")) aNil))) (gCall (bi isiD) (aCons (gVar 0) (aCons (gC (.ty "tuple")) aNil))))) (gB (g2 neD (gCall (bi isiD) (aCons (gVar 1) (aCons (gC (.ty "list")) aNil))) (gCall (bi isiD) (aCons (gVar 0) (aCons (gC (.ty "list")) aNil)))))) (sEnv ds) = .ok false := by
  unfold sEnv
  simp [is_t_tup, is_l_tup]
theorem same_c3 (ds : List D) : (gB (g2 neD (gCall (un lenD) (aCons (gVar 0) aNil)) (gCall (un lenD) (aCons (gVar 1) aNil)))) (sEnv ds) = .ok false := by
  unfold sEnv
  simp
theorem same_gen (rec : List D → R D) (ds : List D) (hl : ds.length < 1000) (h : ∀ d ∈ ds, rec [d, d] = .ok (.bl true)) : runF 3 2 (g__law_same rec) [.tup ds, .tup ds] = .ok (.bl true) := by
  obtain ⟨e, he⟩ := same_for rec ds hl h
  have he : sFor (iArg rng1D (aCons (gCall (un lenD) (aCons (gVar 1) aNil)) aNil)) (tgN 2) (sameBody rec) (sEnv ds) = .nx e := he
  have hg : g__law_same rec (sEnv ds) = .rt (.bl true) e := by
    unfold g__law_same
    exact seq_rt ((if_t (same_c1 ds)).trans ((seq_nx ((if_f (same_c2 ds)).trans (ev_sNil _))).trans ((seq_nx ((if_f (same_c3 ds)).trans (ev_sNil _))).trans ((seq_nx he).trans (ret_ok (ev_C _ _))))))
  exact run_rt rfl hg
theorem same_tup (fu : Nat) (ds : List D) (hl : ds.length < 1000) (h : ∀ d ∈ ds, f__law_same fu [d, d] = .ok (.bl true)) : f__law_same (fu + 1) [.tup ds, .tup ds] = .ok (.bl true) := same_gen (f__law_same fu) ds hl h
/-! ### numbers written -/
theorem snoc_ind {P : List Nat → Prop} (h0 : P []) (h1 : ∀ l c, P l → P (l ++ [c])) : ∀ l, P l := by
  intro l
  rw [← List.reverse_reverse l]
  induction l.reverse with
  | nil => exact h0
  | cons c l ih => rw [List.reverse_cons]; exact h1 _ _ ih
theorem val_snoc (l : List Nat) (c : Nat) : NumText.digitsVal (l ++ [c]) = NumText.digitsVal l * 10 + (c - 48) := by
  unfold NumText.digitsVal
  rw [List.foldl_append]
  rfl
theorem numL_back : ∀ l : List Nat, NumText.AllDigits l → (∀ c r, l = c :: r → c = 48 → r = []) → l ≠ [] → TL.numL (NumText.digitsVal l) = l ∧ (l.head? ≠ some 48 → 1 ≤ NumText.digitsVal l) := by
  refine snoc_ind (P := fun l => NumText.AllDigits l → (∀ c r, l = c :: r → c = 48 → r = []) → l ≠ [] → TL.numL (NumText.digitsVal l) = l ∧ (l.head? ≠ some 48 → 1 ≤ NumText.digitsVal l)) (fun _ _ h => absurd rfl h) (fun l c ih hd hz _ => ?_)
  have hc : 48 ≤ c ∧ c ≤ 57 := hd c (by simp)
  cases l with
  | nil =>
    rw [val_snoc]
    have e : NumText.digitsVal [] * 10 + (c - 48) = c - 48 := by
      show 0 * 10 + (c - 48) = c - 48
      omega
    rw [e]
    refine ⟨?_, fun h => ?_⟩
    · rw [TL.numL_lt (by omega)]
      simp only [List.nil_append, List.cons.injEq, and_true]
      omega
    · have : c ≠ 48 := fun z => h (by rw [z]; rfl)
      omega
  | cons d r =>
    have hd48 : d ≠ 48 := by
      intro z
      have := hz d (r ++ [c]) rfl z
      simp at this
    obtain ⟨h1, h2⟩ := ih (fun x hx => hd x (List.mem_append_left _ hx)) (fun c' r' e z => by
      simp only [List.cons.injEq] at e
      exact absurd (e.1.trans z) hd48) (List.cons_ne_nil _ _)
    have h3 := h2 (by simp [hd48])
    rw [val_snoc]
    refine ⟨?_, fun _ => by omega⟩
    rw [TL.numL_step (by omega)]
    have e1 : (NumText.digitsVal (d :: r) * 10 + (c - 48)) / 10 = NumText.digitsVal (d :: r) := by omega
    have e2 : 48 + (NumText.digitsVal (d :: r) * 10 + (c - 48)) % 10 = c := by omega
    rw [e1, e2, h1]
theorem val_lt : ∀ l : List Nat, NumText.AllDigits l → NumText.digitsVal l < 10 ^ l.length := by
  refine snoc_ind (P := fun l => NumText.AllDigits l → NumText.digitsVal l < 10 ^ l.length) (fun _ => by decide) (fun l c ih hd => ?_)
  have hc : 48 ≤ c ∧ c ≤ 57 := hd c (by simp)
  have h1 := ih (fun x hx => hd x (List.mem_append_left _ hx))
  rw [val_snoc, List.length_append, List.length_singleton, Nat.pow_succ]
  omega
theorem small_pow {n : Nat} (h : n < 10 ^ 5) : n < 2 ^ 1900 := Nat.lt_of_lt_of_le (Nat.lt_of_lt_of_le h (by decide : 10 ^ 5 ≤ 2 ^ 64)) (Nat.pow_le_pow_right (by decide) (by decide))
theorem num_back {w : Str} (h : numB w = true) : strD (.int (numI w)) = .ok (.str w) := by
  have e : numI w = ((NumText.digitsVal (tl w) : Nat) : Int) := by unfold numI; rw [h]
  unfold numB at h
  simp only [Bool.and_eq_true, decide_eq_true_eq, Bool.not_eq_true', Bool.and_eq_false_iff, decide_eq_false_iff_not] at h
  obtain ⟨h1, h2, h3, h4⟩ := h
  have hl := TL.len_tl w
  have hd := digs_all h3
  have hne : tl w ≠ [] := by
    intro z
    rw [z] at hl
    simp at hl
    omega
  obtain ⟨hb, _⟩ := numL_back (tl w) hd (fun c r e z => by
    rcases h4 with h4 | h4
    · rw [e, z] at h4
      exact absurd rfl h4
    · rw [e, List.length_cons] at hl
      exact List.eq_nil_of_length_eq_zero (by omega)) hne
  rw [e]
  have hs : Str.ofString (toString ((NumText.digitsVal (tl w) : Nat) : Int)) = w := TL.ext_tl (by rw [TL.tl_num]; exact hb)
  have hlen : NumText.digitsVal (tl w) < 10 ^ 5 := by
    have := val_lt (tl w) hd
    exact Nat.lt_of_lt_of_le this (Nat.le_trans (Nat.pow_le_pow_right (by decide) (show (tl w).length ≤ 4 by omega)) (by decide))
  show chk (decide ((((NumText.digitsVal (tl w) : Nat) : Int)).natAbs < 2 ^ 1900)) (R.ok (D.str (Str.ofString (toString ((NumText.digitsVal (tl w) : Nat) : Int))))) = _
  rw [hs, chk_of]
  rw [Int.natAbs_natCast]
  exact small_pow hlen
/-! ### deeds written -/
theorem joinOf_eq {sep : Str} {l : List Str} {t : Str} (hj : Txt.join sep l = t) (h1 : (l.map (·.length)).sum + l.length * sep.length ≤ big) : joinD sep (.lst (l.map .str)) = .ok (.str t) := by
  show (match strs? (l.map D.str) with
    | some ys => chk (decide ((List.map (fun (y : Str) => y.length) ys).sum + ys.length * sep.length ≤ big)) (R.ok (D.str (Txt.join sep ys)))
    | none => R.bad) = _
  rw [DL.strs_map]
  show chk _ _ = _
  rw [chk_of _ h1, hj]
structure WordsLen (t k : Str) (r : List Str) : Prop where
  sum : ((k :: r).map (·.length)).sum + (k :: r).length ≤ t.length + 1
theorem words_sum {t k : Str} {r : List Str} (w : WordsOk t k r) : ((k :: r).map (·.length)).sum + (k :: r).length ≤ t.length + 1 := by
  have hw := split_weight t " " (by decide)
  rw [w.eq] at hw
  exact hw
theorem write_eq {t k : Str} {r : List Str} (h : TextOk t) (w : WordsOk t k r) {l : List D} (hf : formD k r = .tup l) : f_write_deed [.tup l] = .ok (.str t) := by
  have hs := words_sum w
  have hl := h.len
  have hbig : ((k :: r).map (·.length)).sum + (k :: r).length * ((" " : Str)).length ≤ big := by
    have e : ((" " : Str)).length = 1 := rfl
    rw [e, Nat.mul_one]
    exact Nat.le_trans hs (Nat.le_trans (Nat.add_le_add_right hl 1) (by decide))
  have hj := joinOf_eq w.join hbig
  have hcut : inD (.str k) (.tup [.str "cut", .str "open"]) = .ok (.bl (decide (k ∈ cuts))) := inT_str k cuts
  have hbook : inD (.str k) (.tup [.str "print", .str "scrap", .str "lend", .str "return"]) = .ok (.bl (decide (k ∈ books))) := inT_str k books
  unfold formD at hf
  unfold f_write_deed
  split at hf
  · rename_i c
    obtain ⟨c1, c2⟩ := c
    cases hf
    subst c1 c2
    have ht : t = "seat" := by
      have e := w.join
      rw [← e]
      rfl
    have hx : ixD (.tup [.str "seat"]) (.int 0) = .ok (.str "seat") := rfl
    have n1 : ("seat" : Str) ∉ cuts := by decide
    have n2 : ("seat" : Str) ∉ books := by decide
    rw [decide_eq_false n1] at hcut
    rw [decide_eq_false n2] at hbook
    refine run_rt rfl ?_ (e := [some (.tup [.str "seat"]), some (.str "seat")])
    unfold g_write_deed
    simp [hx, hcut, hbook, ht]
  · split at hf
    · rename_i c
      obtain ⟨c1, c2⟩ := c
      rw [decide_eq_true c1] at hcut
      match r, c2, hf, hj with
      | [a, b], _, hf, hj =>
        have hf : (match numB a && numB b with | true => D.tup [D.str k, D.int (numI a), D.int (numI b)] | false => D.non) = .tup l := hf
        cases ha : numB a with
        | false => rw [ha] at hf; cases hf
        | true =>
          cases hb : numB b with
          | false => rw [ha, hb] at hf; cases hf
          | true =>
            rw [ha, hb] at hf
            cases hf
            have h0 : ixD (.tup [.str k, .int (numI a), .int (numI b)]) (.int 0) = .ok (.str k) := rfl
            have h1 : ixD (.tup [.str k, .int (numI a), .int (numI b)]) (.int 1) = .ok (.int (numI a)) := rfl
            have h2 : ixD (.tup [.str k, .int (numI a), .int (numI b)]) (.int 2) = .ok (.int (numI b)) := rfl
            have hj : joinD " " (.lst [.str k, .str a, .str b]) = .ok (.str t) := hj
            refine run_rt rfl ?_ (e := [some (.tup [.str k, .int (numI a), .int (numI b)]), some (.str k)])
            unfold g_write_deed
            simp [h0, h1, h2, hcut, num_back ha, num_back hb, hj]
    · split at hf
      · rename_i c1 c2
        have n1 : k ∉ cuts := by
          intro z
          have : ∀ k ∈ books, k ∉ cuts := by decide
          exact this k c2 z
        rw [decide_eq_true c2] at hbook
        rw [decide_eq_false n1] at hcut
        split at hf
        · cases hf
          have h0 : ixD (.tup [.str k, .tup (r.map .str)]) (.int 0) = .ok (.str k) := rfl
          have h1 : ixD (.tup [.str k, .tup (r.map .str)]) (.int 1) = .ok (.tup (r.map .str)) := rfl
          have h2 : listD (.tup (r.map .str)) = .ok (.lst (r.map .str)) := rfl
          have h3 : addD (.lst [.str k]) (.lst (r.map .str)) = .ok (.lst ((k :: r).map .str)) := by
            show chk (decide ([D.str k].length + (r.map D.str).length ≤ big)) (R.ok (D.lst ([D.str k] ++ r.map D.str))) = _
            rw [chk_of]
            · rfl
            · rw [List.length_map, List.length_singleton]
              have := w.num
              exact Nat.le_trans (show 1 + r.length ≤ 1001 by omega) (by decide)
          refine run_rt rfl ?_ (e := [some (.tup [.str k, .tup (r.map .str)]), some (.str k)])
          unfold g_write_deed
          simp only [List.map_cons] at h3 hj
          simp [h0, h1, h2, h3, hcut, hbook, hj]
        · cases hf
      · cases hf
end G72

set_option maxHeartbeats 4000000
/-! The plain law of k72: draws. -/
namespace G72
open PySem PySem.Spec PyProof.Rows L2 DL
open TL (tl)
def dEnv (ns : List Int) (place : Int) (many : Nat) (base rest : Int) (row : List Int) (o : Option D) : Dv := [some (.scr ns), some (.int place), some (.int many), some (.int base), some (.int rest), some (.lst (row.map .int)), o]
def bodyA : GS := sSeq (sApp 5 (g2 modD (gCall (un intD) (aCons (gVar 4) aNil)) (gVar 3))) (sSet 4 (g2 fdivD (gVar 4) (gVar 3)))
def bodyB : GS := sSeq (sSet 4 (g2 modD (gCall (un intD) (aCons (g2 addD (g2 mulD (gVar 4) (gC (.int 48271))) (gC (.int 11))) aNil)) (gC (.int 2147483647))))
  (sApp 5 (g2 modD (g2 fdivD (g2 modD (gCall (un intD) (aCons (g2 mulD (gVar 4) (gVar 4)) aNil)) (gC (.int 2147483629))) (gC (.int 512))) (gVar 3)))
section
variable {ns : List Int} {place base : Int} {many : Nat}
theorem stepA {rest : Int} {row : List Int} {o : Option D} (hb : 0 < base) (hb2 : base < 1073741824) (hl : row.length < 1000) : bodyA (dEnv ns place many base rest row o) = .nx (dEnv ns place many base (rest / base) (row ++ [rest % base]) o) := by
  have hbig : row.length < big := Nat.lt_trans hl (by decide)
  unfold bodyA dEnv
  simp [sApp, ev_modI hb, ev_fdivI hb hb2, hbig]
theorem stepB {rest : Int} {row : List Int} {o : Option D} (hb : 0 < base) (hr : 0 ≤ rest ∧ rest < 2147483647) (hl : row.length < 1000) : ∃ r2 x, bodyB (dEnv ns place many base rest row o) = .nx (dEnv ns place many base r2 (row ++ [x]) o) ∧ (0 ≤ r2 ∧ r2 < 2147483647) ∧ 0 ≤ x ∧ x < base := by
  have hbig : row.length < big := Nat.lt_trans hl (by decide)
  have m1 : mulD (.int rest) (.int 48271) = .ok (.int (rest * 48271)) := ev_mulI (.inr (by decide))
  have m2 : modD (.int (rest * 48271 + 11)) (.int 2147483647) = .ok (.int ((rest * 48271 + 11) % 2147483647)) := ev_modI (by decide)
  generalize hq : (rest * 48271 + 11) % 2147483647 = q at m2
  have hq1 : 0 ≤ q := by rw [← hq]; exact Int.emod_nonneg _ (by decide)
  have hq2 : q < 2147483647 := by rw [← hq]; exact Int.emod_lt_of_pos _ (by decide)
  have m3 : mulD (.int q) (.int q) = .ok (.int (q * q)) := ev_mulI (.inl (by
    unfold smallI
    rw [decide_eq_true_iff]
    omega))
  have m4 : modD (.int (q * q)) (.int 2147483629) = .ok (.int ((q * q) % 2147483629)) := ev_modI (by decide)
  have m5 : fdivD (.int ((q * q) % 2147483629)) (.int 512) = .ok (.int ((q * q) % 2147483629 / 512)) := ev_fdivI (by decide) (by decide)
  refine ⟨q, (q * q) % 2147483629 / 512 % base, ?_, ⟨hq1, hq2⟩, Int.emod_nonneg _ (by omega), Int.emod_lt_of_pos _ hb⟩
  unfold bodyB dEnv
  simp [sApp, m1, m2, m3, m4, m5, ev_modI hb, hbig]
def InvA (ns : List Int) (place : Int) (many : Nat) (base : Int) (done : List D) (e : Dv) : Prop := ∃ rest row o, e = dEnv ns place many base rest row o ∧ row.length = done.length ∧ (∀ x ∈ row, 0 ≤ x ∧ x < base)
def InvB (ns : List Int) (place : Int) (many : Nat) (base : Int) (done : List D) (e : Dv) : Prop := ∃ rest row o, e = dEnv ns place many base rest row o ∧ (0 ≤ rest ∧ rest < 2147483647) ∧ row.length = done.length ∧ (∀ x ∈ row, 0 ≤ x ∧ x < base)
theorem row_snoc {row : List Int} {x : Int} (h : ∀ x ∈ row, 0 ≤ x ∧ x < base) (hx : 0 ≤ x ∧ x < base) : ∀ y ∈ row ++ [x], 0 ≤ y ∧ y < base := fun y hy => by
  rcases List.mem_append.mp hy with hy | hy
  · exact h y hy
  · rw [List.mem_singleton.mp hy]; exact hx
theorem loopA (hb : 0 < base) (hb2 : base < 1073741824) (hm : many ≤ 1000) (rest : Int) (o : Option D) : ∃ e, loopG (tgN 6) bodyA (rngL 0 many) (dEnv ns place many base rest [] o) = .nx e ∧ InvA ns place many base (rngL 0 many) e := by
  refine loop_inv (i := 6) (InvA ns place many base) (done := []) ⟨rest, [], o, rfl, rfl, fun _ z => (nomatch z)⟩ (fun pre d post env hp h => ?_)
  obtain ⟨rest, row, o, rfl, h1, h2⟩ := h
  have hl : row.length < 1000 := by
    have e := congrArg List.length hp
    rw [List.nil_append, rngL_length, List.length_append, List.length_cons] at e
    omega
  refine ⟨_, (stepA (o := some d) hb hb2 hl), _, _, _, rfl, ?_, row_snoc h2 ⟨Int.emod_nonneg _ (by omega), Int.emod_lt_of_pos _ hb⟩⟩
  rw [List.length_append, List.length_append, h1]
  rfl
theorem loopB (hb : 0 < base) (hm : many ≤ 1000) (rest : Int) (hr : 0 ≤ rest ∧ rest < 2147483647) (o : Option D) : ∃ e, loopG (tgN 6) bodyB (rngL 0 many) (dEnv ns place many base rest [] o) = .nx e ∧ InvB ns place many base (rngL 0 many) e := by
  refine loop_inv (i := 6) (InvB ns place many base) (done := []) ⟨rest, [], o, rfl, hr, rfl, fun _ z => (nomatch z)⟩ (fun pre d post env hp h => ?_)
  obtain ⟨rest, row, o, rfl, h0, h1, h2⟩ := h
  have hl : row.length < 1000 := by
    have e := congrArg List.length hp
    rw [List.nil_append, rngL_length, List.length_append, List.length_cons] at e
    omega
  obtain ⟨r2, x, hs, hr2, hx⟩ := stepB (ns := ns) (place := place) (many := many) (o := some d) hb h0 hl
  refine ⟨_, hs, _, _, _, rfl, hr2, ?_, row_snoc h2 hx⟩
  rw [List.length_append, List.length_append, h1]
  rfl
theorem draws_eq (hp : 0 ≤ place) (hp2 : place < 1000) (hb : 0 < base) (hb2 : base < 1073741824) (hm : many ≤ 1000) : ∃ l : List Int, f__law_draws [.scr ns, .int place, .int many, .int base] = .ok (.lst (l.map .int)) ∧ l.length = many ∧ ∀ x ∈ l, 0 ≤ x ∧ x < base := by
  have hr : ∀ (rest : Int) (row : List Int) (o : Option D), iArg rng1D (aCons (gVar 2) aNil) (dEnv ns place many base rest row o) = .ok (rngL 0 many) := fun rest row o => by
    rw [ev_iArg]
    have h2 : aCons (gVar 2) aNil (dEnv ns place many base rest row o) = .ok [.int (many : Int)] := rfl
    rw [h2, bind_ok, ev_rng (by omega)]
    rfl
  have hfin : ∀ (e : Dv), InvA ns place many base (rngL 0 many) e → ∃ l : List Int, sRet (gVar 5) e = .rt (.lst (l.map .int)) e ∧ l.length = many ∧ ∀ x ∈ l, 0 ≤ x ∧ x < base := fun e ⟨rest, row, o, he, h1, h2⟩ => by
    subst he
    exact ⟨row, rfl, by rw [h1, rngL_length], h2⟩
  have p18 : powD (.int 10) (.int 18) = .ok (.int 1000000000000000000) := by rfl
  have s1 : g2 modD (gCall (un intD) (aCons (gCall (un sumD) (aCons (gSl (gVar 0) pNone (pSome (gC (.int 63)))) aNil)) aNil)) (gC (.int 1000000007)) [some (.scr ns), some (.int place), some (.int many), some (.int base), none, none, none] = .ok (.int ((ns.take 63).sum % 1000000007)) := by
    have h1 : slD (.scr ns) none (some 63) = .ok (.lst ((ns.take 63).map .int)) := slC_to ns 63
    have h2 : sumD (.lst ((ns.take 63).map .int)) = .ok (.int (ns.take 63).sum) := by
      show (match ints? ((ns.take 63).map D.int) with | some ns => R.ok (D.int ns.sum) | none => .bad) = _
      rw [DL.ints_map]
    simp [-List.map_take, h1, h2, ev_modI (show (0 : Int) < 1000000007 by decide)]
  -- behind the second statement
  have s2 : ∃ rest : Int, 0 ≤ rest ∧ sIf (gB (g2 ltD (gVar 1) (gCall (un lenD) (aCons (gVar 0) aNil)))) (sSet 4 (gCall (un absD) (aCons (gCall (un intD) (aCons (g2 ixD (gVar 0) (gVar 1)) aNil)) aNil))) sNil [some (.scr ns), some (.int place), some (.int many), some (.int base), some (.int ((ns.take 63).sum % 1000000007)), none, none] =
      .nx [some (.scr ns), some (.int place), some (.int many), some (.int base), some (.int rest), none, none] := by
    by_cases h : place < (ns.length : Int)
    · obtain ⟨x, hx⟩ : ∃ x, ns[place.toNat]? = some x := ⟨ns[place.toNat]'(by omega), List.getElem?_eq_getElem (by omega)⟩
      have h1 : ixD (.scr ns) (.int place) = .ok (.int x) := by
        show (match atI ns place with | some n => R.ok (D.int n) | none => .bad) = _
        have e : place = ((place.toNat : Nat) : Int) := by omega
        rw [e, DL.atI_nat hx]
      refine ⟨if x < 0 then -x else x, by split <;> omega, ?_⟩
      simp [h, h1]
    · refine ⟨(ns.take 63).sum % 1000000007, Int.emod_nonneg _ (by decide), ?_⟩
      simp [h]
  obtain ⟨rest, hrest, s2⟩ := s2
  have pre : ∀ q : GS, sSeq (sSet 4 (g2 modD (gCall (un intD) (aCons (gCall (un sumD) (aCons (gSl (gVar 0) pNone (pSome (gC (.int 63)))) aNil)) aNil)) (gC (.int 1000000007)))) (sSeq (sIf (gB (g2 ltD (gVar 1) (gCall (un lenD) (aCons (gVar 0) aNil)))) (sSet 4 (gCall (un absD) (aCons (gCall (un intD) (aCons (g2 ixD (gVar 0) (gVar 1)) aNil)) aNil))) sNil) (sSeq (sSet 5 (gLst aNil)) q)) [some (.scr ns), some (.int place), some (.int many), some (.int base), none, none, none] = q (dEnv ns place many base rest [] none) := fun q => by
    refine (seq_nx (set_ok s1)).trans ((seq_nx s2).trans ((seq_nx (set_ok (d := .lst []) ?_)).trans rfl))
    simp
  by_cases hbigr : 1000000000000000000 ≤ rest
  · obtain ⟨e, hl, hinv⟩ := loopA (ns := ns) (place := place) (many := many) hb hb2 hm (rest - 1000000000000000000) none
    obtain ⟨l, hl1, hl2, hl3⟩ := hfin e hinv
    refine ⟨l, ?_, hl2, hl3⟩
    refine run_rt rfl ?_ (e := e)
    unfold g__law_draws
    refine (pre _).trans (seq_rt ((if_t ?_).trans ((seq_nx (set_ok (d := .int (rest - 1000000000000000000)) ?_)).trans ((seq_nx ((for_ok (hr _ _ _)).trans hl)).trans hl1))))
    · unfold dEnv
      simp [p18, hbigr]
    · unfold dEnv
      simp [p18]
  · have hr2 : 0 ≤ (rest + 7919 * place + 1) % 2147483647 ∧ (rest + 7919 * place + 1) % 2147483647 < 2147483647 := ⟨Int.emod_nonneg _ (by decide), Int.emod_lt_of_pos _ (by decide)⟩
    obtain ⟨e, hl, rest2, row, o, he, h0, h1, h2⟩ := loopB (ns := ns) (place := place) (many := many) hb hm _ hr2 none
    obtain ⟨l, hl1, hl2, hl3⟩ := hfin e ⟨rest2, row, o, he, h1, h2⟩
    refine ⟨l, ?_, hl2, hl3⟩
    refine run_rt rfl ?_ (e := e)
    unfold g__law_draws
    refine (pre _).trans ((seq_nx ((if_f ?_).trans (ev_sNil _))).trans ((seq_nx (set_ok (d := .int ((rest + 7919 * place + 1) % 2147483647)) ?_)).trans ((seq_nx ((for_ok (hr _ _ _)).trans hl)).trans hl1)))
    · unfold dEnv
      simp [p18, hbigr]
    · unfold dEnv
      have m1 : mulD (.int 7919) (.int place) = .ok (.int (7919 * place)) := ev_mulI (.inl (by decide))
      simp [m1, ev_modI (show (0 : Int) < 2147483647 by decide)]
end
end G72

set_option maxHeartbeats 4000000
/-! The plain law of k72: the texts that the law makes. -/
namespace G72
open PySem PySem.Spec PyProof.Rows L2 DL
open TL (tl)
/-! ### texts of words -/
theorem deedW_join {k : Str} {r : List Str} (hfree : ∀ w ∈ k :: r, 32 ∉ tl w) : deedW (Txt.join " " (k :: r)) = formD k r := by
  have := TL.split_join (y := " ") (s := 32) (S := []) (by rfl) (by decide +kernel) (parts := k :: r) (List.cons_ne_nil _ _) hfree
  unfold deedW
  rw [this]
theorem join2 (a b : Str) : Txt.join " " [a, b] = a ++ (" " : Str) ++ b := by
  rw [TL.join_eq]; rfl
theorem join3 (a b c : Str) : Txt.join " " [a, b, c] = a ++ (" " : Str) ++ b ++ (" " : Str) ++ c := by
  rw [TL.join_eq]
  show a ++ (" " : Str) ++ (b ++ (" " : Str) ++ c) = _
  apply TL.ext_tl
  simp only [TL.tl_append, List.append_assoc]
/-! ### numbers -/
def numS (n : Nat) : Str := Str.ofString (toString ((n : Nat) : Int))
theorem tl_numS (n : Nat) : tl (numS n) = TL.numL n := TL.tl_num n
theorem numL_head : ∀ n : Nat, (TL.numL n).head? = some 48 → n = 0 := by
  intro n
  induction n using Nat.strongRecOn with
  | _ n ih =>
    intro h
    by_cases h1 : n < 10
    · rw [TL.numL_lt h1] at h
      simp only [List.head?_cons, Option.some.injEq] at h
      omega
    · rw [TL.numL_step (by omega)] at h
      have hne := TL.numL_ne (n / 10)
      have : (TL.numL (n / 10)).head? = some 48 := by
        cases e : TL.numL (n / 10) with
        | nil => exact absurd e hne
        | cons a l => rw [e] at h; exact h
      have := ih (n / 10) (by omega) this
      omega
theorem digs_of {l : List Nat} (h : NumText.AllDigits l) : onlyB l digs = true := by
  unfold onlyB
  rw [List.all_eq_true]
  intro c hc
  have h1 := h c hc
  have : ∀ c, 48 ≤ c ∧ c ≤ 57 → c ∈ digs := by
    intro c hc
    have e : digs = [48, 49, 50, 51, 52, 53, 54, 55, 56, 57] := by decide +kernel
    rw [e]
    simp only [List.mem_cons, List.not_mem_nil, or_false]
    omega
  exact decide_eq_true (this c h1)
theorem numS_len {n : Nat} (h : n < 10000) : 1 ≤ (numS n).length ∧ (numS n).length ≤ 4 := by
  rw [TL.len_tl, tl_numS]
  refine ⟨?_, TL.numL_len (by decide) h⟩
  cases e : TL.numL n with
  | nil => exact absurd e (TL.numL_ne n)
  | cons a l => simp
theorem numB_numS {n : Nat} (h : n < 10000) : numB (numS n) = true := by
  obtain ⟨h1, h2⟩ := numS_len h
  unfold numB
  rw [decide_eq_true h1, decide_eq_true h2, tl_numS, digs_of (TL.numL_digits n)]
  have : (decide ((TL.numL n).head? = some 48) && decide (1 < (numS n).length)) = false := by
    by_cases q : (TL.numL n).head? = some 48
    · have := numL_head n q
      subst this
      have : (numS 0).length = 1 := by rw [TL.len_tl, tl_numS]; rfl
      rw [this]
      simp
    · rw [decide_eq_false q]; rfl
  rw [this]
  rfl
theorem strD_num {n : Nat} (h : n < 10000) : strD (.int (n : Int)) = .ok (.str (numS n)) := by
  show chk (decide (((n : Int)).natAbs < 2 ^ 1900)) (R.ok (D.str (numS n))) = _
  rw [chk_of]
  rw [Int.natAbs_natCast]
  exact small_pow (Nat.lt_of_lt_of_le h (by decide))
theorem numS_free {n : Nat} : 32 ∉ tl (numS n) := by
  rw [tl_numS]
  exact TL.numL_free (.inl (by decide))
theorem numS_chr {n : Nat} : ∀ c ∈ tl (numS n), c < 1114112 := fun c hc => by
  rw [tl_numS] at hc
  have := TL.numL_digits n c hc
  omega
/-! ### names -/
theorem joinL_nil : ∀ cs : List Nat, TL.joinL [] (cs.map fun c => [c]) = cs
  | [] => rfl
  | [c] => rfl
  | c :: d :: cs => by
    show [c] ++ ([] ++ TL.joinL [] ((d :: cs).map fun c => [c])) = _
    rw [joinL_nil (d :: cs)]
    rfl
def chS (c : Nat) : Str := ⟨#[c]⟩
theorem tl_joinCh (cs : List Nat) : tl (Txt.join "" (cs.map chS)) = cs := by
  rw [TL.join_eq, TL.tl_join]
  have : (cs.map chS).map tl = cs.map fun c => [c] := by
    rw [List.map_map]; rfl
  rw [this]
  exact joinL_nil cs
theorem sum_ones (cs : List Nat) : (List.map (fun (y : Str) => y.length) (cs.map chS)).sum = cs.length := by
  induction cs with
  | nil => rfl
  | cons c cs ih =>
    rw [List.map_cons, List.map_cons, List.sum_cons, ih, List.length_cons]
    show 1 + _ = _
    omega
def letAt (l : List Int) (k : Nat) : Nat := lets.getD ((l.getD (1 + k) 0) % 26).toNat 97
def nameOf (l : List Int) : Str := Txt.join "" ((List.range (1 + (l.getD 0 0) % 8).toNat).map fun k => chS (letAt l k))
theorem lets_len : lets.length = 26 := by decide +kernel
theorem letAt_mem (l : List Int) (k : Nat) : letAt l k ∈ lets := by
  unfold letAt
  have h1 : ((l.getD (1 + k) 0) % 26).toNat < lets.length := by
    rw [lets_len]
    have := Int.emod_lt_of_pos (l.getD (1 + k) 0) (show (0 : Int) < 26 by decide)
    have := Int.emod_nonneg (l.getD (1 + k) 0) (show (26 : Int) ≠ 0 by decide)
    omega
  rw [List.getD_eq_getElem?_getD, List.getElem?_eq_getElem h1]
  exact List.getElem_mem h1
theorem name_eq {l : List Int} (hl : 9 ≤ l.length) : f__law_name [.lst (l.map .int)] = .ok (.str (nameOf l)) ∧ nameB (nameOf l) = true := by
  obtain ⟨n, hn, hn1, hn8⟩ : ∃ n : Nat, 1 + (l.getD 0 0) % 8 = (n : Int) ∧ 1 ≤ n ∧ n ≤ 8 := by
    have := Int.emod_lt_of_pos (l.getD 0 0) (show (0 : Int) < 8 by decide)
    have := Int.emod_nonneg (l.getD 0 0) (show (8 : Int) ≠ 0 by decide)
    exact ⟨(1 + (l.getD 0 0) % 8).toNat, by omega, by omega, by omega⟩
  have hname : nameOf l = Txt.join "" (((List.range n).map (letAt l)).map chS) := by
    unfold nameOf
    rw [hn, Int.toNat_natCast, List.map_map]
    rfl
  have htl : tl (nameOf l) = (List.range n).map (letAt l) := by rw [hname, tl_joinCh]
  have hlen : (nameOf l).length = n := by rw [TL.len_tl, htl, List.length_map, List.length_range]
  refine ⟨?_, ?_⟩
  · have hx : ∀ (i : Nat), i < l.length → ixD (.lst (l.map .int)) (.int (i : Int)) = .ok (.int (l.getD i 0)) := fun i hi => by
      show (match atI (l.map D.int) (i : Int) with | some d => R.ok d | none => .bad) = _
      rw [DL.atI_nat (x := D.int (l.getD i 0)) (by rw [List.getElem?_map, List.getElem?_eq_getElem hi, List.getD_eq_getElem?_getD, List.getElem?_eq_getElem hi]; rfl)]
    have h0 := hx 0 (by omega)
    have e0 : g2 addD (gC (.int 1)) (g2 modD (gCall (un intD) (aCons (g2 ixD (gVar 0) (gC (.int 0))) aNil)) (gC (.int 8))) [some (.lst (l.map .int)), none] = .ok (.int (n : Int)) := by
      have h0' : ixD (.lst (l.map .int)) (.int 0) = .ok (.int (l.getD 0 0)) := h0
      rw [← hn]
      simp [-List.getD_eq_getElem?_getD, h0', ev_modI (show (0 : Int) < 8 by decide)]
    have hlc := lc_eq (i := 1) (env := [some (.lst (l.map .int)), none]) (test := gYes) (elt := g2 ixD (gC (.str "abcdefghijklmnopqrstuvwxyz")) (g2 modD (gCall (un intD) (aCons (g2 ixD (gVar 0) (g2 addD (gC (.int 1)) (gVar 1))) aNil)) (gC (.int 26)))) (fun _ => true)
      (fun d => match d with | .int k => .str (chS (letAt l k.toNat)) | d => d) (ds := rngL 0 n) (acc := []) (fun _ _ => rfl) (fun d hd _ => by
        obtain ⟨k, hk, rfl⟩ := List.mem_map.mp hd
        rw [List.mem_range] at hk
        have h1 := hx (1 + k) (by omega)
        have e1 : (1 : Int) + (0 + (k : Int)) = ((1 + k : Nat) : Int) := by omega
        have e2 : (0 + (k : Int)).toNat = k := by omega
        have hlt : ((l.getD (1 + k) 0) % 26).toNat < lets.length := by
          rw [lets_len]
          have := Int.emod_lt_of_pos (l.getD (1 + k) 0) (show (0 : Int) < 26 by decide)
          have := Int.emod_nonneg (l.getD (1 + k) 0) (show (26 : Int) ≠ 0 by decide)
          omega
        have h3 : ixD (.str "abcdefghijklmnopqrstuvwxyz") (.int ((l.getD (1 + k) 0) % 26)) = .ok (.str (chS (letAt l k))) := by
          have e3 : (l.getD (1 + k) 0) % 26 = ((((l.getD (1 + k) 0) % 26).toNat : Nat) : Int) := by
            have := Int.emod_nonneg (l.getD (1 + k) 0) (show (26 : Int) ≠ 0 by decide)
            omega
          rw [e3]
          show chk (decide (("abcdefghijklmnopqrstuvwxyz" : Str).length ≤ big)) (match atI lets ((((l.getD (1 + k) 0) % 26).toNat : Nat) : Int) with | some c => R.ok (D.str ⟨#[c]⟩) | none => .bad) = _
          rw [chk_of _ (by decide), DL.atI_nat (x := letAt l k) (by unfold letAt; rw [List.getD_eq_getElem?_getD (l := lets), List.getElem?_eq_getElem hlt]; rfl)]
          rfl
        show g2 ixD _ _ [some (.lst (l.map .int)), some (.int (0 + (k : Int)))] = .ok (.str (chS (letAt l (0 + (k : Int)).toNat)))
        rw [e2]
        simp only [ev_g2, ev_C, ev_var0, ev_varS, bind_ok, ev_addI, e1, h1, ev_call, ev_aCons, ev_aNil, ev_un, ev_int, ev_modI (show (0 : Int) < 26 by decide), h3]) (by
        rw [rngL_length]
        exact Nat.le_trans (show 0 + n ≤ 8 by omega) (by decide))
    have hmap : ((rngL 0 n).filter fun _ => true).map (fun d => match d with | .int k => D.str (chS (letAt l k.toNat)) | d => d) = ((List.range n).map (letAt l)).map (fun c => D.str (chS c)) := by
      rw [List.filter_eq_self.mpr (fun _ _ => rfl)]
      unfold rngL
      rw [List.map_map, List.map_map]
      refine List.map_congr_left fun k _ => ?_
      show D.str (chS (letAt l (0 + (k : Int)).toNat)) = D.str (chS (letAt l k))
      rw [show (0 + (k : Int)).toNat = k from by omega]
    have hmap2 : ((List.range n).map (letAt l)).map (fun c => D.str (chS c)) = (((List.range n).map (letAt l)).map chS).map D.str := by rw [List.map_map (g := D.str)]; rfl
    rw [List.nil_append, hmap, hmap2] at hlc
    have hj := joinOf_eq (sep := "") (l := ((List.range n).map (letAt l)).map chS) hname.symm (by
      rw [sum_ones, List.length_map, List.length_range]
      show n + _ * 0 ≤ big
      exact Nat.le_trans (show n + _ * 0 ≤ 8 by omega) (by decide))
    refine run_rt rfl ?_ (e := [some (.lst (l.map .int)), none])
    unfold g__law_name
    refine ret_ok ?_
    rw [ev_S1, ev_C, bind_ok]
    have hg : gLc [1] (iArg rng1D (aCons (g2 addD (gC (.int 1)) (g2 modD (gCall (un intD) (aCons (g2 ixD (gVar 0) (gC (.int 0))) aNil)) (gC (.int 8)))) aNil)) (tgN 1) gYes (g2 ixD (gC (.str "abcdefghijklmnopqrstuvwxyz")) (g2 modD (gCall (un intD) (aCons (g2 ixD (gVar 0) (g2 addD (gC (.int 1)) (gVar 1))) aNil)) (gC (.int 26)))) [some (.lst (l.map .int)), none] = .ok (.lst ((((List.range n).map (letAt l)).map chS).map D.str)) := by
      unfold gLc
      rw [ev_iArg, ev_aCons, e0, bind_ok, ev_aNil, bind_ok, bind_ok, ev_rng (by omega), bind_ok, Int.toNat_natCast]
      exact hlc
    exact (congrArg (fun z : R D => z.bind (joinD "")) hg).trans hj
  · unfold nameB
    rw [hlen, htl, decide_eq_true hn1, decide_eq_true hn8]
    show onlyB _ lets = true
    unfold onlyB
    rw [List.all_eq_true]
    intro c hc
    obtain ⟨k, _, rfl⟩ := List.mem_map.mp hc
    exact decide_eq_true (letAt_mem l k)
/-! ### the text -/
theorem nameB_facts {w : Str} (h : nameB w = true) : 1 ≤ w.length ∧ w.length ≤ 8 ∧ 32 ∉ tl w ∧ ∀ c ∈ tl w, c < 1114112 := by
  unfold nameB at h
  simp only [Bool.and_eq_true, decide_eq_true_eq] at h
  obtain ⟨h1, h2, h3⟩ := h
  have hc : ∀ c ∈ tl w, c ∈ lets := fun c hc => of_decide_eq_true (List.all_eq_true.mp h3 c hc)
  have hl : ∀ c ∈ lets, c ≠ 32 ∧ c < 1114112 := by decide +kernel
  exact ⟨h1, h2, fun z => (hl 32 (hc 32 z)).1 rfl, fun c h => (hl c (hc c h)).2⟩
/-- a text, its words: no blank within, a deed -/
structure Made (t : Str) : Prop where
  ok : TextOk t
  deed : ∃ l, deedW t = .tup l
  short : t.length ≤ 100
theorem app_len (a b : Str) : (a ++ b).length = a.length + b.length := by
  rw [TL.len_tl, TL.tl_append, List.length_append, ← TL.len_tl, ← TL.len_tl]
theorem app_chr {a b : Str} {P : Nat → Prop} (ha : ∀ c ∈ tl a, P c) (hb : ∀ c ∈ tl b, P c) : ∀ c ∈ tl (a ++ b), P c := fun c hc => by
  rw [TL.tl_append] at hc
  rcases List.mem_append.mp hc with hc | hc
  · exact ha c hc
  · exact hb c hc
theorem made_cut {k : Str} (hk : k ∈ cuts) {a b : Nat} (ha : a < 10000) (hb : b < 10000) : Made (k ++ (" " : Str) ++ numS a ++ (" " : Str) ++ numS b) := by
  have hk2 : ∀ k ∈ cuts, k ≠ "seat" ∧ 32 ∉ tl k ∧ k.length ≤ 10 ∧ ∀ c ∈ tl k, c < 1114112 := by decide +kernel
  obtain ⟨k1, k2, k3, k4⟩ := hk2 k hk
  have e := join3 k (numS a) (numS b)
  have hd := deedW_join (k := k) (r := [numS a, numS b]) (fun w hw => by
    simp only [List.mem_cons, List.not_mem_nil, or_false] at hw
    rcases hw with rfl | rfl | rfl
    · exact k2
    · exact numS_free
    · exact numS_free)
  rw [e] at hd
  have hlen : (k ++ (" " : Str) ++ numS a ++ (" " : Str) ++ numS b).length ≤ 100 := by
    rw [app_len, app_len, app_len, app_len]
    have h1 := numS_len ha
    have h2 := numS_len hb
    show k.length + 1 + _ + 1 + _ ≤ 100
    omega
  refine ⟨⟨Nat.le_trans hlen (by decide), ?_⟩, ?_, hlen⟩
  · have hsp : ∀ c ∈ tl (" " : Str), c < 1114112 := by decide +kernel
    exact app_chr (app_chr (app_chr (app_chr k4 hsp) numS_chr) hsp) numS_chr
  · rw [hd]
    unfold formD
    rw [if_neg (fun z => k1 z.1), if_pos ⟨hk, rfl⟩]
    show ∃ l, (match numB (numS a) && numB (numS b) with | true => D.tup [.str k, .int (numI (numS a)), .int (numI (numS b))] | false => .non) = .tup l
    rw [numB_numS ha, numB_numS hb]
    exact ⟨_, rfl⟩
theorem book_facts : ∀ k ∈ books, k ≠ "seat" ∧ k ∉ cuts ∧ 32 ∉ tl k ∧ k.length ≤ 10 ∧ ∀ c ∈ tl k, c < 1114112 := by decide +kernel
theorem made_book {k : Str} (hk : k ∈ books) {a : Str} (ha : nameB a = true) : Made (k ++ (" " : Str) ++ a) := by
  obtain ⟨k1, k2, k3, k4, k5⟩ := book_facts k hk
  obtain ⟨a1, a2, a3, a4⟩ := nameB_facts ha
  have hd := deedW_join (k := k) (r := [a]) (fun w hw => by
    simp only [List.mem_cons, List.not_mem_nil, or_false] at hw
    rcases hw with rfl | rfl
    · exact k3
    · exact a3)
  rw [join2] at hd
  have hlen : (k ++ (" " : Str) ++ a).length ≤ 100 := by
    rw [app_len, app_len]
    show k.length + 1 + _ ≤ 100
    omega
  refine ⟨⟨Nat.le_trans hlen (by decide), ?_⟩, ?_, hlen⟩
  · have hsp : ∀ c ∈ tl (" " : Str), c < 1114112 := by decide +kernel
    exact app_chr (app_chr k5 hsp) a4
  · rw [hd]
    unfold formD
    rw [if_neg (fun z => k1 z.1), if_neg (fun z => k2 z.1), if_pos hk]
    have : (decide (1 ≤ [a].length) && (decide ([a].length ≤ 2) && [a].all nameB)) = true := by simp [ha]
    rw [this]
    exact ⟨_, rfl⟩
theorem made_book2 {k : Str} (hk : k ∈ books) {a b : Str} (ha : nameB a = true) (hb : nameB b = true) : Made (k ++ (" " : Str) ++ a ++ (" " : Str) ++ b) := by
  obtain ⟨k1, k2, k3, k4, k5⟩ := book_facts k hk
  obtain ⟨a1, a2, a3, a4⟩ := nameB_facts ha
  obtain ⟨b1, b2, b3, b4⟩ := nameB_facts hb
  have hd := deedW_join (k := k) (r := [a, b]) (fun w hw => by
    simp only [List.mem_cons, List.not_mem_nil, or_false] at hw
    rcases hw with rfl | rfl | rfl
    · exact k3
    · exact a3
    · exact b3)
  rw [join3] at hd
  have hlen : (k ++ (" " : Str) ++ a ++ (" " : Str) ++ b).length ≤ 100 := by
    rw [app_len, app_len, app_len, app_len]
    show k.length + 1 + _ + 1 + _ ≤ 100
    omega
  refine ⟨⟨Nat.le_trans hlen (by decide), ?_⟩, ?_, hlen⟩
  · have hsp : ∀ c ∈ tl (" " : Str), c < 1114112 := by decide +kernel
    exact app_chr (app_chr (app_chr (app_chr k5 hsp) a4) hsp) b4
  · rw [hd]
    unfold formD
    rw [if_neg (fun z => k1 z.1), if_neg (fun z => k2 z.1), if_pos hk]
    have : (decide (1 ≤ [a, b].length) && (decide ([a, b].length ≤ 2) && [a, b].all nameB)) = true := by simp [ha, hb]
    rw [this]
    exact ⟨_, rfl⟩
theorem made_seat : Made "seat" := by
  have hd := deedW_join (k := "seat") (r := []) (fun w hw => by
    simp only [List.mem_cons, List.not_mem_nil, or_false] at hw
    subst hw
    decide +kernel)
  have e : Txt.join " " ["seat"] = ("seat" : Str) := by rw [TL.join_eq]; rfl
  rw [e] at hd
  refine ⟨⟨by decide, by decide +kernel⟩, ?_, by decide⟩
  rw [hd]
  exact ⟨_, if_pos ⟨rfl, rfl⟩⟩
end G72

set_option maxHeartbeats 4000000
/-! The plain law of k72: the text that is made is a deed. -/
namespace G72
open PySem PySem.Spec PyProof.Rows L2 DL
open TL (tl)
theorem addS {a b : Str} (h : a.length + b.length ≤ 1000) : addD (.str a) (.str b) = .ok (.str (a ++ b)) := by
  show chk (decide (a.length + b.length ≤ big)) (R.ok (D.str (a ++ b))) = _
  rw [chk_of _ (Nat.le_trans h (by decide))]
theorem ixI {l : List Int} (i : Nat) (hi : i < l.length) : ixD (.lst (l.map .int)) (.int (i : Int)) = .ok (.int (l.getD i 0)) := by
  show (match atI (l.map D.int) (i : Int) with | some d => R.ok d | none => .bad) = _
  rw [DL.atI_nat (x := D.int (l.getD i 0)) (by rw [List.getElem?_map, List.getElem?_eq_getElem hi, List.getD_eq_getElem?_getD, List.getElem?_eq_getElem hi]; rfl)]
theorem getD_in {l : List Int} {i : Nat} {b : Int} (h : ∀ x ∈ l, 0 ≤ x ∧ x < b) (hi : i < l.length) : 0 ≤ l.getD i 0 ∧ l.getD i 0 < b := by
  rw [List.getD_eq_getElem?_getD, List.getElem?_eq_getElem hi]
  exact h _ (List.getElem_mem hi)
theorem drop_ints (l : List Int) (i : Nat) : slD (.lst (l.map .int)) (some (i : Int)) none = .ok (.lst ((l.drop i).map .int)) := by
  rw [slL_from, List.map_drop]
theorem pre_eq {k : Int} (h : 0 ≤ k ∧ k < 2) : ∃ w ∈ cuts, ixD (.lst [.str "cut ", .str "open "]) (.int k) = .ok (.str (w ++ (" " : Str))) := by
  have : k = 0 ∨ k = 1 := by omega
  rcases this with rfl | rfl
  · exact ⟨"cut", by decide, rfl⟩
  · exact ⟨"open", by decide, rfl⟩
theorem pre_book {k : Int} (h : 0 ≤ k ∧ k < 4) : ∃ w ∈ books, ixD (.lst [.str "print ", .str "scrap ", .str "lend ", .str "return "]) (.int k) = .ok (.str (w ++ (" " : Str))) := by
  have : k = 0 ∨ k = 1 ∨ k = 2 ∨ k = 3 := by omega
  rcases this with rfl | rfl | rfl | rfl
  · exact ⟨"print", by decide, rfl⟩
  · exact ⟨"scrap", by decide, rfl⟩
  · exact ⟨"lend", by decide, rfl⟩
  · exact ⟨"return", by decide, rfl⟩
theorem pre_pow {k : Int} (h : 0 ≤ k ∧ k < 4) : ∃ d : Int, (1 ≤ d ∧ d ≤ 1000) ∧ ixD (.lst [.int 1, .int 10, .int 100, .int 1000]) (.int k) = .ok (.int d) := by
  have : k = 0 ∨ k = 1 ∨ k = 2 ∨ k = 3 := by omega
  rcases this with rfl | rfl | rfl | rfl
  · exact ⟨1, by decide, rfl⟩
  · exact ⟨10, by decide, rfl⟩
  · exact ⟨100, by decide, rfl⟩
  · exact ⟨1000, by decide, rfl⟩
theorem cuts_len : ∀ k ∈ cuts, k.length ≤ 10 := by decide
theorem sp_len : ((" " : Str)).length = 1 := rfl
theorem text_eq (ns : List Int) {kind : Int} (hk : 0 ≤ kind ∧ kind < 7) : ∃ t, f__law_text [.scr ns, .int kind] = .ok (.str t) ∧ Made t := by
  obtain ⟨l, hd, hlen, hl⟩ := draws_eq (ns := ns) (place := 1) (base := 10000) (many := 24) (by decide) (by decide) (by decide) (by decide) (by decide)
  have hd : f__law_draws [.scr ns, .int 1, .int 24, .int 10000] = .ok (.lst (l.map .int)) := hd
  have x0 := getD_in hl (i := 0) (by omega)
  have x1 := getD_in hl (i := 1) (by omega)
  have x2 := getD_in hl (i := 2) (by omega)
  have i0 : ixD (.lst (l.map .int)) (.int 0) = .ok (.int (l.getD 0 0)) := ixI 0 (by omega)
  have i1 : ixD (.lst (l.map .int)) (.int 1) = .ok (.int (l.getD 1 0)) := ixI 1 (by omega)
  have i2 : ixD (.lst (l.map .int)) (.int 2) = .ok (.int (l.getD 2 0)) := ixI 2 (by omega)
  generalize l.getD 0 0 = y0 at *
  generalize l.getD 1 0 = y1 at *
  generalize l.getD 2 0 = y2 at *
  have hset : g__law_text [some (.scr ns), some (.int kind), none, none] = _ := (seq_nx (set_ok (d := .lst (l.map .int)) (by simp [hd])))
  have run : ∀ {t : Str} {e : Dv}, g__law_text [some (.scr ns), some (.int kind), none, none] = .rt (.str t) e → f__law_text [.scr ns, .int kind] = .ok (.str t) := fun {t e} h => run_rt rfl h
  by_cases k2 : kind < 2
  · obtain ⟨w, hw, hp⟩ := pre_eq ⟨hk.1, k2⟩
    obtain ⟨d, hd1, hp2⟩ := pre_pow (k := y2 % 4) ⟨Int.emod_nonneg _ (by decide), Int.emod_lt_of_pos _ (by decide)⟩
    obtain ⟨a, ha, ha2⟩ : ∃ a : Nat, y0 / d = (a : Int) ∧ a < 10000 := by
      have h1 : 0 ≤ y0 / d := Int.ediv_nonneg x0.1 (by omega)
      have h2 : y0 / d ≤ y0 := Int.ediv_le_self _ x0.1
      exact ⟨(y0 / d).toNat, by omega, by omega⟩
    obtain ⟨b, hb, hb2⟩ : ∃ b : Nat, y1 = (b : Int) ∧ b < 10000 := ⟨y1.toNat, by omega, by omega⟩
    have m := made_cut hw ha2 hb2
    refine ⟨_, run (hset.trans (seq_rt ((if_t ?_).trans (ret_ok ?_)))), m⟩
    · simp [k2]
    · have hwl := cuts_len w hw
      have hal := numS_len ha2
      have hbl := numS_len hb2
      have l1 : (w ++ (" " : Str)).length = w.length + 1 := app_len _ _
      have a1 : addD (.str (w ++ (" " : Str))) (.str (numS a)) = .ok (.str (w ++ (" " : Str) ++ numS a)) := addS (by rw [l1]; omega)
      have l2 : (w ++ (" " : Str) ++ numS a).length = w.length + 1 + (numS a).length := by rw [app_len, l1]
      have a2 : addD (.str (w ++ (" " : Str) ++ numS a)) (.str " ") = .ok (.str (w ++ (" " : Str) ++ numS a ++ (" " : Str))) := addS (by rw [l2, sp_len]; omega)
      have l3 : (w ++ (" " : Str) ++ numS a ++ (" " : Str)).length = w.length + 1 + (numS a).length + 1 := by rw [app_len, l2, sp_len]
      have a3 : addD (.str (w ++ (" " : Str) ++ numS a ++ (" " : Str))) (.str (numS b)) = .ok (.str (w ++ (" " : Str) ++ numS a ++ (" " : Str) ++ numS b)) := addS (by rw [l3]; omega)
      have f1 : fdivD (.int y0) (.int d) = .ok (.int (a : Int)) := by rw [ev_fdivI (by omega) (by omega), ha]
      simp [hp, hp2, i0, i1, i2, ev_modI (show (0 : Int) < 4 by decide), f1, hb, strD_num ha2, strD_num hb2, a1, a2, a3]
  · by_cases k6 : kind < 6
    · obtain ⟨w, hw, hp⟩ := pre_book (k := kind - 2) ⟨by omega, by omega⟩
      obtain ⟨k1', k2', k3', hwl, k5'⟩ := book_facts w hw
      have d3 : slD (.lst (l.map .int)) (some 3) none = .ok (.lst ((l.drop 3).map .int)) := drop_ints l 3
      have d12 : slD (.lst (l.map .int)) (some 12) none = .ok (.lst ((l.drop 12).map .int)) := drop_ints l 12
      obtain ⟨hn, hnB⟩ := name_eq (l := l.drop 3) (by rw [List.length_drop]; omega)
      obtain ⟨hm, hmB⟩ := name_eq (l := l.drop 12) (by rw [List.length_drop]; omega)
      generalize nameOf (l.drop 3) = nm at *
      generalize nameOf (l.drop 12) = nm2 at *
      have nl := nameB_facts hnB
      have ml := nameB_facts hmB
      have l1 : (w ++ (" " : Str)).length = w.length + 1 := app_len _ _
      have a1 : addD (.str (w ++ (" " : Str))) (.str nm) = .ok (.str (w ++ (" " : Str) ++ nm)) := addS (by rw [l1]; omega)
      have l2 : (w ++ (" " : Str) ++ nm).length = w.length + 1 + nm.length := by rw [app_len, l1]
      have a2 : addD (.str (w ++ (" " : Str) ++ nm)) (.str " ") = .ok (.str (w ++ (" " : Str) ++ nm ++ (" " : Str))) := addS (by rw [l2, sp_len]; omega)
      have l3 : (w ++ (" " : Str) ++ nm ++ (" " : Str)).length = w.length + 1 + nm.length + 1 := by rw [app_len, l2, sp_len]
      have a3 : addD (.str (w ++ (" " : Str) ++ nm ++ (" " : Str))) (.str nm) = .ok (.str (w ++ (" " : Str) ++ nm ++ (" " : Str) ++ nm)) := addS (by rw [l3]; omega)
      have a4 : addD (.str (w ++ (" " : Str) ++ nm ++ (" " : Str))) (.str nm2) = .ok (.str (w ++ (" " : Str) ++ nm ++ (" " : Str) ++ nm2)) := addS (by rw [l3]; omega)
      have hset2 := fun q : GS => (seq_nx (q := q) (set_ok (i := 3) (a := gCall f__law_name (aCons (gSl (gVar 2) (pSome (gC (.int 3))) pNone) aNil)) (env := [some (.scr ns), some (.int kind), some (.lst (l.map .int)), none]) (d := .str nm) (by
        have hn' : f__law_name [.lst ((l.map .int).drop 3)] = .ok (.str nm) := by rw [← List.map_drop]; exact hn
        have d3' : slD (.lst (l.map .int)) (some 3) none = .ok (.lst ((l.map .int).drop 3)) := by rw [← List.map_drop]; exact d3
        simp [-List.map_drop, d3', hn'])))
      by_cases c1 : y0 % 3 = 0
      · refine ⟨_, run (hset.trans ((seq_nx ((if_f ?_).trans (ev_sNil _))).trans (seq_rt ((if_t ?_).trans ((hset2 _).trans (seq_rt ((if_t ?_).trans (ret_ok ?_)))))))), made_book hw hnB⟩
        · simp [k2]
        · simp [k6]
        · simp [i0, ev_modI (show (0 : Int) < 3 by decide), c1]
        · simp [hp, a1]
      · by_cases c2 : y1 % 8 = 0
        · refine ⟨_, run (hset.trans ((seq_nx ((if_f ?_).trans (ev_sNil _))).trans (seq_rt ((if_t ?_).trans ((hset2 _).trans ((seq_nx ((if_f ?_).trans (ev_sNil _))).trans (seq_rt ((if_t ?_).trans (ret_ok ?_))))))))), made_book2 hw hnB hnB⟩
          · simp [k2]
          · simp [k6]
          · simp [i0, ev_modI (show (0 : Int) < 3 by decide), c1]
          · simp [i1, ev_modI (show (0 : Int) < 8 by decide), c2]
          · simp [hp, a1, a2, a3]
        · refine ⟨_, run (hset.trans ((seq_nx ((if_f ?_).trans (ev_sNil _))).trans (seq_rt ((if_t ?_).trans ((hset2 _).trans ((seq_nx ((if_f ?_).trans (ev_sNil _))).trans ((seq_nx ((if_f ?_).trans (ev_sNil _))).trans (ret_ok ?_)))))))), made_book2 hw hnB hmB⟩
          · simp [k2]
          · simp [k6]
          · simp [i0, ev_modI (show (0 : Int) < 3 by decide), c1]
          · simp [i1, ev_modI (show (0 : Int) < 8 by decide), c2]
          · have hm' : f__law_name [.lst ((l.map .int).drop 12)] = .ok (.str nm2) := by rw [← List.map_drop]; exact hm
            have d12' : slD (.lst (l.map .int)) (some 12) none = .ok (.lst ((l.map .int).drop 12)) := by rw [← List.map_drop]; exact d12
            simp [-List.map_drop, hp, a1, a2, a4, d12', hm']
    · refine ⟨_, run (hset.trans ((seq_nx ((if_f ?_).trans (ev_sNil _))).trans ((seq_nx ((if_f ?_).trans (ev_sNil _))).trans (ret_ok (ev_C _ _))))), made_seat⟩
      · simp [k2]
      · simp [k6]
end G72

set_option maxHeartbeats 4000000
/-! The plain law of k72: texts that are near, the law. -/
namespace G72
open PySem PySem.Spec PyProof.Rows L2 DL
open TL (tl)
/-! ### texts that are near -/
def n1 : List Str := ["", " ", "seat ", " seat", "Seat", "seats", "seat seat", "cut", "cut 1", "cut 1 2 3", "cut  1 2", "cut 1  2"]
def n2 : List Str := ["cut 1 2 ", " cut 1 2", "cut 01 2", "cut 1 02", "cut 10000 2", "cut 1 10000", "cut -1 2", "cut +1 2"]
def n3 : List Str := ["cut 1-2", "cut a b", "open", "open 1", "open 1 x", "Open 1 2", "opens 1 2", "print", "print ", "print a b c"]
def n4 : List Str := ["print a+b", "print A", "print a1", "print abcdefghi", "printa", "lend a  b", "return a ", "scrap a\n"]
def n5 : List Str := ["cut 1 2\nseat", "sell a"]
def nears : List Str := n1 ++ n2 ++ n3 ++ n4 ++ n5
theorem addL {a b : List Str} (h : a.length + b.length ≤ 1000) : addD (.lst (a.map .str)) (.lst (b.map .str)) = .ok (.lst ((a ++ b).map .str)) := by
  show chk (decide ((a.map D.str).length + (b.map D.str).length ≤ big)) (R.ok (D.lst (a.map D.str ++ b.map D.str))) = _
  rw [List.length_map, List.length_map, chk_of _ (Nat.le_trans h (by decide)), List.map_append]
theorem near_eq {k : Nat} (hk : k < 40) : ∃ t ∈ nears, f__law_near [.int (k : Int)] = .ok (.str t) := by
  have hl : nears.length = 40 := by decide
  have hkl : k < nears.length := by omega
  refine ⟨nears[k], List.getElem_mem hkl, ?_⟩
  have q1 : gLst (aCons (gC (.str "")) (aCons (gC (.str " ")) (aCons (gC (.str "seat ")) (aCons (gC (.str " seat")) (aCons (gC (.str "Seat")) (aCons (gC (.str "seats")) (aCons (gC (.str "seat seat")) (aCons (gC (.str "cut")) (aCons (gC (.str "cut 1")) (aCons (gC (.str "cut 1 2 3")) (aCons (gC (.str "cut  1 2")) (aCons (gC (.str "cut 1  2")) aNil)))))))))))) [some (.int (k : Int)), none] = .ok (.lst (n1.map .str)) := by simp; rfl
  have s2 : ∀ e : Dv, gLst (aCons (gC (.str "cut 1 2 ")) (aCons (gC (.str " cut 1 2")) (aCons (gC (.str "cut 01 2")) (aCons (gC (.str "cut 1 02")) (aCons (gC (.str "cut 10000 2")) (aCons (gC (.str "cut 1 10000")) (aCons (gC (.str "cut -1 2")) (aCons (gC (.str "cut +1 2")) aNil)))))))) e = .ok (.lst (n2.map .str)) := fun e => by simp; rfl
  have s3 : ∀ e : Dv, gLst (aCons (gC (.str "cut 1-2")) (aCons (gC (.str "cut a b")) (aCons (gC (.str "open")) (aCons (gC (.str "open 1")) (aCons (gC (.str "open 1 x")) (aCons (gC (.str "Open 1 2")) (aCons (gC (.str "opens 1 2")) (aCons (gC (.str "print")) (aCons (gC (.str "print ")) (aCons (gC (.str "print a b c")) aNil)))))))))) e = .ok (.lst (n3.map .str)) := fun e => by simp; rfl
  have s4 : ∀ e : Dv, gLst (aCons (gC (.str "print a+b")) (aCons (gC (.str "print A")) (aCons (gC (.str "print a1")) (aCons (gC (.str "print abcdefghi")) (aCons (gC (.str "printa")) (aCons (gC (.str "lend a  b")) (aCons (gC (.str "return a ")) (aCons (gC (.str "scrap a\n")) aNil)))))))) e = .ok (.lst (n4.map .str)) := fun e => by simp; rfl
  have s5 : ∀ e : Dv, gLst (aCons (gC (.str "cut 1 2\nseat")) (aCons (gC (.str "sell a")) aNil)) e = .ok (.lst (n5.map .str)) := fun e => by simp; rfl
  have v : ∀ (g : GE) (x a b : List Str), (∀ e : Dv, g e = .ok (.lst (b.map .str))) → a.length + b.length ≤ 1000 → g2 addD (gVar 1) g [some (.int (k : Int)), some (.lst (a.map .str))] = .ok (.lst ((a ++ b).map .str)) := fun g x a b h hl => by
    rw [ev_g2, show gVar 1 [some (.int (k : Int)), some (.lst (a.map .str))] = .ok (.lst (a.map .str)) from rfl, bind_ok, h, bind_ok, addL hl]
  have hx : ixD (.lst (nears.map .str)) (.int (k : Int)) = .ok (.str nears[k]) := by
    show (match atI (nears.map D.str) (k : Int) with | some d => R.ok d | none => .bad) = _
    rw [DL.atI_nat (x := D.str nears[k]) (by rw [List.getElem?_map, List.getElem?_eq_getElem hkl]; rfl)]
  refine run_rt rfl ?_ (e := [some (.int (k : Int)), some (.lst (nears.map .str))])
  unfold g__law_near
  refine (seq_nx (set_ok q1)).trans ((seq_nx (set_ok (v _ [] n1 n2 s2 (by decide)))).trans ((seq_nx (set_ok (v _ [] (n1 ++ n2) n3 s3 (by decide)))).trans ((seq_nx (set_ok (v _ [] (n1 ++ n2 ++ n3) n4 s4 (by decide)))).trans ((seq_nx (set_ok (v _ [] (n1 ++ n2 ++ n3 ++ n4) n5 s5 (by decide)))).trans (ret_ok ?_)))))
  rw [ev_g2, show gVar 1 _ = .ok (.lst (nears.map .str)) from rfl, bind_ok, show gVar 0 _ = .ok (.int (k : Int)) from rfl, bind_ok, hx]
def notTup : D → Bool
  | .tup _ => false
  | _ => true
theorem near_bad : nears.all (fun t => notTup (deedW t)) = true := by decide +kernel
theorem near_ok : nears.all (fun t => decide (t.length ≤ 1000) && (tl t).all fun c => decide (c < 1114112)) = true := by decide +kernel
theorem near_told {t : Str} (h : t ∈ nears) : TextOk t ∧ toldD t = .tup [.str "bad", .str t] := by
  have h1 := List.all_eq_true.mp near_bad t h
  have h2 := List.all_eq_true.mp near_ok t h
  obtain ⟨h3, h4⟩ := Bool.and_eq_true_iff.mp h2
  refine ⟨⟨of_decide_eq_true h3, fun c hc => of_decide_eq_true (List.all_eq_true.mp h4 c hc)⟩, ?_⟩
  unfold toldD
  cases e : deedW t with
  | tup l => rw [e] at h1; cases h1
  | _ => rfl
/-! ### equal answers -/
theorem form_same {k : Str} {r : List Str} {l : List D} (h : formD k r = .tup l) (fu : Nat) : l.length < 1000 ∧ ∀ d ∈ l, f__law_same (fu + 2) [d, d] = .ok (.bl true) := by
  unfold formD at h
  split at h
  · cases h
    refine ⟨by decide, fun d hd => ?_⟩
    rw [List.mem_singleton.mp hd]
    exact same_str _ _
  · split at h
    · split at h
      · split at h
        · cases h
          refine ⟨Nat.lt_of_lt_of_le (show 3 < 4 by decide) (by decide), fun d hd => ?_⟩
          simp only [List.mem_cons, List.not_mem_nil, or_false] at hd
          rcases hd with rfl | rfl | rfl
          · exact same_str _ _
          · exact same_int _ _
          · exact same_int _ _
        · cases h
      · cases h
    · split at h
      · split at h
        · rename_i c
          cases h
          simp only [Bool.and_eq_true, decide_eq_true_eq] at c
          refine ⟨Nat.lt_of_lt_of_le (show 2 < 4 by decide) (by decide), fun d hd => ?_⟩
          simp only [List.mem_cons, List.not_mem_nil, or_false] at hd
          rcases hd with rfl | rfl
          · exact same_str _ _
          · refine same_tup (fu + 1) _ (by rw [List.length_map]; omega) fun d hd => ?_
            obtain ⟨w, _, rfl⟩ := List.mem_map.mp hd
            exact same_str _ _
        · cases h
      · cases h
theorem deedW_form {t : Str} (h : TextOk t) {l : List D} (hd : deedW t = .tup l) : (∀ fu, l.length < 1000 ∧ ∀ d ∈ l, f__law_same (fu + 2) [d, d] = .ok (.bl true)) ∧ f_write_deed [.tup l] = .ok (.str t) := by
  obtain ⟨k, r, w⟩ := words_of h
  rw [deedW_eq w] at hd
  exact ⟨fun fu => form_same hd fu, write_eq h w hd⟩
theorem told_same {t : Str} (h : TextOk t) : f__law_same 6 [toldD t, toldD t] = .ok (.bl true) := by
  unfold toldD
  split
  · rename_i l e
    refine same_tup 5 _ (Nat.lt_of_lt_of_le (show 2 < 4 by decide) (by decide)) fun d hd => ?_
    simp only [List.mem_cons, List.not_mem_nil, or_false] at hd
    rcases hd with rfl | rfl
    · exact same_str _ _
    · obtain ⟨h1, h2⟩ := (deedW_form h e).1 2
      exact same_tup 4 _ h1 h2
  · refine same_tup 5 _ (Nat.lt_of_lt_of_le (show 2 < 4 by decide) (by decide)) fun d hd => ?_
    simp only [List.mem_cons, List.not_mem_nil, or_false] at hd
    rcases hd with rfl | rfl
    · exact same_str _ _
    · exact same_str _ _
end G72

set_option maxHeartbeats 4000000
/-! The plain law of k72: the law says True. -/
namespace G72
open PySem PySem.Spec PyProof.Rows L2 DL
open TL (tl)
def signs : Str := "cutopenrisaldkz AZ09+-.:\n "
def szAt (n : Int) : GE := gCall (un intD) (aCons (g2 ixD (gVar 1) (g2 addD (gC (.int n)) (g2 mulD (gC (.int 3)) (gVar 6)))) aNil)
def gAt : GE := g2 modD (szAt 1) (g2 addD (gCall (un lenD) (aCons (gVar 3) aNil)) (gC (.int 1)))
def gSign : GE := g2 ixD (gVar 5) (g2 modD (szAt 2) (gCall (un lenD) (aCons (gVar 5) aNil)))
def gChg : GE := g2 addD (g2 addD (gSl (gVar 3) pNone (pSome (gVar 7))) (g2 ixD (gLst (aCons (gC (.str "")) (aCons (gVar 8) (aCons (gVar 8) aNil)))) (g2 modD (szAt 3) (gC (.int 3))))) (gSl (gVar 3) (pSome (g2 addD (gVar 7) (g2 ixD (gLst (aCons (gC (.int 1)) (aCons (gC (.int 0)) (aCons (gC (.int 1)) aNil)))) (g2 modD (szAt 3) (gC (.int 3)))))) pNone)
def tSame (same : List D → R D) : GT := tNotG (gB (gCall same (aCons (gCall f__law_told (aCons (gVar 9) aNil)) (aCons (gCall f__law_due (aCons (gVar 9) aNil)) aNil))))
def tWrite (same : List D → R D) : GT := tAndG (gB (g2 eqD (g2 ixD (gCall f__law_due (aCons (gVar 9) aNil)) (gC (.int 0))) (gC (.str "deed")))) (tNotG (gB (gCall same (aCons (gCall f_write_deed (aCons (g2 ixD (gCall f__law_due (aCons (gVar 9) aNil)) (gC (.int 1))) aNil)) (aCons (gVar 9) aNil)))))
def body1 (same : List D → R D) : GS := sSeq (sSet 7 gAt) (sSeq (sSet 8 gSign) (sSeq (sSet 9 gChg) (sSeq (sIf (tSame same) (sRet (gC (.bl false))) sNil) (sIf (tWrite same) (sRet (gC (.bl false))) sNil))))
def body2 (same : List D → R D) : GS := sIf (tNotG (gB (gCall same (aCons (gCall f__law_told (aCons (gCall f__law_near (aCons (gVar 6) aNil)) aNil)) (aCons (DL.gTup (aCons (gC (.str "bad")) (aCons (gCall f__law_near (aCons (gVar 6) aNil)) aNil))) aNil))))) (sRet (gC (.bl false))) sNil
def lEnv (ns sz : List Int) (kind : Int) (t : Str) (due : D) (o6 o7 o8 o9 : Option D) : Dv := [some (.scr ns), some (.lst (sz.map .int)), some (.int kind), some (.str t), some due, some (.str signs), o6, o7, o8, o9]
section
variable {ns sz : List Int} {kind : Int} {t : Str} {due : D}
theorem szAt_eq {n k : Nat} (h : n + 3 * k < sz.length) (o7 o8 o9 : Option D) : szAt (n : Int) (lEnv ns sz kind t due (some (.int (k : Int))) o7 o8 o9) = .ok (.int (sz.getD (n + 3 * k) 0)) := by
  have h1 : ixD (.lst (sz.map .int)) (.int ((n : Int) + 3 * (k : Int))) = .ok (.int (sz.getD (n + 3 * k) 0)) := by
    have e : (n : Int) + 3 * (k : Int) = ((n + 3 * k : Nat) : Int) := by omega
    rw [e]
    exact ixI _ h
  have m1 : mulD (.int 3) (.int (k : Int)) = .ok (.int (3 * (k : Int))) := ev_mulI (.inl (by decide))
  unfold szAt lEnv
  simp [-List.getD_eq_getElem?_getD, m1, h1]
theorem at_eq {k : Nat} (h : 1 + 3 * k < sz.length) (ht : t.length ≤ 100) (o7 o8 o9 : Option D) : ∃ a : Nat, gAt (lEnv ns sz kind t due (some (.int (k : Int))) o7 o8 o9) = .ok (.int (a : Int)) := by
  have h1 := szAt_eq (ns := ns) (kind := kind) (t := t) (due := due) (n := 1) h o7 o8 o9
  have hl : lenD (.str t) = .ok (.int t.length) := ev_lenS (Nat.le_trans ht (by decide))
  have hp : (0 : Int) < (t.length : Int) + 1 := by omega
  refine ⟨(sz.getD (1 + 3 * k) 0 % ((t.length : Int) + 1)).toNat, ?_⟩
  have e : (((sz.getD (1 + 3 * k) 0 % ((t.length : Int) + 1)).toNat : Nat) : Int) = sz.getD (1 + 3 * k) 0 % ((t.length : Int) + 1) := by
    have := Int.emod_nonneg (sz.getD (1 + 3 * k) 0) (show (t.length : Int) + 1 ≠ 0 by omega)
    omega
  rw [e]
  have h1' : szAt 1 (lEnv ns sz kind t due (some (.int (k : Int))) o7 o8 o9) = .ok (.int (sz.getD (1 + 3 * k) 0)) := h1
  have h2 : g2 addD (gCall (un lenD) (aCons (gVar 3) aNil)) (gC (.int 1)) (lEnv ns sz kind t due (some (.int (k : Int))) o7 o8 o9) = .ok (.int ((t.length : Int) + 1)) := by
    unfold lEnv
    simp [hl]
  unfold gAt
  rw [ev_g2, h1', bind_ok, h2, bind_ok, ev_modI hp]
theorem signs_len : signs.length = 26 := by decide
theorem signs_chr : ∀ c ∈ tl signs, c < 1114112 := by decide +kernel
theorem sign_eq {k : Nat} (h : 2 + 3 * k < sz.length) (o7 o8 o9 : Option D) : ∃ c, c < 1114112 ∧ gSign (lEnv ns sz kind t due (some (.int (k : Int))) o7 o8 o9) = .ok (.str ⟨#[c]⟩) := by
  have h1 : szAt 2 (lEnv ns sz kind t due (some (.int (k : Int))) o7 o8 o9) = .ok (.int (sz.getD (2 + 3 * k) 0)) := szAt_eq (ns := ns) (kind := kind) (t := t) (due := due) (n := 2) h o7 o8 o9
  have hl : lenD (.str signs) = .ok (.int 26) := ev_lenS (by decide)
  generalize sz.getD (2 + 3 * k) 0 = y at h1
  have hy0 := Int.emod_nonneg y (show (26 : Int) ≠ 0 by decide)
  have hy1 := Int.emod_lt_of_pos y (show (0 : Int) < 26 by decide)
  have hlt : (y % 26).toNat < (tl signs).length := by
    rw [← TL.len_tl, signs_len]
    omega
  have hx : ixD (.str signs) (.int (y % 26)) = .ok (.str ⟨#[(tl signs)[(y % 26).toNat]]⟩) := by
    have e : ((((y % 26).toNat : Nat)) : Int) = y % 26 := by omega
    have hat := DL.atI_nat (List.getElem?_eq_getElem hlt)
    rw [e] at hat
    show chk (decide (signs.length ≤ big)) (match atI (tl signs) (y % 26) with | some c => R.ok (D.str ⟨#[c]⟩) | none => .bad) = _
    rw [chk_of _ (by decide), hat]
  refine ⟨_, signs_chr _ (List.getElem_mem hlt), ?_⟩
  have h2 : g2 modD (szAt 2) (gCall (un lenD) (aCons (gVar 5) aNil)) (lEnv ns sz kind t due (some (.int (k : Int))) o7 o8 o9) = .ok (.int (y % 26)) := by
    have h3 : gCall (un lenD) (aCons (gVar 5) aNil) (lEnv ns sz kind t due (some (.int (k : Int))) o7 o8 o9) = .ok (.int 26) := by
      unfold lEnv
      simp [hl]
    rw [ev_g2, h1, bind_ok, h3, bind_ok, ev_modI (by decide)]
  unfold gSign
  rw [ev_g2, show gVar 5 (lEnv ns sz kind t due (some (.int (k : Int))) o7 o8 o9) = .ok (.str signs) from rfl, bind_ok, h2, bind_ok, hx]
theorem cut_chr {z : Str} {lo hi : Option Int} {P : Nat → Prop} (h : ∀ c ∈ tl z, P c) : ∀ c ∈ tl (cutS z lo hi), P c := fun c hc => by
  rw [tl_cut] at hc
  unfold cutL at hc
  exact h c (List.mem_of_mem_drop (List.mem_of_mem_take hc))
theorem chg_eq {k a c : Nat} (h : 3 + 3 * k < sz.length) (ht : TextOk t) (ht2 : t.length ≤ 100) (hc : c < 1114112) (o9 : Option D) : ∃ ch, gChg (lEnv ns sz kind t due (some (.int (k : Int))) (some (.int (a : Int))) (some (.str ⟨#[c]⟩)) o9) = .ok (.str ch) ∧ TextOk ch := by
  have h1 : szAt 3 (lEnv ns sz kind t due (some (.int (k : Int))) (some (.int (a : Int))) (some (.str ⟨#[c]⟩)) o9) = .ok (.int (sz.getD (3 + 3 * k) 0)) := szAt_eq (ns := ns) (kind := kind) (t := t) (due := due) (n := 3) h _ _ _
  generalize sz.getD (3 + 3 * k) 0 = y at h1
  have hy0 := Int.emod_nonneg y (show (3 : Int) ≠ 0 by decide)
  have hy1 := Int.emod_lt_of_pos y (show (0 : Int) < 3 by decide)
  have hm : g2 modD (szAt 3) (gC (.int 3)) (lEnv ns sz kind t due (some (.int (k : Int))) (some (.int (a : Int))) (some (.str ⟨#[c]⟩)) o9) = .ok (.int (y % 3)) := by
    rw [ev_g2, h1, bind_ok, ev_C, bind_ok, ev_modI (by decide)]
  obtain ⟨x, hx, hxl, hxc⟩ : ∃ x : Str, ixD (.lst [.str "", .str ⟨#[c]⟩, .str ⟨#[c]⟩]) (.int (y % 3)) = .ok (.str x) ∧ x.length ≤ 1 ∧ ∀ d ∈ tl x, d < 1114112 := by
    have : y % 3 = 0 ∨ y % 3 = 1 ∨ y % 3 = 2 := by omega
    have hch : ∀ d ∈ tl (⟨#[c]⟩ : Str), d < 1114112 := fun d hd => by
      have : d = c := by simpa using (show d ∈ [c] from hd)
      omega
    rcases this with e | e | e <;> rw [e]
    · exact ⟨"", rfl, by decide, by decide +kernel⟩
    · exact ⟨⟨#[c]⟩, rfl, Nat.le_refl 1, hch⟩
    · exact ⟨⟨#[c]⟩, rfl, Nat.le_refl 1, hch⟩
  obtain ⟨j, hj⟩ : ∃ j : Nat, ixD (.lst [.int 1, .int 0, .int 1]) (.int (y % 3)) = .ok (.int (j : Int)) := by
    have : y % 3 = 0 ∨ y % 3 = 1 ∨ y % 3 = 2 := by omega
    rcases this with e | e | e <;> rw [e]
    · exact ⟨1, rfl⟩
    · exact ⟨0, rfl⟩
    · exact ⟨1, rfl⟩
  have hb : t.length ≤ big := Nat.le_trans ht2 (by decide)
  have q1 : slD (.str t) none (some (a : Int)) = .ok (.str (cutS t none (some (a : Int)))) := slS hb _ _
  have q2 : slD (.str t) (some ((a : Int) + (j : Int))) none = .ok (.str (cutS t (some ((a : Int) + (j : Int))) none)) := slS hb _ _
  have w1 := cutS_len t none (some (a : Int))
  have w2 := cutS_len t (some ((a : Int) + (j : Int))) none
  have a1 : addD (.str (cutS t none (some (a : Int)))) (.str x) = .ok (.str (cutS t none (some (a : Int)) ++ x)) := addS (by omega)
  have l1 : (cutS t none (some (a : Int)) ++ x).length = (cutS t none (some (a : Int))).length + x.length := app_len _ _
  have a2 : addD (.str (cutS t none (some (a : Int)) ++ x)) (.str (cutS t (some ((a : Int) + (j : Int))) none)) = .ok (.str (cutS t none (some (a : Int)) ++ x ++ cutS t (some ((a : Int) + (j : Int))) none)) := addS (by omega)
  refine ⟨cutS t none (some (a : Int)) ++ x ++ cutS t (some ((a : Int) + (j : Int))) none, ?_, ⟨?_, app_chr (app_chr (cut_chr ht.chr) hxc) (cut_chr ht.chr)⟩⟩
  · generalize hE : lEnv ns sz kind t due (some (.int (k : Int))) (some (.int (a : Int))) (some (.str ⟨#[c]⟩)) o9 = E at hm
    have v3 : gVar 3 E = .ok (.str t) := by rw [← hE]; rfl
    have v7 : gVar 7 E = .ok (.int (a : Int)) := by rw [← hE]; rfl
    have v8 : gVar 8 E = .ok (.str ⟨#[c]⟩) := by rw [← hE]; rfl
    have r1 : gSl (gVar 3) pNone (pSome (gVar 7)) E = .ok (.str (cutS t none (some (a : Int)))) := by
      simp [v3, v7, q1]
    have r2 : g2 ixD (gLst (aCons (gC (.str "")) (aCons (gVar 8) (aCons (gVar 8) aNil)))) (g2 modD (szAt 3) (gC (.int 3))) E = .ok (.str x) := by
      rw [ev_g2, hm]
      simp [v8, hx]
    have r3 : g2 ixD (gLst (aCons (gC (.int 1)) (aCons (gC (.int 0)) (aCons (gC (.int 1)) aNil)))) (g2 modD (szAt 3) (gC (.int 3))) E = .ok (.int (j : Int)) := by
      rw [ev_g2, hm]
      simp [hj]
    have r4 : gSl (gVar 3) (pSome (g2 addD (gVar 7) (g2 ixD (gLst (aCons (gC (.int 1)) (aCons (gC (.int 0)) (aCons (gC (.int 1)) aNil)))) (g2 modD (szAt 3) (gC (.int 3)))))) pNone E = .ok (.str (cutS t (some ((a : Int) + (j : Int))) none)) := by
      rw [ev_Sl, v3, bind_ok, ev_pSome, ev_g2, v7, bind_ok, r3, bind_ok, ev_addI, bind_ok]
      show (R.ok (some ((a : Int) + (j : Int))) : R (Option Int)).bind _ = _
      rw [bind_ok, ev_pNone, bind_ok, q2]
    unfold gChg
    rw [ev_g2, ev_g2, r1, bind_ok, r2, bind_ok, a1, bind_ok, r4, bind_ok, a2]
  · rw [app_len, l1]
    omega
theorem same_eq {same : List D → R D} {ch : Str} (hc : TextOk ch) (hs : ∀ t, TextOk t → same [toldD t, toldD t] = .ok (.bl true)) {E : Dv} (h9 : gVar 9 E = .ok (.str ch)) : tSame same E = .ok false := by
  have d := due_eq hc
  have w := told_eq hc
  have s := hs ch hc
  unfold tSame
  simp [h9, d, w, s]
theorem write_ok {same : List D → R D} {ch : Str} (hc : TextOk ch) (hs2 : ∀ t : Str, same [.str t, .str t] = .ok (.bl true)) {E : Dv} (h9 : gVar 9 E = .ok (.str ch)) : tWrite same E = .ok false := by
  have d := due_eq hc
  unfold tWrite
  unfold toldD at d
  cases e : deedW ch with
  | tup l =>
    rw [e] at d
    obtain ⟨_, hw⟩ := deedW_form hc e
    have i0 : ixD (.tup [.str "deed", .tup l]) (.int 0) = .ok (.str "deed") := rfl
    have i1 : ixD (.tup [.str "deed", .tup l]) (.int 1) = .ok (.tup l) := rfl
    have s := hs2 ch
    simp [h9, d, i0, i1, hw, s]
  | _ =>
    rw [e] at d
    have i0 : ixD (.tup [.str "bad", .str ch]) (.int 0) = .ok (.str "bad") := rfl
    have ne : decide (("bad" : Str) = "deed") = false := by decide
    rw [ev_and, ev_B, ev_g2, ev_g2, ev_call, ev_aCons, h9, bind_ok, ev_aNil, bind_ok, bind_ok, d, bind_ok, ev_C, bind_ok, i0, bind_ok, ev_C, bind_ok, ev_eqS, ne]
    rfl
def Inv1 (ns sz : List Int) (kind : Int) (t : Str) (due : D) (_ : List D) (e : Dv) : Prop := ∃ o6 o7 o8 o9, e = lEnv ns sz kind t due o6 o7 o8 o9
theorem loop1 {same : List D → R D} (hs : ∀ t, TextOk t → same [toldD t, toldD t] = .ok (.bl true)) (hs2 : ∀ t : Str, same [.str t, .str t] = .ok (.bl true)) (hsz : sz.length = 16) (ht : TextOk t) (ht2 : t.length ≤ 100) (o6 o7 o8 o9 : Option D) :
    ∃ e, loopG (tgN 6) (body1 same) (rngL 0 3) (lEnv ns sz kind t due o6 o7 o8 o9) = .nx e ∧ Inv1 ns sz kind t due (rngL 0 3) e := by
  refine loop_inv (i := 6) (Inv1 ns sz kind t due) (done := []) ⟨o6, o7, o8, o9, rfl⟩ (fun pre d post env hp h => ?_)
  obtain ⟨o6, o7, o8, o9, rfl⟩ := h
  have hd : d ∈ rngL 0 3 := by
    rw [List.nil_append] at hp
    rw [hp]
    exact List.mem_append_right _ List.mem_cons_self
  obtain ⟨k, hk, rfl⟩ := List.mem_map.mp hd
  rw [List.mem_range] at hk
  rw [Int.zero_add]
  show ∃ e, body1 same (lEnv ns sz kind t due (some (.int (k : Int))) o7 o8 o9) = .nx e ∧ _
  obtain ⟨a, ha⟩ := at_eq (ns := ns) (sz := sz) (kind := kind) (t := t) (due := due) (k := k) (by omega) ht2 o7 o8 o9
  obtain ⟨c, hc, hsg⟩ := sign_eq (ns := ns) (sz := sz) (kind := kind) (t := t) (due := due) (k := k) (by omega) (some (.int (a : Int))) o8 o9
  obtain ⟨ch, hch, hok⟩ := chg_eq (ns := ns) (sz := sz) (kind := kind) (t := t) (due := due) (k := k) (a := a) (c := c) (by omega) ht ht2 hc o9
  refine ⟨lEnv ns sz kind t due (some (.int (k : Int))) (some (.int (a : Int))) (some (.str ⟨#[c]⟩)) (some (.str ch)), ?_, ⟨_, _, _, _, rfl⟩⟩
  unfold body1
  exact (seq_nx (set_ok ha)).trans ((seq_nx (set_ok hsg)).trans ((seq_nx (set_ok hch)).trans ((seq_nx ((if_f (same_eq (ch := ch) hok hs rfl)).trans (ev_sNil _))).trans ((if_f (write_ok (ch := ch) hok hs2 rfl)).trans (ev_sNil _)))))
theorem loop2 {same : List D → R D} (hs : ∀ t, TextOk t → same [toldD t, toldD t] = .ok (.bl true)) (o6 o7 o8 o9 : Option D) :
    ∃ e, loopG (tgN 6) (body2 same) (rngL 0 40) (lEnv ns sz kind t due o6 o7 o8 o9) = .nx e ∧ Inv1 ns sz kind t due (rngL 0 40) e := by
  refine loop_inv (i := 6) (Inv1 ns sz kind t due) (done := []) ⟨o6, o7, o8, o9, rfl⟩ (fun pre d post env hp h => ?_)
  obtain ⟨o6, o7, o8, o9, rfl⟩ := h
  have hd : d ∈ rngL 0 40 := by
    rw [List.nil_append] at hp
    rw [hp]
    exact List.mem_append_right _ List.mem_cons_self
  obtain ⟨k, hk, rfl⟩ := List.mem_map.mp hd
  rw [List.mem_range] at hk
  rw [Int.zero_add]
  show ∃ e, body2 same (lEnv ns sz kind t due (some (.int (k : Int))) o7 o8 o9) = .nx e ∧ _
  obtain ⟨x, hx, hn⟩ := near_eq hk
  obtain ⟨hok, htd⟩ := near_told hx
  have w := told_eq hok
  have s := hs x hok
  rw [htd] at w s
  refine ⟨_, (if_f ?_).trans (ev_sNil _), ⟨_, _, _, _, rfl⟩⟩
  have v6 : gVar 6 (lEnv ns sz kind t due (some (.int (k : Int))) o7 o8 o9) = .ok (.int (k : Int)) := rfl
  simp [v6, hn, w, s]
end
theorem law_true (ns : List Int) : f_law 6 [.scr ns] = .ok (.bl true) := by
  obtain ⟨sz, hd, hlen, hl⟩ := draws_eq (ns := ns) (place := 0) (base := 60) (many := 16) (by decide) (by decide) (by decide) (by decide) (by decide)
  have hd : f__law_draws [.scr ns, .int 0, .int 16, .int 60] = .ok (.lst (sz.map .int)) := hd
  have i0 : ixD (.lst (sz.map .int)) (.int 0) = .ok (.int (sz.getD 0 0)) := ixI 0 (by omega)
  generalize sz.getD 0 0 = y at i0
  obtain ⟨t, htext, hm⟩ := text_eq ns (kind := y % 7) ⟨Int.emod_nonneg _ (by decide), Int.emod_lt_of_pos _ (by decide)⟩
  obtain ⟨l, hdw⟩ := hm.deed
  have htold : toldD t = .tup [.str "deed", .tup l] := by unfold toldD; rw [hdw]
  have hdue := due_eq hm.ok
  have htd := told_eq hm.ok
  obtain ⟨_, hw⟩ := deedW_form hm.ok hdw
  have hs := fun (t : Str) (h : TextOk t) => told_same h
  have hs2 := fun (t : Str) => same_str 5 t
  have hs2 : ∀ t : Str, f__law_same 6 [.str t, .str t] = .ok (.bl true) := hs2
  have hsame := hs t hm.ok
  have hsame2 := hs2 t
  generalize hS : f__law_same 6 = same at hs hs2 hsame hsame2
  obtain ⟨e1, h1, q6, q7, q8, q9, rfl⟩ := loop1 (ns := ns) (sz := sz) (kind := y % 7) (t := t) (due := toldD t) hs hs2 hlen hm.ok hm.short none none none none
  obtain ⟨e2, h2, p6, p7, p8, p9, rfl⟩ := loop2 (ns := ns) (sz := sz) (kind := y % 7) (t := t) (due := toldD t) hs q6 q7 q8 q9
  have r3 : ∀ e : Dv, iArg rng1D (aCons (gC (.int 3)) aNil) e = .ok (rngL 0 3) := fun e => rfl
  have r40 : ∀ e : Dv, iArg rng1D (aCons (gC (.int 40)) aNil) e = .ok (rngL 0 40) := fun e => rfl
  have k0 : ixD (toldD t) (.int 0) = .ok (.str "deed") := by rw [htold]; rfl
  have k1 : ixD (toldD t) (.int 1) = .ok (.tup l) := by rw [htold]; rfl
  refine run_rt rfl ?_ (e := lEnv ns sz (y % 7) t (toldD t) p6 p7 p8 p9)
  unfold g_law
  rw [hS]
  refine (seq_nx (set_ok (d := .lst (sz.map .int)) ?_)).trans ((seq_nx (set_ok (d := .int (y % 7)) ?_)).trans ((seq_nx (set_ok (d := .str t) ?_)).trans ((seq_nx (set_ok (d := toldD t) ?_)).trans ((seq_nx ((if_f ?_).trans (ev_sNil _))).trans ((seq_nx (set_ok (d := .str signs) (ev_C _ _))).trans ((seq_nx ((for_ok (r3 _)).trans h1)).trans ((seq_nx ((for_ok (r40 _)).trans h2)).trans (ret_ok (ev_C _ _)))))))))
  · simp [hd]
  · simp [i0, ev_modI (show (0 : Int) < 7 by decide)]
  · simp [htext]
  · simp [hdue]
  · simp [k0, k1, htd, hsame, hw, hsame2]
end G72

set_option maxHeartbeats 4000000
/-! The head's facts for the value layer, by names. -/
namespace DH
open PySem PySem.Spec PyProof.Rows L2 DL He
abbrev FnX : Type := Option (Str × Str × Arguments × FuncBody × Scope × Addr × List Str × Addr)
def fnX (K : PySem.W.Frag) (p : Str × Option Str) : FnX := match K.lookup (fAd K p) with
  | some ⟨_, _, .func fd, _⟩ => some (fd.name, fd.qualname, fd.params, fd.body, fd.scope, fd.globals, fd.closure.map (·.1), fd.builtins)
  | _ => none
abbrev AlX : Type := Bool × List FnX
def obsX (chk : PySem.W.Frag → Bool) (ps : List (Str × Option Str)) (K : PySem.W.Frag) : AlX := (chk K, ps.map (fnX K))
def asX (g : Addr → Option Obj) : List Addr := cStatics :: asD g 4
def hookX (chk : PySem.W.Frag → Bool) (ps : List (Str × Option Str)) (vals : List FnX) : PySem.W.Hook where
  α := AlX
  obs := fun s => obsX chk ps (frG s.heap.get? (asX s.heap.get?))
  val := fun _ => (true, vals)
  says := fun _ h => ∃ K : PySem.W.Frag, K.In h ∧ obsX chk ps K = (true, vals)
  of := fun _ _ e => ⟨_, frG_in, e⟩
  keeps := fun _ _ _ ⟨K, hK, c⟩ k => ⟨K, PySem.W.Frag.In.keeps hK k, c⟩
theorem obsX_eq {chk : PySem.W.Frag → Bool} {ps : List (Str × Option Str)} {vals : List FnX} {g : Addr → Option Obj} {s : Shared} (h : ∀ a, g a = s.heap.get? a) : obsX chk ps (frG g (asX g)) = (hookX chk ps vals).obs s := by
  have e : g = s.heap.get? := funext h
  rw [e] <;> rfl
/-! ### defs -/
def defVal (x : Str) (st : Stmt) : FnX := some (x, x, defArgs st, .stmts (defBody st), defScope st, mainGlobals, [], builtinsNs)
def defB (K : PySem.W.Frag) (x : Str) : Bool := PySem.W.keepIn K (.ref (ga K x)) && (eqO (PySem.W.nsIn K mainGlobals x) (some (some (.ref (ga K x)))) && (match K.lookup (ga K x) with
  | some ⟨_, _, .func fd, _⟩ => PySem.W.codeIn K fd.code x && (match fd.defaults with | .none => true | _ => false)
  | _ => false))
section
variable {K : PySem.W.Frag} {h : Heap} {mg : Str → Option Value}
theorem df_ok (X : K.In h) (G : h.Ns mainGlobals mg) {x : Str} {st : Stmt} {ps : List Str} (e : fnX K (x, none) = defVal x st) (c : defB K x = true)
    (hb : ∀ (kV doc pm : Value) (an : Option Addr) (cdv ct : Value) (us : List Value), us.length = ps.length → bindArgs (PySem.W.fnOf x x (defArgs st) (defBody st) (defScope st) .none kV doc pm an cdv ct) ⟨us, []⟩ = pure (ps.zip us)) : Df K mg x st ps := by
  obtain ⟨c1, c⟩ := ba c
  obtain ⟨c2, c3⟩ := ba c
  have hm : mg x = some (.ref (ga K x)) := PySem.W.mg_of X G (eqO_ok c2)
  have e1 : (match K.lookup (ga K x) with | some ⟨_, _, .func fd, _⟩ => some (fd.name, fd.qualname, fd.params, fd.body, fd.scope, fd.globals, fd.closure.map (·.1), fd.builtins) | _ => none) = defVal x st := e
  cases q : K.lookup (ga K x) with
  | none => rw [q] at c3; cases c3
  | some o =>
    obtain ⟨oc, od, dt, osl⟩ := o
    rw [q] at c3 e1
    cases dt with
    | func fd =>
      obtain ⟨n1, n2, n3, n4, n5, n6, n7, n8, n9, n10, n11, n12, n13, n14, n15⟩ := fd
      have e2 : (some (n1, n2, n3, n4, n5, n6, n7.map (·.1), n15) : FnX) = some (x, x, defArgs st, .stmts (defBody st), defScope st, mainGlobals, [], builtinsNs) := e1
      simp only [Option.some.injEq, Prod.mk.injEq, List.map_eq_nil_iff] at e2
      obtain ⟨h1, h2, h3, h4, h5, h6, h7, h8⟩ := e2
      subst h1 h2 h3 h4 h5 h6 h7 h8
      obtain ⟨k1, k2⟩ := ba c3
      cases n8 with
      | none =>
        have F := fun_mk (st := st) q k1 c1
        exact ⟨_, _, F, F.binds hb, hm, fun us hl => hb _ _ _ _ _ _ us hl⟩
      | _ => cases k2
    | _ => cases c3
/-! ### constants -/
theorem gc_int {C : Cid → Addr} (X : K.In h) (G : h.Ns mainGlobals mg) {x : Str} {i : Int} (c : (Fa.int x i).ok K = true) : Gc K mg C x (.int i) := by
  obtain ⟨t, e⟩ := int_ok X G c
  exact ⟨.int i, _, e, ⟨t, rfl⟩, fun _ => .int⟩
theorem gc_str {C : Cid → Addr} (X : K.In h) (G : h.Ns mainGlobals mg) {x z : Str} (c : (Fa.str x z).ok K = true) : Gc K mg C x (.str z) := by
  obtain ⟨t, e⟩ := str_ok X G c
  exact ⟨.str z, _, e, ⟨t, rfl⟩, fun _ => .str⟩
/-- a tuple of texts -/
def tupSB (K : PySem.W.Frag) (x : Str) (ws : List Str) : Bool := eqO (PySem.W.nsIn K mainGlobals x) (some (some (.ref (ga K x)))) && tupB K x (ws.map He.Dv.str)
theorem gc_tupS {C : Cid → Addr} (X : K.In h) (G : h.Ns mainGlobals mg) {x : Str} {ws : List Str} (c : tupSB K x ws = true) : Gc K mg C x (.tup (ws.map D.str)) := by
  obtain ⟨c1, c2⟩ := ba c
  refine ⟨.ref (ga K x), _, PySem.W.mg_of X G (eqO_ok c1), rfl, fun F => .tup (vs := ws.map V.str) ?_ (Reps.strs ws)⟩
  have q := tupB_ok c2 (fun _ => none)
  have e : (ws.map He.Dv.str).map (He.Dv.v K) = ws.map V.str := by
    rw [List.map_map]; rfl
  rw [e] at q
  refine .inr ?_
  rcases q with q | q
  · rcases q with q | ⟨_, q⟩ <;> cases q
  · exact q
/-! ### own errors -/
def clsB (K : PySem.W.Frag) (C : Addr) : Bool := match K.lookup C with
  | some ⟨.type t, _, .cls cd, sl⟩ => (match cd.mro, sl.toList with
    | .ref C' :: bm, [_, _, _, _, some (.builtin n), _] => decide (t = "type") && (decide (C' = C) && (decide (n = "ValueError.__new__") && (cd.hasDict && (!cd.hasDel && PySem.HandSPX.refsVE bm))))
    | _, _ => false)
  | _ => false
theorem clsB_ok {C : Addr} (c : clsB K C = true) : ∃ nm q N bs bm sn sub ab col dd k0 k1 k2 k3 k5, K.lookup C = some (excClassObj nm q C N bs bm true sn sub ab col dd k0 k1 k2 k3 k5 "ValueError.__new__") ∧ PySem.HandSPX.refsVE bm = true := by
  unfold clsB at c
  split at c
  · rename_i t dd cd sl ho
    split at c
    · rename_i C' bm k0 k1 k2 k3 n k5 hm hs
      obtain ⟨c1, c⟩ := ba c
      obtain ⟨c2, c⟩ := ba c
      obtain ⟨c3, c⟩ := ba c
      obtain ⟨c4, c⟩ := ba c
      obtain ⟨c5, c6⟩ := ba c
      have e1 := of_decide_eq_true c1
      have e2 := of_decide_eq_true c2
      have e3 := of_decide_eq_true c3
      subst e1 e2 e3
      obtain ⟨nm, bs, mro, ns, qn, hd, sn, sub, ab, col, del⟩ := cd
      dsimp only at hm c4 c5
      subst hm c4
      have c5' : del = false := by cases del <;> first | rfl | cases c5
      subst c5'
      have hsl : sl = #[k0, k1, k2, k3, some (.builtin "ValueError.__new__"), k5] := by
        obtain ⟨l⟩ := sl
        simp only at hs
        rw [hs]
      subst hsl
      exact ⟨nm, qn, ns, bs, bm, sn, sub, ab, col, dd, k0, k1, k2, k3, k5, ho, c6⟩
    · cases c
  · cases c
/-- where the class's __init__ stands, its cell, its code -/
def iAd (K : PySem.W.Frag) (C : Addr) : Addr := ma K C "__init__"
def iCell (K : PySem.W.Frag) (C : Addr) : Addr := match K.lookup (iAd K C) with
  | some ⟨_, _, .func fd, _⟩ => (match fd.closure with | [(_, c)] => c | _ => 0)
  | _ => 0
def iCode (K : PySem.W.Frag) (C : Addr) : Addr := match K.lookup (iAd K C) with
  | some ⟨_, _, .func fd, _⟩ => (match fd.code with | .ref c => c | _ => 0)
  | _ => 0
def initVal (q f m : Str) (p1 p2 q1 q2 q3 q4 q5 q6 r1 r2 r3 r4 : Pos) : FnX := some ("__init__", q, PySem.DX.iA f p1 p2, .stmts (PySem.DX.iB f m q1 q2 q3 q4 q5 q6 r1 r2 r3 r4), PySem.DX.iS f, mainGlobals, ["__class__"], builtinsNs)
def errB (file : Str) (K : PySem.W.Frag) (C : Addr) (q f : Str) : Bool := clsB K C && (eqO (PySem.W.findIn K (.ref C) "__setattr__") (some (some (.builtin "object.__setattr__"))) && (eqO (PySem.W.findIn K (.ref C) f) (some none) && (eqO (PySem.W.findIn K (.ref C) "__init__") (some (some (.ref (iAd K C)))) &&
  (decide (PySem.W.typeIn K (.ref (iAd K C)) = some (.type "function")) && (PySem.W.keepIn K (.ref C) && (decide (PySem.W.subIn K (.ref C) (.type "BaseException") = some true) && (decide (PySem.W.subIn K (.ref C) (.type "ValueError") = some true) &&
  (decide (PySem.W.typeIn K (.ref C) = some (.type "type")) && (decide (PySem.W.mroIn K C (.ref C) = some true) && (eqO (PySem.W.nsIn K cStatics "thirdparty.any") (some none) && (eqO (PySem.W.ks_superIn K C C "__init__") (some (some (.builtin "ValueError.__init__"))) &&
  ((match K.lookup (iCode K C) with | some ⟨_, _, .fields vs, _⟩ => (match vs[2]? with | some (Value.str z _) => decide (z = file) | _ => false) | _ => false) &&
  ((match K.lookup (iCell K C) with | some ⟨_, _, .cell (some (.ref b)), _⟩ => decide (b = C) | _ => false) &&
  (match K.lookup (iAd K C) with | some ⟨_, _, .func fd, _⟩ => (match fd.closure, fd.code, fd.defaults, fd.kwdefaults with | [(_, _)], .ref c, .none, .none => PySem.W.codeIn K (.ref c) q | _, _, _, _ => false) | _ => false))))))))))))))
theorem err_ok {file : Str} {C : Addr} {q f m : Str} {p1 p2 q1 q2 q3 q4 q5 q6 r1 r2 r3 r4 : Pos} (c : errB file K C q f = true) (hEv : PySem.DX.EvOk f m q1 q2 q3 q4 q5)
    (e : (match K.lookup (iAd K C) with | some ⟨_, _, .func fd, _⟩ => some (fd.name, fd.qualname, fd.params, fd.body, fd.scope, fd.globals, fd.closure.map (·.1), fd.builtins) | _ => none) = initVal q f m p1 p2 q1 q2 q3 q4 q5 q6 r1 r2 r3 r4) :
    PySem.DX.ETxt file K C (iAd K C) (iCell K C) (iCode K C) f m := by
  obtain ⟨a1, c⟩ := ba c
  obtain ⟨a2, c⟩ := ba c
  obtain ⟨a3, c⟩ := ba c
  obtain ⟨a4, c⟩ := ba c
  obtain ⟨a5, c⟩ := ba c
  obtain ⟨a6, c⟩ := ba c
  obtain ⟨a7, c⟩ := ba c
  obtain ⟨a8, c⟩ := ba c
  obtain ⟨a9, c⟩ := ba c
  obtain ⟨a10, c⟩ := ba c
  obtain ⟨a11, c⟩ := ba c
  obtain ⟨a12, c⟩ := ba c
  obtain ⟨a13, c⟩ := ba c
  obtain ⟨a14, a15⟩ := ba c
  refine ⟨clsB_ok a1, eqO_ok a2, eqO_ok a3, eqO_ok a4, of_decide_eq_true a5, a6, of_decide_eq_true a7, of_decide_eq_true a8, of_decide_eq_true a9, of_decide_eq_true a10, eqO_ok a11, eqO_ok a12, ?_, ?_, ?_⟩
  · split at a13
    · rename_i ho
      split at a13
      · rename_i hv
        have e1 := of_decide_eq_true a13
        subst e1
        exact ⟨_, _, _, _, _, ho, hv⟩
      · cases a13
    · cases a13
  · split at a14
    · rename_i ho
      have e1 := of_decide_eq_true a14
      subst e1
      exact ⟨_, _, _, ho⟩
    · cases a14
  · cases qk : K.lookup (iAd K C) with
    | none => rw [qk] at a15; cases a15
    | some o =>
      obtain ⟨oc, od, dt, osl⟩ := o
      rw [qk] at a15 e
      cases dt with
      | func fd =>
        obtain ⟨n1, n2, n3, n4, n5, n6, n7, n8, n9, n10, n11, n12, n13, n14, n15⟩ := fd
        cases n7 with
        | nil => cases a15
        | cons y n7 =>
          cases n7 with
          | cons _ _ => cases a15
          | nil =>
            cases n13 <;> try cases a15
            rename_i cd
            cases n8 <;> try cases a15
            cases n9 <;> try cases a15
            obtain ⟨y1, y2⟩ := y
            have e2 := e
            unfold initVal at e2
            simp only [Option.some.injEq, Prod.mk.injEq, List.map_cons, List.map_nil, List.cons.injEq] at e2
            obtain ⟨h1, h2, h3, h4, h5, h6, ⟨h7, _⟩, h8⟩ := e2
            subst h1 h2 h3 h4 h5 h6 h7 h8
            have i1 : iCell K C = y2 := by unfold iCell; rw [qk]
            have i2 : iCode K C = cd := by unfold iCode; rw [qk]
            rw [i1, i2]
            exact ⟨_, _, _, _, _, _, _, _, _, _, _, _, _, _, _, _, _, _, _, _, rfl, a15, hEv⟩
      | _ => cases a15
def xcB (K : PySem.W.Frag) (D : Addr) : Bool := (PySem.W.clsIn K D).isSome && (eqO (PySem.W.findIn K (.ref D) "__getattribute__") (some (some (.builtin "BaseException.__getattribute__"))) && (eqO (PySem.W.findIn K (.ref D) "__getattr__") (some none) && (decide (PySem.W.subIn K (.ref D) (.type "BaseException") = some true) && (PySem.W.hasDictIn K D &&
  (eqO (PySem.W.findIn K (.ref D) "__class__") (some (some (.builtin "object.__class__"))) && (eqO (PySem.W.specialIn K (.builtin "object.__class__") "__get__") (some (some (.builtin "getset_descriptor.__get__"))) && (decide (PySem.W.takesIn K (.builtin "object.__class__") = some true) && decide (PySem.W.mroIn K D (.type "object") = some true))))))))
theorem xc_ok {D : Addr} (c : xcB K D = true) : XcC K D := by
  obtain ⟨a1, c⟩ := ba c
  obtain ⟨a2, c⟩ := ba c
  obtain ⟨a3, c⟩ := ba c
  obtain ⟨a4, c⟩ := ba c
  obtain ⟨a5, c⟩ := ba c
  obtain ⟨a6, c⟩ := ba c
  obtain ⟨a7, c⟩ := ba c
  obtain ⟨a8, a9⟩ := ba c
  exact ⟨a1, eqO_ok a2, eqO_ok a3, of_decide_eq_true a4, a5, eqO_ok a6, eqO_ok a7, of_decide_eq_true a8, of_decide_eq_true a9⟩
end
end DH

set_option maxHeartbeats 0
/-! The head of bandstand_k72_deeds and the facts that the walk leans on, printed by gen.py. -/
namespace G72
open PySem PySem.Spec PyProof.Rows L2 DL
def loose0 : List PySem.Str := ["__name__", "BandError", "BadNumber", "BadText", "BadDeed", "NoSuchPlayer", "LETTERS", "DIGITS", "LONGEST_NAME", "LONGEST_NUMBER", "only", "is_name", "read_number", "read_numbers", "CUT_WORDS", "BOOK_WORDS", "read_names", "read_form", "read_deed", "write_deed", "_law_same", "_law_draws", "_law_number", "_law_is_name", "_law_due", "_law_told", "_law_name", "_law_text", "_law_near"]
def loose : List PySem.Str := loose0
abbrev R : PySem.W.OpenRow := PySem.W.OpenLaw.row PySem.Challenge.rw_bandstand_k72_deeds
def C0 (K : PySem.W.Frag) : Cid → Addr
  | 0 => He.ga K "BandError"
  | 1 => He.ga K "BadNumber"
  | 2 => He.ga K "BadText"
  | 3 => He.ga K "BadDeed"
  | 4 => He.ga K "NoSuchPlayer"
  | _ => 0
def facts0 (K : PySem.W.Frag) : List Bool := [DH.defB K "_law_draws",
  DH.defB K "_law_name",
  DH.defB K "_law_text",
  DH.defB K "_law_number",
  DH.defB K "_law_is_name",
  DH.defB K "_law_due",
  DH.defB K "_law_same",
  DH.defB K "only",
  DH.defB K "read_number",
  DH.defB K "read_numbers",
  DH.defB K "is_name",
  DH.defB K "read_names",
  DH.defB K "read_form",
  DH.defB K "read_deed",
  DH.defB K "_law_told",
  DH.defB K "write_deed",
  DH.defB K "_law_near",
  DH.defB K "law",
  He.Fa.ok K (.free "ValueError"),
  He.Fa.ok K (.free "abs")]
def facts1 (K : PySem.W.Frag) : List Bool := [He.Fa.ok K (.free "bool"),
  He.Fa.ok K (.free "int"),
  He.Fa.ok K (.free "isinstance"),
  He.Fa.ok K (.free "len"),
  He.Fa.ok K (.free "list"),
  He.Fa.ok K (.free "range"),
  He.Fa.ok K (.free "str"),
  He.Fa.ok K (.free "sum"),
  He.Fa.ok K (.free "super"),
  He.Fa.ok K (.free "tuple"),
  He.Fa.ok K (.str "LETTERS" "abcdefghijklmnopqrstuvwxyz"),
  He.Fa.ok K (.str "DIGITS" "0123456789"),
  He.Fa.ok K (.int "LONGEST_NAME" 8),
  He.Fa.ok K (.int "LONGEST_NUMBER" 4),
  DH.tupSB K "CUT_WORDS" ["cut", "open"],
  DH.tupSB K "BOOK_WORDS" ["print", "scrap", "lend", "return"],
  He.Fa.ok K (.glo "BadDeed"),
  He.Fa.ok K (.glo "BadNumber"),
  He.Fa.ok K (.glo "BadText"),
  He.Fa.ok K (.glo "BandError")]
def facts2 (K : PySem.W.Frag) : List Bool := [He.Fa.ok K (.glo "NoSuchPlayer"),
  DH.errB R.prog.main.file K (C0 K 3) "BadDeed.__init__" "text",
  DH.xcB K (C0 K 3),
  decide (PySem.W.exmOne K (.ref (C0 K 3)) (.ref (C0 K 0)) = tb__law_told_0 3),
  decide (PySem.W.kitAny K (.ref (C0 K 3)) [.ref (C0 K 2), .ref (C0 K 1), .ref (C0 K 4)] = tb__law_told_1 3),
  decide (PySem.W.kitOne K (.ref (C0 K 3)) (.type "ValueError") = tb__law_told_2 3),
  decide (PySem.W.kitOne K (.ref (C0 K 3)) (.ref (C0 K 3)) = tb__law_told_3 3),
  He.eqO (PySem.W.findIn K (.ref (C0 K 3)) "text") (some none)]
def chk (K : PySem.W.Frag) : Bool := (facts0 K).all id && (facts1 K).all id && (facts2 K).all id
def ps : List (Str × Option Str) := [("_law_draws", none), ("_law_name", none), ("_law_text", none), ("_law_number", none), ("_law_is_name", none), ("_law_due", none), ("_law_same", none), ("only", none), ("read_number", none), ("read_numbers", none), ("is_name", none), ("read_names", none), ("read_form", none), ("read_deed", none), ("_law_told", none), ("write_deed", none), ("_law_near", none), ("law", none), ("BadDeed", some "__init__")]
def vals : List DH.FnX := [DH.defVal "_law_draws" (top 24),
  DH.defVal "_law_name" (top 29),
  DH.defVal "_law_text" (top 30),
  DH.defVal "_law_number" (top 25),
  DH.defVal "_law_is_name" (top 26),
  DH.defVal "_law_due" (top 27),
  DH.defVal "_law_same" (top 23),
  DH.defVal "only" (top 11),
  DH.defVal "read_number" (top 13),
  DH.defVal "read_numbers" (top 14),
  DH.defVal "is_name" (top 12),
  DH.defVal "read_names" (top 18),
  DH.defVal "read_form" (top 19),
  DH.defVal "read_deed" (top 20),
  DH.defVal "_law_told" (top 28),
  DH.defVal "write_deed" (top 21),
  DH.defVal "_law_near" (top 31),
  DH.defVal "law" (top 32),
  DH.initVal "BadDeed.__init__" "text" "bad deed" ⟨16, 17, 16, 21⟩ ⟨16, 23, 16, 27⟩ ⟨17, 8, 17, 13⟩ ⟨17, 8, 17, 15⟩ ⟨17, 8, 17, 24⟩ ⟨17, 25, 17, 35⟩ ⟨17, 8, 17, 36⟩ ⟨17, 8, 17, 36⟩ ⟨18, 8, 18, 12⟩ ⟨18, 8, 18, 17⟩ ⟨18, 20, 18, 24⟩ ⟨18, 8, 18, 24⟩]
abbrev hk : PySem.W.Hook := DH.hookX chk ps vals
def ob (s : PySem.W.SharedT) : DH.AlX := DH.obsX chk ps (He.frG (HandSHeadRun.getT s) (DH.asX (HandSHeadRun.getT s)))
theorem ob_eq (s : PySem.W.SharedT) : ob s = hk.obs s.abs := DH.obsX_eq (HandSHeadRun.getT_eq s)
theorem run (w : World) : HandSHeadRun.RunEq R (PySem.W.view R.prog [32]) hk ob 2000 loose w := by
  intro os
  kernel_rfl
theorem chk_get {K : PySem.W.Frag} {k i : Nat} {l : List Bool} {b : Bool} (hl : l.all id = true) (h : l[i]? = some b) : b = true := List.all_eq_true.mp hl b (List.mem_of_getElem? h)
theorem chk0 {K : PySem.W.Frag} (h : chk K = true) : (facts0 K).all id = true := (He.ba (He.ba h).1).1
theorem chk1 {K : PySem.W.Frag} (h : chk K = true) : (facts1 K).all id = true := (He.ba (He.ba h).1).2
theorem chk2 {K : PySem.W.Frag} (h : chk K = true) : (facts2 K).all id = true := (He.ba h).2
theorem all_ok {P : Program} {w : World} {K : PySem.W.Frag} {h : Heap} {mg : Str → Option Value} {base : Heap} (X : K.In h) (G : h.Ns mainGlobals mg) (c : DH.obsX chk ps K = (true, vals)) (hfile : P.main.file = R.prog.main.file) (htop : (P.main.scope.names.lookup ("super" : Str)).isSome = false) (fu : Nat) : Good P w K mg base (C0 K) (fu + 7) "law" ["script"] .fz (f_law fu) := by
  have hc : chk K = true := congrArg (fun z : DH.AlX => z.1) c
  have hv : ps.map (DH.fnX K) = vals := congrArg (fun z : DH.AlX => z.2) c
  have hget : ∀ (i : Nat) (p : Str × Option Str) (v : DH.FnX), ps[i]? = some p → vals[i]? = some v → DH.fnX K p = v := fun i p v e1 e2 => by
    have z : (ps.map (DH.fnX K))[i]? = vals[i]? := by rw [hv]
    rw [List.getElem?_map, e1, e2] at z
    exact Option.some.inj z
  have NB : ∀ x ∈ nbs, mg x = none := by
    intro x hx
    simp only [nbs, List.mem_cons, List.not_mem_nil, or_false] at hx
    rcases hx with rfl | rfl | rfl | rfl | rfl | rfl | rfl | rfl | rfl | rfl | rfl | rfl
    · exact He.free_ok X G (chk_get (K := K) (k := 0) (i := 18) (chk0 hc) rfl)
    · exact He.free_ok X G (chk_get (K := K) (k := 0) (i := 19) (chk0 hc) rfl)
    · exact He.free_ok X G (chk_get (K := K) (k := 0) (i := 0) (chk1 hc) rfl)
    · exact He.free_ok X G (chk_get (K := K) (k := 0) (i := 1) (chk1 hc) rfl)
    · exact He.free_ok X G (chk_get (K := K) (k := 0) (i := 2) (chk1 hc) rfl)
    · exact He.free_ok X G (chk_get (K := K) (k := 0) (i := 3) (chk1 hc) rfl)
    · exact He.free_ok X G (chk_get (K := K) (k := 0) (i := 4) (chk1 hc) rfl)
    · exact He.free_ok X G (chk_get (K := K) (k := 0) (i := 5) (chk1 hc) rfl)
    · exact He.free_ok X G (chk_get (K := K) (k := 0) (i := 6) (chk1 hc) rfl)
    · exact He.free_ok X G (chk_get (K := K) (k := 0) (i := 7) (chk1 hc) rfl)
    · exact He.free_ok X G (chk_get (K := K) (k := 0) (i := 8) (chk1 hc) rfl)
    · exact He.free_ok X G (chk_get (K := K) (k := 0) (i := 9) (chk1 hc) rfl)
  have c_LETTERS := DH.gc_str (C := C0 K) X G (chk_get (K := K) (k := 0) (i := 10) (chk1 hc) rfl)
  have c_DIGITS := DH.gc_str (C := C0 K) X G (chk_get (K := K) (k := 0) (i := 11) (chk1 hc) rfl)
  have c_LONGEST_NAME := DH.gc_int (C := C0 K) X G (chk_get (K := K) (k := 0) (i := 12) (chk1 hc) rfl)
  have c_LONGEST_NUMBER := DH.gc_int (C := C0 K) X G (chk_get (K := K) (k := 0) (i := 13) (chk1 hc) rfl)
  have c_CUT_WORDS := DH.gc_tupS (C := C0 K) X G (chk_get (K := K) (k := 0) (i := 14) (chk1 hc) rfl)
  have c_BOOK_WORDS := DH.gc_tupS (C := C0 K) X G (chk_get (K := K) (k := 0) (i := 15) (chk1 hc) rfl)
  have g_BadDeed : mg "BadDeed" = some (.ref (C0 K 3)) := He.glo_ok X G (chk_get (K := K) (k := 0) (i := 16) (chk1 hc) rfl)
  have g_BadNumber : mg "BadNumber" = some (.ref (C0 K 1)) := He.glo_ok X G (chk_get (K := K) (k := 0) (i := 17) (chk1 hc) rfl)
  have g_BadText : mg "BadText" = some (.ref (C0 K 2)) := He.glo_ok X G (chk_get (K := K) (k := 0) (i := 18) (chk1 hc) rfl)
  have g_BandError : mg "BandError" = some (.ref (C0 K 0)) := He.glo_ok X G (chk_get (K := K) (k := 0) (i := 19) (chk1 hc) rfl)
  have g_NoSuchPlayer : mg "NoSuchPlayer" = some (.ref (C0 K 4)) := He.glo_ok X G (chk_get (K := K) (k := 0) (i := 0) (chk2 hc) rfl)
  have e_BadDeed := DH.err_ok (chk_get (K := K) (k := 0) (i := 1) (chk2 hc) rfl) (fun _ _ _ _ _ => ⟨_, rfl⟩) (hget 18 _ _ rfl rfl)
  rw [← hfile] at e_BadDeed
  have x_BadDeed := DH.xc_ok (chk_get (K := K) (k := 0) (i := 2) (chk2 hc) rfl)
  have D__law_draws : Df K mg "_law_draws" (top 24) ["script", "place", "many", "base"] := DH.df_ok X G (hget 0 _ _ rfl rfl) (chk_get (K := K) (k := 0) (i := 0) (chk0 hc) rfl) (fun _ _ _ _ _ _ us hl => match us, hl with | [_, _, _, _], _ => rfl)
  have G__law_draws := ok__law_draws (P := P) (w := w) (base := base) (C := C0 K) (D0 := D__law_draws) (NB := NB)
  have D__law_name : Df K mg "_law_name" (top 29) ["row"] := DH.df_ok X G (hget 1 _ _ rfl rfl) (chk_get (K := K) (k := 0) (i := 1) (chk0 hc) rfl) (fun _ _ _ _ _ _ us hl => match us, hl with | [_], _ => rfl)
  have G__law_name := ok__law_name (P := P) (w := w) (base := base) (C := C0 K) (D0 := D__law_name) (NB := NB)
  have D__law_text : Df K mg "_law_text" (top 30) ["script", "kind"] := DH.df_ok X G (hget 2 _ _ rfl rfl) (chk_get (K := K) (k := 0) (i := 2) (chk0 hc) rfl) (fun _ _ _ _ _ _ us hl => match us, hl with | [_, _], _ => rfl)
  have G__law_text := ok__law_text (P := P) (w := w) (base := base) (C := C0 K) (D0 := D__law_text) (NB := NB) (G__law_draws := G__law_draws) (G__law_name := G__law_name)
  have D__law_number : Df K mg "_law_number" (top 25) ["word"] := DH.df_ok X G (hget 3 _ _ rfl rfl) (chk_get (K := K) (k := 0) (i := 3) (chk0 hc) rfl) (fun _ _ _ _ _ _ us hl => match us, hl with | [_], _ => rfl)
  have G__law_number := ok__law_number (P := P) (w := w) (base := base) (C := C0 K) (D0 := D__law_number) (NB := NB)
  have D__law_is_name : Df K mg "_law_is_name" (top 26) ["word"] := DH.df_ok X G (hget 4 _ _ rfl rfl) (chk_get (K := K) (k := 0) (i := 4) (chk0 hc) rfl) (fun _ _ _ _ _ _ us hl => match us, hl with | [_], _ => rfl)
  have G__law_is_name := ok__law_is_name (P := P) (w := w) (base := base) (C := C0 K) (D0 := D__law_is_name) (NB := NB)
  have D__law_due : Df K mg "_law_due" (top 27) ["text"] := DH.df_ok X G (hget 5 _ _ rfl rfl) (chk_get (K := K) (k := 0) (i := 5) (chk0 hc) rfl) (fun _ _ _ _ _ _ us hl => match us, hl with | [_], _ => rfl)
  have G__law_due := ok__law_due (P := P) (w := w) (base := base) (C := C0 K) (D0 := D__law_due) (NB := NB) (G__law_number := G__law_number) (G__law_is_name := G__law_is_name)
  have D__law_same : Df K mg "_law_same" (top 23) ["told", "due"] := DH.df_ok X G (hget 6 _ _ rfl rfl) (chk_get (K := K) (k := 0) (i := 6) (chk0 hc) rfl) (fun _ _ _ _ _ _ us hl => match us, hl with | [_, _], _ => rfl)
  have G__law_same := ok__law_same (P := P) (w := w) (base := base) (C := C0 K) D__law_same NB
  have D_only : Df K mg "only" (top 11) ["word", "allowed"] := DH.df_ok X G (hget 7 _ _ rfl rfl) (chk_get (K := K) (k := 0) (i := 7) (chk0 hc) rfl) (fun _ _ _ _ _ _ us hl => match us, hl with | [_, _], _ => rfl)
  have G_only := ok_only (P := P) (w := w) (base := base) (C := C0 K) (D0 := D_only) (NB := NB)
  have D_read_number : Df K mg "read_number" (top 13) ["word"] := DH.df_ok X G (hget 8 _ _ rfl rfl) (chk_get (K := K) (k := 0) (i := 8) (chk0 hc) rfl) (fun _ _ _ _ _ _ us hl => match us, hl with | [_], _ => rfl)
  have G_read_number := ok_read_number (P := P) (w := w) (base := base) (C := C0 K) (D0 := D_read_number) (NB := NB) (c_LONGEST_NUMBER := c_LONGEST_NUMBER) (c_DIGITS := c_DIGITS) (G_only := G_only)
  have D_read_numbers : Df K mg "read_numbers" (top 14) ["words"] := DH.df_ok X G (hget 9 _ _ rfl rfl) (chk_get (K := K) (k := 0) (i := 9) (chk0 hc) rfl) (fun _ _ _ _ _ _ us hl => match us, hl with | [_], _ => rfl)
  have G_read_numbers := ok_read_numbers (P := P) (w := w) (base := base) (C := C0 K) (D0 := D_read_numbers) (NB := NB) (G_read_number := G_read_number)
  have D_is_name : Df K mg "is_name" (top 12) ["word"] := DH.df_ok X G (hget 10 _ _ rfl rfl) (chk_get (K := K) (k := 0) (i := 10) (chk0 hc) rfl) (fun _ _ _ _ _ _ us hl => match us, hl with | [_], _ => rfl)
  have G_is_name := ok_is_name (P := P) (w := w) (base := base) (C := C0 K) (D0 := D_is_name) (NB := NB) (c_LONGEST_NAME := c_LONGEST_NAME) (c_LETTERS := c_LETTERS) (G_only := G_only)
  have D_read_names : Df K mg "read_names" (top 18) ["words"] := DH.df_ok X G (hget 11 _ _ rfl rfl) (chk_get (K := K) (k := 0) (i := 11) (chk0 hc) rfl) (fun _ _ _ _ _ _ us hl => match us, hl with | [_], _ => rfl)
  have G_read_names := ok_read_names (P := P) (w := w) (base := base) (C := C0 K) (D0 := D_read_names) (NB := NB) (G_is_name := G_is_name)
  have D_read_form : Df K mg "read_form" (top 19) ["words"] := DH.df_ok X G (hget 12 _ _ rfl rfl) (chk_get (K := K) (k := 0) (i := 12) (chk0 hc) rfl) (fun _ _ _ _ _ _ us hl => match us, hl with | [_], _ => rfl)
  have G_read_form := ok_read_form (P := P) (w := w) (base := base) (C := C0 K) (D0 := D_read_form) (NB := NB) (c_CUT_WORDS := c_CUT_WORDS) (c_BOOK_WORDS := c_BOOK_WORDS) (G_read_numbers := G_read_numbers) (G_read_names := G_read_names)
  have D_read_deed : Df K mg "read_deed" (top 20) ["text"] := DH.df_ok X G (hget 13 _ _ rfl rfl) (chk_get (K := K) (k := 0) (i := 13) (chk0 hc) rfl) (fun _ _ _ _ _ _ us hl => match us, hl with | [_], _ => rfl)
  have G_read_deed := ok_read_deed (P := P) (w := w) (base := base) (C := C0 K) (D0 := D_read_deed) (NB := NB) (hE_0 := e_BadDeed) (htop := htop) (g_BadDeed := g_BadDeed) (G_read_form := G_read_form)
  have D__law_told : Df K mg "_law_told" (top 28) ["text"] := DH.df_ok X G (hget 14 _ _ rfl rfl) (chk_get (K := K) (k := 0) (i := 14) (chk0 hc) rfl) (fun _ _ _ _ _ _ us hl => match us, hl with | [_], _ => rfl)
  have h__law_told_0 : ∀ c b, tb__law_told_0 c = some b → PySem.W.exmOne K (.ref (C0 K c)) (.ref (C0 K 0)) = some b := by
    intro c b hb
    unfold tb__law_told_0 at hb
    split at hb
    · exact (of_decide_eq_true (chk_get (K := K) (k := 0) (i := 3) (chk2 hc) rfl)).trans hb
    · cases hb
  have h__law_told_1 : ∀ c b, tb__law_told_1 c = some b → XcC K (C0 K c) ∧ PySem.W.kitAny K (.ref (C0 K c)) [.ref (C0 K 2), .ref (C0 K 1), .ref (C0 K 4)] = some b := by
    intro c b hb
    unfold tb__law_told_1 at hb
    split at hb
    · exact ⟨x_BadDeed, (of_decide_eq_true (chk_get (K := K) (k := 0) (i := 4) (chk2 hc) rfl)).trans hb⟩
    · cases hb
  have h__law_told_2 : ∀ c b, tb__law_told_2 c = some b → XcC K (C0 K c) ∧ PySem.W.kitOne K (.ref (C0 K c)) (.type "ValueError") = some b := by
    intro c b hb
    unfold tb__law_told_2 at hb
    split at hb
    · exact ⟨x_BadDeed, (of_decide_eq_true (chk_get (K := K) (k := 0) (i := 5) (chk2 hc) rfl)).trans hb⟩
    · cases hb
  have h__law_told_3 : ∀ c b, tb__law_told_3 c = some b → XcC K (C0 K c) ∧ PySem.W.kitOne K (.ref (C0 K c)) (.ref (C0 K 3)) = some b := by
    intro c b hb
    unfold tb__law_told_3 at hb
    split at hb
    · exact ⟨x_BadDeed, (of_decide_eq_true (chk_get (K := K) (k := 0) (i := 6) (chk2 hc) rfl)).trans hb⟩
    · cases hb
  have h__law_told_4 : ∀ c, okX__law_told_4 c = true → XcC K (C0 K c) ∧ PySem.W.findIn K (.ref (C0 K c)) "text" = some none := by
    intro c hb
    unfold okX__law_told_4 at hb
    split at hb
    · exact ⟨x_BadDeed, He.eqO_ok (chk_get (K := K) (k := 0) (i := 7) (chk2 hc) rfl)⟩
    · cases hb
  have G__law_told := ok__law_told (P := P) (w := w) (base := base) (C := C0 K) (D0 := D__law_told) (NB := NB) (hE_0 := h__law_told_0) (hE_1 := h__law_told_1) (hE_2 := h__law_told_2) (hE_3 := h__law_told_3) (hE_4 := h__law_told_4) (g_BandError := g_BandError) (g_BadText := g_BadText) (g_BadNumber := g_BadNumber) (g_NoSuchPlayer := g_NoSuchPlayer) (g_BadDeed := g_BadDeed) (G_read_deed := G_read_deed)
  have D_write_deed : Df K mg "write_deed" (top 21) ["deed"] := DH.df_ok X G (hget 15 _ _ rfl rfl) (chk_get (K := K) (k := 0) (i := 15) (chk0 hc) rfl) (fun _ _ _ _ _ _ us hl => match us, hl with | [_], _ => rfl)
  have G_write_deed := ok_write_deed (P := P) (w := w) (base := base) (C := C0 K) (D0 := D_write_deed) (NB := NB) (c_CUT_WORDS := c_CUT_WORDS) (c_BOOK_WORDS := c_BOOK_WORDS)
  have D__law_near : Df K mg "_law_near" (top 31) ["cell"] := DH.df_ok X G (hget 16 _ _ rfl rfl) (chk_get (K := K) (k := 0) (i := 16) (chk0 hc) rfl) (fun _ _ _ _ _ _ us hl => match us, hl with | [_], _ => rfl)
  have G__law_near := ok__law_near (P := P) (w := w) (base := base) (C := C0 K) (D0 := D__law_near) (NB := NB)
  have D_law : Df K mg "law" (top 32) ["script"] := DH.df_ok X G (hget 17 _ _ rfl rfl) (chk_get (K := K) (k := 0) (i := 17) (chk0 hc) rfl) (fun _ _ _ _ _ _ us hl => match us, hl with | [_], _ => rfl)
  have G_law := ok_law (P := P) (w := w) (base := base) (C := C0 K) (fu := fu) (D0 := D_law) (NB := NB) (G__law_draws := G__law_draws) (G__law_text := G__law_text) (G__law_due := G__law_due) (G_write_deed := G_write_deed) (G__law_same := G__law_same fu) (G__law_told := G__law_told) (G__law_near := G__law_near)
  exact G_law
end G72

set_option maxHeartbeats 0
/-! The end of k72: the law's walk, the head, the plain law joined. -/
namespace DL
open PySem PySem.Spec PyProof.Rows L2 DL
/-- the end of a walk whose promise may let errors out (none does here) -/
theorem walkW {l : PySem.W.OpenLaw} {n k : Nat} {q : Program} {loose : List Str} {XP : (Str → Option Value) → Heap → Prop} {YP : World → Heap → Prop} {d : DefRec} {CX : World → CXT} {x : Str}
    (hn : l.most = some n) (hn2 : n ≤ sizeLine) (hdf : d.params.defaults = []) (hr : Room k callerA)
    (F : ∀ (w : World) (mg : Str → Option Value) (fa : Addr) (h : Heap), YP w h → h.Ns mainGlobals mg → mg d.name = some (.ref fa) → ∃ (K : PySem.W.Frag) (fd : FuncData) (sp : Sp), K.In h ∧ (∀ (s : Shared) (u : Value), BindsTo s fd ⟨[u], []⟩ [(x, u)]) ∧
        (∀ (H : Hp) (a : Addr) (ns : List Int), ns.length ≤ n → Only H → SqL K H a (ns.map V.int) → sp [.ref a] H (fun v _ => v = .bl true) fun _ _ _ => False) ∧
        ∀ base : Heap, K.In base → base.Ns mainGlobals mg → FnOk l.prog w K mg base (CX w) k fa fd [x] sp)
    (hCX : ∀ (w : World) (H : Hp) (s : Shared) (e : Value) (s' : Shared), CX w [] H s (fun _ _ _ => False) e s' → False) : PySem.W.WalkO q loose XP YP l.row.toRowW d [] (fun f vs => PySem.call f vs) := by
  refine Att.attach_call hn hdf fun w s₀ s₁ mg mb fa o pm cd doc a vs ns G Y ho hd hcd hmg hobj hints hlen hg => ?_
  obtain ⟨K, fd, sp, k1, k2, k3, k4⟩ := F w mg fa _ Y G.T.g hmg
  refine law_call k1 G.T.g G.T.b G.T.builtins G.T.nolimit hg hobj hints ?_ hr k4 k2 ?_ ?_
  · exact Nat.le_trans hlen hn2
  · exact fun H hO hS => k3 H a ns hlen hO hS
  · exact fun H e s' => hCX w H s₁ e s'
theorem cx_none {P : Program} {w : World} {H : Hp} {s : Shared} {e : Value} {s' : Shared} : L2.CX P w [] H s (fun _ _ _ => False) e s' → False := fun ⟨_, _, _, _, _, _, _, _, _, _, _, _, z⟩ => z
/-- the law's promise from its answer -/
theorem sp_law {K : PySem.W.Frag} {C : Cid → Addr} {F : List DL.D → R DL.D} (h : ∀ ns : List Int, ns.length ≤ 63 → F [.scr ns] = .ok (.bl true)) {H : Hp} {a : Addr} {ns : List Int} (hl : ns.length ≤ 63) (hS : SqL K H a (ns.map V.int)) :
    spD K C F 1 .fz [.ref a] H (fun v _ => v = .bl true) (fun _ _ _ => False) := by
  refine ⟨H, [.scr ns], Same.refl _, .cons (.scr hS) .nil, rfl, ?_⟩
  rw [h ns hl]
  intro v F' H' A p ro nd f
  cases ro.fz_inv
  rfl
/-- one function data for every ground -/
theorem good_law {P : Program} {w : World} {K : PySem.W.Frag} {mg : Str → Option Value} {C : Cid → Addr} {k : Nat} {x p : Str} {fa : Addr} {F : List DL.D → R DL.D} {h : Heap} (hm : mg x = some (.ref fa)) (hK : K.In h) (hG : h.Ns mainGlobals mg) (g : ∀ base : Heap, K.In base → base.Ns mainGlobals mg → Good P w K mg base C k x [p] .fz F) :
    ∃ fd : FuncData, (∀ (s : Shared) (u : Value), BindsTo s fd ⟨[u], []⟩ [(p, u)]) ∧ ∀ base : Heap, K.In base → base.Ns mainGlobals mg → FnOk P w K mg base (L2.CX P w) k fa fd [p] (spD K C F 1 .fz) := by
  obtain ⟨⟨a, fd, _, h2, _, _, ⟨oc, od, osl, h5⟩, h6⟩, _⟩ := g h hK hG
  rw [hm] at h2
  cases h2
  refine ⟨fd, fun s u => .of_eq (h6 [u] rfl), fun base hb hg => ?_⟩
  obtain ⟨⟨a2, fd2, q1, q2, _, _, ⟨oc2, od2, osl2, q5⟩, _⟩, _⟩ := g base hb hg
  rw [hm] at q2
  cases q2
  rw [h5] at q5
  cases q5
  exact q1
end DL
open PySem PySem.W PySem.Calls PyProof.Rows
theorem PySem.Challenge.cw_bandstand_k72_deeds_holds : PySem.Challenge.rw_bandstand_k72_deeds.Holds := by
  w_on; o_law
  refine HandSHeadRun.head_any (r := OpenLaw.row PySem.Challenge.rw_bandstand_k72_deeds) (q := view (OpenLaw.row PySem.Challenge.rw_bandstand_k72_deeds).prog [32]) (H := G72.hk) (ob := G72.ob) (M := 2000) (loose := G72.loose) (d := HandSHeadRun.topDef (OpenLaw.row PySem.Challenge.rw_bandstand_k72_deeds).prog 32) (kwd := []) G72.ob_eq
    (by kernel_rfl) (fun s => by kernel_rfl) G72.run (by kernel_rfl) (by kernel_rfl) (by kernel_rfl) (by rfl) (by first | assumption | decide +kernel) (by decide +kernel) ⟨rfl, rfl, rfl, rfl, rfl, by decide +kernel⟩ ?hw ?hc
  case hw => w_witness2
  case hc =>
    refine DL.walkW (l := PySem.Challenge.rw_bandstand_k72_deeds) (n := 63) (k := 13) (x := "script") (CX := fun w => L2.CX PySem.Challenge.rw_bandstand_k72_deeds.prog w) rfl (by decide) (by kernel_rfl) ⟨rfl, by decide, by decide⟩ ?F (fun _ _ _ _ _ z => DL.cx_none z)
    intro w mg fa h Y G hmg0
    obtain ⟨K, KX, c⟩ := Y
    have hmg : mg ("law" : PySem.Str) = some (.ref fa) := by
      have e : (HandSHeadRun.topDef (OpenLaw.row PySem.Challenge.rw_bandstand_k72_deeds).prog 32).name = ("law" : PySem.Str) := by kernel_rfl
      rw [← e]
      exact hmg0
    obtain ⟨fd, hb, hF⟩ := DL.good_law (P := PySem.Challenge.rw_bandstand_k72_deeds.prog) (w := w) (k := 13) (p := "script") hmg KX G (fun base hb hg => G72.all_ok (base := base) KX G c rfl (by kernel_rfl) 6)
    exact ⟨K, fd, _, KX, hb, fun H a ns hl _ hS => DL.sp_law (fun ns _ => G72.law_true ns) hl hS, hF⟩

