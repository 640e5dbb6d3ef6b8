import PyProof.Rows.All
import Wide.All
import OpenK.AllK
import Wide.FinOn
import HandS.ForMost
import HandS.ForExc
import HandS.Codes
import HandS.Walk
import HandS.IsInst
import HandS.Property
import HandS.Style
import HandS.TupMul
import HandS.TupAny
import HandS.Star
import HandS.Defaults
import HandS.ListItems
import HandS.WrittenGet
import HandS.Zip
import HandS.More
import HandS.DeepEq
import PySem.Challenge.RW_shortkeys_k34_whole_trials
import HandS.Head0
import HandS.Head1
import HandS.Head2
import HandS.HeadEnd
import HandS.HeadHook1
import HandS.HeadHook2
import HandS.HeadHook3
import HandS.HeadHook4
import HandS.HeadWalk
import HandS.NestedK
import HandS.MakeKw
import KE.GoesEnum
import HandS.Lambda
import HandS.Exc
import HandS.ExcCtx
import HandS.ExcOwn
import HandS.OwnEq
import HandS.Finally
import HandS.TryMany
import HandS.TryOnly
import HandS.ExcBuiltin
import HandS.HotCalls
import HandS.MakeKwOnly
set_option Elab.async false
set_option linter.all false
set_option maxRecDepth 100000
/-! K34a -/
set_option maxHeartbeats 4000000
/-! Data trees on the heap, and what expressions come to over them. -/
namespace T34
open PySem PySem.Spec PyProof.Rows L2

/-- a tree of what never changes: atoms, tuples, lists that are only read, instances of the classes FC -/
inductive D where
  | at (v : V)
  | tup (ds : List D)
  | lst (ds : List D)
  | obj (C : Addr) (fs : List (Str × D))
abbrev di (i : Int) : D := .at (.int i)
abbrev dz (x : Str) : D := .at (.str x)
abbrev db (b : Bool) : D := .at (.bl b)
abbrev dn : D := .at .non

mutual
inductive Rep (K : PySem.W.Frag) (FC : Addr → Prop) (H : Hp) : D → V → Prop
  | at (v : V) : Rep K FC H (.at v) v
  | tup {a : Addr} {ds : List D} {vs : List V} : SqT K H a vs → Reps K FC H ds vs → Rep K FC H (.tup ds) (.ref a)
  | lst {a : Addr} {ds : List D} {vs : List V} : SqL K H a vs → Reps K FC H ds vs → Rep K FC H (.lst ds) (.ref a)
  | obj {a C dx : Addr} {fs : List (Str × D)} {gs : List (Str × V)} : FC C → H a = some (.ins C dx gs) → gs ≠ [] → RepF K FC H fs gs → Rep K FC H (.obj C fs) (.ref a)
inductive Reps (K : PySem.W.Frag) (FC : Addr → Prop) (H : Hp) : List D → List V → Prop
  | nil : Reps K FC H [] []
  | cons {d : D} {ds : List D} {v : V} {vs : List V} : Rep K FC H d v → Reps K FC H ds vs → Reps K FC H (d :: ds) (v :: vs)
inductive RepF (K : PySem.W.Frag) (FC : Addr → Prop) (H : Hp) : List (Str × D) → List (Str × V) → Prop
  | nil : RepF K FC H [] []
  | cons {f : Str} {d : D} {fs : List (Str × D)} {v : V} {gs : List (Str × V)} : Rep K FC H d v → RepF K FC H fs gs → RepF K FC H ((f, d) :: fs) ((f, v) :: gs)
end

/-- what is written once and never changed stays: tuples, what is locked, instances of FC -/
structure Frz (FC : Addr → Prop) (H H' : Hp) : Prop where
  tup : ∀ a xs, H a = some (.tup xs) → H' a = some (.tup xs)
  frz : ∀ a o u, H a = some (.frz o u) → H' a = some (.frz o u)
  ins : ∀ a C dx gs, FC C → gs ≠ [] → H a = some (.ins C dx gs) → H' a = some (.ins C dx gs)
theorem Same.frz {FC : Addr → Prop} {H H' : Hp} (e : Same H H') : Frz FC H H' := ⟨fun a xs h => e _ _ h, fun a o u h => e _ _ h, fun a C dx gs _ _ h => e _ _ h⟩
theorem Frz.refl {FC : Addr → Prop} (H : Hp) : Frz FC H H := ⟨fun _ _ h => h, fun _ _ _ h => h, fun _ _ _ _ _ _ h => h⟩
theorem Frz.trans {FC : Addr → Prop} {H H1 H2 : Hp} (a : Frz FC H H1) (b : Frz FC H1 H2) : Frz FC H H2 :=
  ⟨fun c xs h => b.tup _ _ (a.tup _ _ h), fun c o u h => b.frz _ _ _ (a.frz _ _ _ h), fun c C dx gs q n h => b.ins _ _ _ _ q n (a.ins _ _ _ _ q n h)⟩
theorem Same.new {H : Hp} {p : Addr} {o : HO} (h : H p = none) : Same H (upd H p o) := fun a u e => by
  rw [upd_ne (ne_of_none e h)]
  exact e
/-- an object that H does not know may change -/
theorem Same.mut {H H' : Hp} {p : Addr} {o : HO} (e : Same H H') (h : H p = none) : Same H (upd H' p o) := fun a u ha => by
  rw [upd_ne (ne_of_none ha h)]
  exact e a u ha
theorem Same.sqt {K : PySem.W.Frag} {H H' : Hp} {a : Addr} {xs : List V} (e : Same H H') (h : SqT K H a xs) : SqT K H' a xs := by
  rcases h with (h | ⟨o, h⟩) | h
  · exact .inl (.inl (e _ _ h))
  · exact .inl (.inr ⟨o, e _ _ h⟩)
  · exact .inr h
theorem Frz.sqt {K : PySem.W.Frag} {FC : Addr → Prop} {H H' : Hp} {a : Addr} {xs : List V} (e : Frz FC H H') (h : SqT K H a xs) : SqT K H' a xs := by
  rcases h with (h | ⟨o, h⟩) | h
  · exact .inl (.inl (e.tup _ _ h))
  · exact .inl (.inr ⟨o, e.frz _ _ _ h⟩)
  · exact .inr h
/-- a write to a list, a dict, or to an instance of no class of FC -/
theorem Frz.upd_lst {FC : Addr → Prop} {H : Hp} {p : Addr} {xs ys : List V} (h : H p = some (.lst xs)) : Frz FC H (upd H p (.lst ys)) :=
  ⟨fun a zs e => by rw [upd_ne (ne_of e h (by intro z; cases z))]; exact e, fun a o u e => by rw [upd_ne (ne_of e h (by intro z; cases z))]; exact e,
    fun a C dx gs _ _ e => by rw [upd_ne (ne_of e h (by intro z; cases z))]; exact e⟩
theorem Frz.upd_dK {FC : Addr → Prop} {H : Hp} {p : Addr} {xs ys : List (Key × V)} (h : H p = some (.dK xs)) : Frz FC H (upd H p (.dK ys)) :=
  ⟨fun a zs e => by rw [upd_ne (ne_of e h (by intro z; cases z))]; exact e, fun a o u e => by rw [upd_ne (ne_of e h (by intro z; cases z))]; exact e,
    fun a C dx gs _ _ e => by rw [upd_ne (ne_of e h (by intro z; cases z))]; exact e⟩
theorem Frz.upd_ins {FC : Addr → Prop} {H : Hp} {p C dx : Addr} {gs : List (Str × V)} {o : HO} (h : H p = some (.ins C dx gs)) (n : ¬ FC C) : Frz FC H (upd H p o) :=
  ⟨fun a zs e => by rw [upd_ne (ne_of e h (by intro z; cases z))]; exact e, fun a o u e => by rw [upd_ne (ne_of e h (by intro z; cases z))]; exact e,
    fun a C' dx' gs' f _ e => by rw [upd_ne (ne_of e h (by intro z; cases z; exact n f))]; exact e⟩
/-- .. or to an instance that has no attribute yet -/
theorem Frz.upd_bare {FC : Addr → Prop} {H : Hp} {p C dx : Addr} {o : HO} (h : H p = some (.ins C dx [])) : Frz FC H (upd H p o) :=
  ⟨fun a zs e => by rw [upd_ne (ne_of e h (by intro z; cases z))]; exact e, fun a o u e => by rw [upd_ne (ne_of e h (by intro z; cases z))]; exact e,
    fun a C' dx' gs' _ n e => by rw [upd_ne (ne_of e h (by intro z; cases z; exact n rfl))]; exact e⟩
theorem Frz.new {FC : Addr → Prop} {H : Hp} {p : Addr} {o : HO} (h : H p = none) : Frz FC H (upd H p o) := Same.frz (Same.new h)

section
variable {K : PySem.W.Frag} {FC : Addr → Prop} {H H' : Hp}
mutual
theorem Rep.mono (e : Same H H') : ∀ {d : D} {v : V}, Rep K FC H d v → Rep K FC H' d v
  | _, _, .at v => .at v
  | _, _, .tup h r => .tup (Same.sqt e h) (Reps.mono e r)
  | _, _, .lst h r => .lst (e.seq h) (Reps.mono e r)
  | _, _, .obj c h n r => .obj c (e _ _ h) n (RepF.mono e r)
theorem Reps.mono (e : Same H H') : ∀ {ds : List D} {vs : List V}, Reps K FC H ds vs → Reps K FC H' ds vs
  | _, _, .nil => .nil
  | _, _, .cons h r => .cons (Rep.mono e h) (Reps.mono e r)
theorem RepF.mono (e : Same H H') : ∀ {fs : List (Str × D)} {gs : List (Str × V)}, RepF K FC H fs gs → RepF K FC H' fs gs
  | _, _, .nil => .nil
  | _, _, .cons h r => .cons (Rep.mono e h) (RepF.mono e r)
end
/-! without lists -/
mutual
inductive NoL : D → Prop
  | at (v : V) : NoL (.at v)
  | tup {ds : List D} : NoLs ds → NoL (.tup ds)
  | obj {C : Addr} {fs : List (Str × D)} : NoLF fs → NoL (.obj C fs)
inductive NoLs : List D → Prop
  | nil : NoLs []
  | cons {d : D} {ds : List D} : NoL d → NoLs ds → NoLs (d :: ds)
inductive NoLF : List (Str × D) → Prop
  | nil : NoLF []
  | cons {f : Str} {d : D} {fs : List (Str × D)} : NoL d → NoLF fs → NoLF ((f, d) :: fs)
end
theorem NoL.tup_inv {ds : List D} (n : NoL (.tup ds)) : NoLs ds := by cases n with | tup h => exact h
theorem NoL.lst_inv {ds : List D} (n : NoL (.lst ds)) : False := by cases n
theorem NoL.obj_inv {C : Addr} {fs : List (Str × D)} (n : NoL (.obj C fs)) : NoLF fs := by cases n with | obj h => exact h
theorem NoLs.head {d : D} {ds : List D} (n : NoLs (d :: ds)) : NoL d := by cases n with | cons h r => exact h
theorem NoLs.tail {d : D} {ds : List D} (n : NoLs (d :: ds)) : NoLs ds := by cases n with | cons h r => exact r
theorem NoLF.head {f : Str} {d : D} {fs : List (Str × D)} (n : NoLF ((f, d) :: fs)) : NoL d := by cases n with | cons h r => exact h
theorem NoLF.tail {f : Str} {d : D} {fs : List (Str × D)} (n : NoLF ((f, d) :: fs)) : NoLF fs := by cases n with | cons h r => exact r
mutual
theorem Rep.frz (e : Frz FC H H') : ∀ {d : D} {v : V}, Rep K FC H d v → NoL d → Rep K FC H' d v
  | _, _, .at v => fun _ => .at v
  | _, _, .tup h r => fun n => .tup (e.sqt h) (Reps.frz e r n.tup_inv)
  | _, _, .lst h r => fun n => n.lst_inv.elim
  | _, _, .obj c h g r => fun n => .obj c (e.ins _ _ _ _ c g h) g (RepF.frz e r n.obj_inv)
theorem Reps.frz (e : Frz FC H H') : ∀ {ds : List D} {vs : List V}, Reps K FC H ds vs → NoLs ds → Reps K FC H' ds vs
  | _, _, .nil => fun _ => .nil
  | _, _, .cons h r => fun n => .cons (Rep.frz e h n.head) (Reps.frz e r n.tail)
theorem RepF.frz (e : Frz FC H H') : ∀ {fs : List (Str × D)} {gs : List (Str × V)}, RepF K FC H fs gs → NoLF fs → RepF K FC H' fs gs
  | _, _, .nil => fun _ => .nil
  | _, _, .cons h r => fun n => .cons (Rep.frz e h n.head) (RepF.frz e r n.tail)
end
theorem Rep.at_inv {v u : V} (r : Rep K FC H (.at v) u) : u = v := by cases r; rfl
theorem Rep.tup_inv {ds : List D} {u : V} (r : Rep K FC H (.tup ds) u) : ∃ a vs, u = .ref a ∧ SqT K H a vs ∧ Reps K FC H ds vs := by
  cases r with
  | tup h r => exact ⟨_, _, rfl, h, r⟩
theorem Rep.lst_inv {ds : List D} {u : V} (r : Rep K FC H (.lst ds) u) : ∃ a vs, u = .ref a ∧ SqL K H a vs ∧ Reps K FC H ds vs := by
  cases r with
  | lst h r => exact ⟨_, _, rfl, h, r⟩
theorem Rep.obj_inv {C : Addr} {fs : List (Str × D)} {u : V} (r : Rep K FC H (.obj C fs) u) : ∃ a dx gs, u = .ref a ∧ FC C ∧ H a = some (.ins C dx gs) ∧ RepF K FC H fs gs := by
  cases r with
  | obj c h _ r => exact ⟨_, _, _, rfl, c, h, r⟩
theorem Reps.length : ∀ {ds : List D} {vs : List V}, Reps K FC H ds vs → vs.length = ds.length
  | _, _, .nil => rfl
  | _, _, .cons _ r => congrArg (· + 1) (Reps.length r)
theorem Reps.get : ∀ {ds : List D} {vs : List V} {i : Nat} {d : D}, Reps K FC H ds vs → ds[i]? = some d → ∃ v, vs[i]? = some v ∧ Rep K FC H d v
  | _, _, i, _, .nil, e => by simp at e
  | _, _, 0, _, .cons h _, e => by simp at e; subst e; exact ⟨_, rfl, h⟩
  | _, _, i + 1, _, .cons _ r, e => by
    obtain ⟨v, h1, h2⟩ := Reps.get (i := i) r (by simpa using e)
    exact ⟨v, by simpa using h1, h2⟩
theorem Reps.get' : ∀ {ds : List D} {vs : List V} {i : Nat} {v : V}, Reps K FC H ds vs → vs[i]? = some v → ∃ d, ds[i]? = some d ∧ Rep K FC H d v
  | _, _, i, _, .nil, e => by simp at e
  | _, _, 0, _, .cons h _, e => by simp at e; subst e; exact ⟨_, rfl, h⟩
  | _, _, i + 1, _, .cons _ r, e => by
    obtain ⟨v, h1, h2⟩ := Reps.get' (i := i) r (by simpa using e)
    exact ⟨v, by simpa using h1, h2⟩
theorem Reps.append : ∀ {ds es : List D} {vs us : List V}, Reps K FC H ds vs → Reps K FC H es us → Reps K FC H (ds ++ es) (vs ++ us)
  | _, _, _, _, .nil, s => s
  | _, _, _, _, .cons h r, s => .cons h (Reps.append r s)
theorem Reps.drop : ∀ {ds : List D} {vs : List V} (n : Nat), Reps K FC H ds vs → Reps K FC H (ds.drop n) (vs.drop n)
  | _, _, 0, r => r
  | _, _, _ + 1, .nil => .nil
  | _, _, n + 1, .cons _ r => Reps.drop n r
theorem Reps.take : ∀ {ds : List D} {vs : List V} (n : Nat), Reps K FC H ds vs → Reps K FC H (ds.take n) (vs.take n)
  | _, _, 0, _ => .nil
  | _, _, _ + 1, .nil => .nil
  | _, _, n + 1, .cons h r => .cons h (Reps.take n r)
theorem Reps.ats : ∀ (vs : List V), Reps K FC H (vs.map D.at) vs
  | [] => .nil
  | v :: vs => .cons (.at v) (Reps.ats vs)
theorem Reps.ats_inv : ∀ {vs us : List V}, Reps K FC H (vs.map D.at) us → us = vs
  | [], _, .nil => rfl
  | v :: vs, _, .cons h r => by rw [h.at_inv, Reps.ats_inv r]
theorem NoLs.ats : ∀ (vs : List V), NoLs (vs.map D.at)
  | [] => .nil
  | v :: vs => .cons (.at v) (NoLs.ats vs)
theorem NoLs.append : ∀ {ds es : List D}, NoLs ds → NoLs es → NoLs (ds ++ es)
  | _, _, .nil, s => s
  | _, _, .cons h r, s => .cons h (NoLs.append r s)
theorem NoLs.of : ∀ {ds : List D}, (∀ d ∈ ds, NoL d) → NoLs ds
  | [], _ => .nil
  | d :: ds, h => .cons (h d List.mem_cons_self) (NoLs.of fun e he => h e (List.mem_cons_of_mem _ he))
theorem NoLs.mem : ∀ {ds : List D} {d : D}, NoLs ds → d ∈ ds → NoL d
  | [], d, _, m => nomatch m
  | e :: ds, d, n, m => by
    rcases List.mem_cons.mp m with rfl | m
    · exact n.head
    · exact NoLs.mem n.tail m
/-- a field -/
theorem RepF.lookup : ∀ {fs : List (Str × D)} {gs : List (Str × V)} {f : Str} {d : D}, RepF K FC H fs gs → fs.lookup f = some d → ∃ v, gs.lookup f = some v ∧ Rep K FC H d v
  | _, _, f, d, .nil, e => by simp at e
  | _, _, f, d, .cons (f := g) h r, e => by
    rw [List.lookup_cons] at e
    cases c : (f == g) with
    | true =>
      rw [c] at e
      cases e
      exact ⟨_, by rw [List.lookup_cons, c], h⟩
    | false =>
      rw [c] at e
      obtain ⟨v, h1, h2⟩ := RepF.lookup r e
      exact ⟨v, by rw [List.lookup_cons, c]; exact h1, h2⟩
theorem RepF.lookup_none : ∀ {fs : List (Str × D)} {gs : List (Str × V)} {f : Str}, RepF K FC H fs gs → fs.lookup f = none → gs.lookup f = none
  | _, _, f, .nil, _ => rfl
  | _, _, f, .cons (f := g) h r, e => by
    rw [List.lookup_cons] at e ⊢
    cases c : (f == g) with
    | true => rw [c] at e; cases e
    | false =>
      rw [c] at e
      exact RepF.lookup_none r e
end

/-! ### slots -/
abbrev SD := List (Option D)
structure RepE (K : PySem.W.Frag) (FC : Addr → Prop) (H : Hp) (ρ : SD) (σ : L2.St) : Prop where
  len : ρ.length = σ.length
  get : ∀ (i : Nat) (d : D), ρ[i]? = some (some d) → ∃ v, σ[i]? = some (some v) ∧ Rep K FC H d v
def wipeD (ρ : SD) : List Nat → SD
  | [] => ρ
  | v :: vs => (wipeD ρ vs).set v none
def startD (N : List Str) (ds : List D) : SD := ds.map some ++ List.replicate (N.length - ds.length) none
section
variable {K : PySem.W.Frag} {FC : Addr → Prop} {H H' : Hp} {ρ : SD} {σ : L2.St}
theorem RepE.mono (e : Same H H') (R : RepE K FC H ρ σ) : RepE K FC H' ρ σ := ⟨R.len, fun i d h => let ⟨v, a, b⟩ := R.get i d h; ⟨v, a, b.mono e⟩⟩
theorem RepE.set {i : Nat} {d : D} {v : V} (R : RepE K FC H ρ σ) (r : Rep K FC H d v) : RepE K FC H (ρ.set i (some d)) (σ.set i (some v)) := by
  refine ⟨by rw [List.length_set, List.length_set]; exact R.len, fun j e h => ?_⟩
  by_cases q : i = j
  · subst q
    have hl : i < ρ.length := by
      have := (List.getElem?_eq_some_iff.mp h).1
      rwa [List.length_set] at this
    rw [List.getElem?_set_self hl] at h
    cases h
    exact ⟨v, List.getElem?_set_self (by rw [← R.len]; exact hl), r⟩
  · rw [List.getElem?_set_ne q] at h
    obtain ⟨u, a, b⟩ := R.get j e h
    exact ⟨u, by rw [List.getElem?_set_ne q]; exact a, b⟩
/-- forgetting -/
theorem RepE.weak {ρ' : SD} (R : RepE K FC H ρ σ) (hl : ρ'.length = ρ.length) (h : ∀ (i : Nat) (d : D), ρ'[i]? = some (some d) → ρ[i]? = some (some d)) : RepE K FC H ρ' σ := ⟨hl.trans R.len, fun i d e => R.get i d (h i d e)⟩
theorem RepE.wipe (R : RepE K FC H ρ σ) : ∀ vs : List Nat, RepE K FC H (wipeD ρ vs) (wipe σ vs)
  | [] => R
  | v :: vs => by
    have ih := RepE.wipe R vs
    refine ⟨by show ((wipeD ρ vs).set v none).length = ((L2.wipe σ vs).set v none).length; rw [List.length_set, List.length_set]; exact ih.len, fun j e h => ?_⟩
    have h : ((wipeD ρ vs).set v none)[j]? = some (some e) := h
    by_cases q : v = j
    · subst q
      have hl : v < (wipeD ρ vs).length := by
        have := (List.getElem?_eq_some_iff.mp h).1
        rwa [List.length_set] at this
      rw [List.getElem?_set_self hl] at h
      cases h
    · rw [List.getElem?_set_ne q] at h
      obtain ⟨u, a, b⟩ := ih.get j e h
      exact ⟨u, by show ((L2.wipe σ vs).set v none)[j]? = _; rw [List.getElem?_set_ne q]; exact a, b⟩
theorem RepE.start {N : List Str} {ds : List D} {vs : List V} (r : Reps K FC H ds vs) : RepE K FC H (startD N ds) (L2.start N vs) := by
  have hl := r.length
  refine ⟨by unfold startD L2.start; simp only [List.length_append, List.length_map, List.length_replicate, hl], fun i d h => ?_⟩
  unfold startD at h
  by_cases q : i < (ds.map some).length
  · rw [List.getElem?_append_left q, List.getElem?_map] at h
    obtain ⟨d', e1, e2⟩ := Option.map_eq_some_iff.mp h
    cases e2
    obtain ⟨v, h1, h2⟩ := r.get e1
    refine ⟨v, ?_, h2⟩
    unfold L2.start
    rw [List.getElem?_append_left (by rw [List.length_map, hl]; rwa [List.length_map] at q), List.getElem?_map, h1]
    rfl
  · rw [List.getElem?_append_right (by omega)] at h
    obtain ⟨_, e⟩ := List.getElem?_eq_some_iff.mp h
    rw [List.getElem_replicate] at e
    cases e
theorem RepE.frz (e : Frz FC H H') (R : RepE K FC H ρ σ) (n : ∀ d, some d ∈ ρ → NoL d) : RepE K FC H' ρ σ := ⟨R.len, fun i d h => let ⟨v, a, b⟩ := R.get i d h; ⟨v, a, b.frz e (n d (List.mem_of_getElem? h))⟩⟩
end

/-! ### what expressions come to -/
section
variable (K : PySem.W.Frag) (FC : Addr → Prop)
def EvP (te : TE) (σ : L2.St) (H : Hp) (P : D → Prop) : Prop := ∀ H1, Same H H1 → ∀ Q : VK, (∀ d v H2, P d → Same H1 H2 → Rep K FC H2 d v → Q v H2) → te σ H1 Q
def EvD (te : TE) (σ : L2.St) (H : Hp) (d : D) : Prop := ∀ H1, Same H H1 → ∀ Q : VK, (∀ v H2, Same H1 H2 → Rep K FC H2 d v → Q v H2) → te σ H1 Q
def EvA (ta : TA) (σ : L2.St) (H : Hp) (ds : List D) : Prop := ∀ H1, Same H H1 → ∀ Q : List V → Hp → Prop, (∀ vs H2, Same H1 H2 → Reps K FC H2 ds vs → Q vs H2) → ta σ H1 Q
def EvL (te : TE) (σ : L2.St) (H : Hp) (ds : List D) : Prop := ∀ H1, Same H H1 → ∀ Q : VK, (∀ p vs H2, H1 p = none → Same H1 H2 → H2 p = some (.lst vs) → Reps K FC H2 ds vs → Q (.ref p) H2) → te σ H1 Q
def EvT (tt : TT) (σ : L2.St) (H : Hp) (b : Bool) : Prop := ∀ H1, Same H H1 → ∀ Q : Bool → Hp → Prop, (∀ H2, Same H1 H2 → Q b H2) → tt σ H1 Q
def EvO (to : TO) (σ : L2.St) (H : Hp) (o : Option Int) : Prop := ∀ H1, Same H H1 → ∀ Q : Option Int → Hp → Prop, (∀ H2, Same H1 H2 → Q o H2) → to σ H1 Q
end
section
variable {K : PySem.W.Frag} {FC : Addr → Prop} {ρ : SD} {σ : L2.St} {H H' : Hp} {ta tb tc te : TE} {d e : D} {ds es : List D} {x y z v : V} {r : R2} {i j : Int} {b c : Bool} {t u : TT}
theorem EvD.mono (a : Same H H') (h : EvD K FC te σ H d) : EvD K FC te σ H' d := fun H1 e Q q => h H1 (a.trans e) Q q
theorem EvT.mono (a : Same H H') (h : EvT t σ H b) : EvT t σ H' b := fun H1 e Q q => h H1 (a.trans e) Q q
theorem EvP.mono {P : D → Prop} (a : Same H H') (h : EvP K FC te σ H P) : EvP K FC te σ H' P := fun H1 e Q q => h H1 (a.trans e) Q q
theorem EvD.toP {P : D → Prop} (h : EvD K FC te σ H d) (p : P d) : EvP K FC te σ H P := fun H1 e Q q => h H1 e Q fun v H2 s r => q d v H2 p s r
theorem EvP.toD (h : EvP K FC te σ H (fun x => x = d)) : EvD K FC te σ H d := fun H1 e Q q => h H1 e Q fun d' v H2 p s r => q v H2 s (p ▸ r)
theorem EvL.toD (h : EvL K FC te σ H ds) : EvD K FC te σ H (.lst ds) := fun H1 e Q q => h H1 e Q fun p vs H2 _ s hp r => q _ H2 s (.lst (SqL.of hp) r)
theorem ev_var {n : Nat} (R : RepE K FC H ρ σ) (h : ρ[n]? = some (some d)) : EvD K FC (tVar n) σ H d := fun H1 e Q q => by
  obtain ⟨v, h1, h2⟩ := R.get n d h
  exact ⟨v, h1, q v H1 (Same.refl H1) (h2.mono e)⟩
theorem ev_c : EvD K FC (tC v) σ H (.at v) := fun H1 _ _ q => q v H1 (Same.refl H1) (.at v)
theorem ev_opI0 {g : Int → Int → V} (ha : EvD K FC ta σ H (di i)) (hb : EvD K FC tb σ H (di j)) : EvD K FC (tOp (rI0 g) ta tb) σ H (.at (g i j)) := fun H1 e Q q =>
  ha H1 e _ fun x H2 e2 r2 => hb H2 (e.trans e2) _ fun y H3 e3 r3 => ⟨i, j, r2.at_inv, r3.at_inv, q _ H3 (e2.trans e3) (.at _)⟩
theorem ev_opI {C : Int → Int → Prop} {g : Int → Int → V} (ha : EvD K FC ta σ H (di i)) (hb : EvD K FC tb σ H (di j)) (hc : C i j) : EvD K FC (tOp (rI C g) ta tb) σ H (.at (g i j)) := fun H1 e Q q =>
  ha H1 e _ fun x H2 e2 r2 => hb H2 (e.trans e2) _ fun y H3 e3 r3 => ⟨i, j, r2.at_inv, r3.at_inv, hc, q _ H3 (e2.trans e3) (.at _)⟩
/-- any operator on two atoms that makes nothing -/
theorem ev_opV (ha : EvD K FC ta σ H (.at x)) (hb : EvD K FC tb σ H (.at y)) (hr : ∀ H1, Same H H1 → ∀ Q : VK, Q z H1 → r x y H1 Q) : EvD K FC (tOp r ta tb) σ H (.at z) := fun H1 e Q q =>
  ha H1 e _ fun x' H2 e2 r2 => hb H2 (e.trans e2) _ fun y' H3 e3 r3 => by
    cases r2.at_inv
    cases r3.at_inv
    exact hr H3 ((e.trans e2).trans e3) Q (q _ H3 (e2.trans e3) (.at _))
theorem ev_eq (ha : EvD K FC ta σ H (.at x)) (hb : EvD K FC tb σ H (.at y)) (hs : scal x y = true) : EvD K FC (tOp rEq ta tb) σ H (db (decide (x = y))) := ev_opV ha hb fun _ _ _ q => ⟨hs, q⟩
theorem ev_ne (ha : EvD K FC ta σ H (.at x)) (hb : EvD K FC tb σ H (.at y)) (hs : scal x y = true) : EvD K FC (tOp rNe ta tb) σ H (db (!decide (x = y))) := ev_opV ha hb fun _ _ _ q => ⟨hs, q⟩
theorem ev_isN (ha : EvD K FC ta σ H (.at x)) : EvD K FC (tIsN ta) σ H (db (decide (x = .non))) := fun H1 e Q q => ha H1 e _ fun x' H2 e2 r2 => by
  cases r2.at_inv
  exact q _ H2 e2 (.at _)
theorem ev_adds {x y : Str} (ha : EvD K FC ta σ H (dz x)) (hb : EvD K FC tb σ H (dz y)) (hl : x.length + y.length ≤ sizeLine) :
    EvD K FC (tOp (fun x y H Q => ∃ i j, x = .str i ∧ y = .str j ∧ i.length + j.length ≤ sizeLine ∧ Q (.str (i ++ j)) H) ta tb) σ H (dz (x ++ y)) := ev_opV ha hb fun _ _ _ q => ⟨x, y, rfl, rfl, hl, q⟩
theorem ev_fld {C : Addr} {fs : List (Str × D)} {f : Str} (ha : EvD K FC ta σ H (.obj C fs)) (hc : Cls K C) (hn : NoAttr K C f) (hl : fs.lookup f = some d) : EvD K FC (tFld K ta f) σ H d := fun H1 e Q q =>
  ha H1 e _ fun x H2 e2 r2 => by
    obtain ⟨a, dx, gs, rfl, fc, ho, rf⟩ := r2.obj_inv
    obtain ⟨v, h1, h2⟩ := rf.lookup hl
    exact ⟨a, C, dx, gs, v, rfl, ho, hc, hn, h1, q v H2 e2 h2⟩
theorem atI_rep {vs : List V} (r : Reps K FC H ds vs) (h : atI ds i = some d) : ∃ v, atI vs i = some v ∧ Rep K FC H d v := by
  unfold atI at h ⊢
  rw [r.length]
  cases q : ixN ds.length i with
  | none => rw [q] at h; cases h
  | some k =>
    rw [q] at h
    exact r.get h
theorem ev_ixT (ha : EvD K FC ta σ H (.tup ds)) (hb : EvD K FC tb σ H (di i)) (h : atI ds i = some d) : EvD K FC (tOp (rIxT K) ta tb) σ H d := fun H1 e Q q =>
  ha H1 e _ fun x H2 e2 r2 => hb H2 (e.trans e2) _ fun y H3 e3 r3 => by
    obtain ⟨a, vs, rfl, hs, rr⟩ := r2.tup_inv
    obtain ⟨v, h1, h2⟩ := atI_rep rr h
    exact ⟨a, vs, i, v, rfl, r3.at_inv, Same.sqt e3 hs, h1, q v H3 (e2.trans e3) (h2.mono e3)⟩
theorem ev_ixL (ha : EvD K FC ta σ H (.lst ds)) (hb : EvD K FC tb σ H (di i)) (h : atI ds i = some d) : EvD K FC (tOp (rIxL K) ta tb) σ H d := fun H1 e Q q =>
  ha H1 e _ fun x H2 e2 r2 => hb H2 (e.trans e2) _ fun y H3 e3 r3 => by
    obtain ⟨a, vs, rfl, hs, rr⟩ := r2.lst_inv
    obtain ⟨v, h1, h2⟩ := atI_rep rr h
    exact ⟨a, vs, i, v, rfl, r3.at_inv, e3.seq hs, h1, q v H3 (e2.trans e3) (h2.mono e3)⟩
theorem ev_ixS {w : Str} {c : Nat} (ha : EvD K FC ta σ H (dz w)) (hb : EvD K FC tb σ H (di i)) (hl : w.length ≤ sizeLine) (h : atI w.cps.toList i = some c) : EvD K FC (tOp rIxS ta tb) σ H (dz ⟨#[c]⟩) :=
  ev_opV ha hb fun _ _ _ q => ⟨w, i, c, rfl, rfl, hl, h, q⟩
/-! arguments, displays -/
theorem ea_nil : EvA K FC tNil σ H [] := fun H1 _ _ q => q [] H1 (Same.refl H1) .nil
theorem ea_cons {tr : TA} (ha : EvD K FC ta σ H d) (hr : EvA K FC tr σ H ds) : EvA K FC (tCons ta tr) σ H (d :: ds) := fun H1 e Q q =>
  ha H1 e _ fun x H2 e2 r2 => hr H2 (e.trans e2) _ fun xs H3 e3 r3 => q _ H3 (e2.trans e3) (.cons (r2.mono e3) r3)
theorem ev_tup {tr : TA} (ha : EvA K FC tr σ H ds) (hl : ds.length ≤ sizeLine := by decide) : EvD K FC (tTup tr) σ H (.tup ds) := fun H1 e Q q =>
  ha H1 e _ fun xs H2 e2 r2 => ⟨by rw [r2.length]; exact hl, fun p hp => q _ _ (e2.trans (Same.new hp)) (.tup (SqT.of upd_same) (r2.mono (Same.new hp)))⟩
theorem ev_lst {tr : TA} (ha : EvA K FC tr σ H ds) (hl : ds.length ≤ sizeLine := by decide) : EvL K FC (tLst tr) σ H ds := fun H1 e Q q =>
  ha H1 e _ fun xs H2 e2 r2 => ⟨by rw [r2.length]; exact hl, fun p hp => q p xs _ (by
    cases z : H1 p with
    | none => rfl
    | some o => rw [e2 p o z] at hp; cases hp) (e2.trans (Same.new hp)) upd_same (r2.mono (Same.new hp))⟩
theorem fresh_back {p : Addr} (e : Same H H') (h : H' p = none) : H p = none := e.free h
/-! tests -/
theorem et_test (h : EvD K FC te σ H (db b)) : EvT (tTest te) σ H b := fun H1 e _ q => h H1 e _ fun v H2 e2 r => ⟨b, r.at_inv, q H2 e2⟩
theorem et_B (h : EvD K FC te σ H (db b)) : EvT (tB te) σ H b := fun H1 e _ q => h H1 e _ fun v H2 e2 r => ⟨b, r.at_inv, q H2 e2⟩
theorem et_and (h1 : EvT t σ H b) (h2 : b = true → EvT u σ H c) : EvT (tAnd t u) σ H (b && c) := fun H1 e Q q => h1 H1 e _ fun H2 e2 => by
  cases b with
  | true => exact h2 rfl H2 (e.trans e2) Q fun H3 e3 => q H3 (e2.trans e3)
  | false => exact q H2 e2
theorem et_or (h1 : EvT t σ H b) (h2 : b = false → EvT u σ H c) : EvT (tOr t u) σ H (b || c) := fun H1 e Q q => h1 H1 e _ fun H2 e2 => by
  cases b with
  | true => exact q H2 e2
  | false => exact h2 rfl H2 (e.trans e2) Q fun H3 e3 => q H3 (e2.trans e3)
theorem et_not (h : EvT t σ H b) : EvT (tNot t) σ H (!b) := fun H1 e Q q => h H1 e _ fun H2 e2 => q H2 e2
theorem EvT.to {b' : Bool} (h : EvT t σ H b) (e : b = b') : EvT t σ H b' := e ▸ h
theorem EvD.to {d' : D} (h : EvD K FC te σ H d) (e : d = d') : EvD K FC te σ H d' := e ▸ h
theorem ev_and (h1 : EvD K FC ta σ H (db b)) (h2 : b = true → EvD K FC tb σ H (db c)) : EvD K FC (tAndV ta tb) σ H (db (b && c)) := fun H1 e Q q => h1 H1 e _ fun v H2 e2 r => ⟨b, r.at_inv, by
  cases b with
  | true => exact h2 rfl H2 (e.trans e2) Q fun v H3 e3 r => q v H3 (e2.trans e3) r
  | false => exact q _ H2 e2 (.at _)⟩
theorem ev_or (h1 : EvD K FC ta σ H (db b)) (h2 : b = false → EvD K FC tb σ H (db c)) : EvD K FC (tOrV ta tb) σ H (db (b || c)) := fun H1 e Q q => h1 H1 e _ fun v H2 e2 r => ⟨b, r.at_inv, by
  cases b with
  | true => exact q _ H2 e2 (.at _)
  | false => exact h2 rfl H2 (e.trans e2) Q fun v H3 e3 r => q v H3 (e2.trans e3) r⟩
theorem ev_not (h : EvD K FC ta σ H (db b)) : EvD K FC (tNotV ta) σ H (db (!b)) := fun H1 e Q q => h H1 e _ fun v H2 e2 r => ⟨b, r.at_inv, q _ H2 e2 (.at _)⟩
theorem ev_if (h : EvT t σ H b) (h1 : b = true → EvD K FC ta σ H d) (h2 : b = false → EvD K FC tb σ H e) : EvD K FC (tIf t ta tb) σ H (if b = true then d else e) := fun H1 a Q q => h H1 a _ fun H2 e2 => by
  cases b with
  | true => exact h1 rfl H2 (a.trans e2) Q fun v H3 e3 r => q v H3 (e2.trans e3) r
  | false => exact h2 rfl H2 (a.trans e2) Q fun v H3 e3 r => q v H3 (e2.trans e3) r
theorem ev_chain {r' : R2} {z : V} (ha : EvD K FC ta σ H (.at x)) (hb : EvD K FC tb σ H (.at y)) (hr : ∀ H1, Same H H1 → ∀ Q : VK, Q (.bl b) H1 → r x y H1 Q) (hc : b = true → EvD K FC tc σ H (.at z)) (hr' : b = true → ∀ H1, Same H H1 → ∀ Q : VK, Q (.bl c) H1 → r' y z H1 Q) :
    EvD K FC (tChain r r' ta tb tc) σ H (db (b && c)) := fun H1 e Q q => ha H1 e _ fun x' H2 e2 r2 => hb H2 (e.trans e2) _ fun y' H3 e3 r3 => by
  cases r2.at_inv
  cases r3.at_inv
  refine hr H3 ((e.trans e2).trans e3) _ ⟨b, rfl, ?_⟩
  cases b with
  | true =>
    refine hc rfl H3 ((e.trans e2).trans e3) _ fun w' H4 e4 r4 => ?_
    cases r4.at_inv
    exact hr' rfl H4 (((e.trans e2).trans e3).trans e4) Q (q _ H4 ((e2.trans e3).trans e4) (.at _))
  | false => exact q _ H3 (e2.trans e3) (.at _)
end
end T34

/-! K34b -/
set_option maxHeartbeats 4000000
/-! Statements, calls, comprehensions over data trees. -/
namespace T34
open PySem PySem.Spec PyProof.Rows L2
section
variable {K : PySem.W.Frag} {FC : Addr → Prop} {ρ : SD} {σ : L2.St} {H H' : Hp} {ta tb tc te : TE} {d e : D} {ds es : List D} {x y z v : V} {r : R2} {i j : Int} {b c : Bool} {t u : TT} {B : Ends} {t1 t2 : TS}
/-! ### statements -/
theorem st_seq (h : t1 { B with nx := t2 B } σ H) : tSeq t1 t2 B σ H := h
theorem st_set {n : Nat} (R : RepE K FC H ρ σ) (h : EvD K FC te σ H d) (q : ∀ v H', Same H H' → Rep K FC H' d v → RepE K FC H' (ρ.set n (some d)) (σ.set n (some v)) → B.nx (σ.set n (some v)) H') : tAsg te (gName n) B σ H :=
  h H (Same.refl H) _ fun v H' e r => q v H' e r ((R.mono e).set r)
theorem st_setP {n : Nat} {P : D → Prop} (R : RepE K FC H ρ σ) (h : EvP K FC te σ H P) (q : ∀ d v H', P d → Same H H' → Rep K FC H' d v → RepE K FC H' (ρ.set n (some d)) (σ.set n (some v)) → B.nx (σ.set n (some v)) H') : tAsg te (gName n) B σ H :=
  h H (Same.refl H) _ fun d v H' p e r => q d v H' p e r ((R.mono e).set r)
theorem st_setL {n : Nat} (R : RepE K FC H ρ σ) (h : EvL K FC te σ H ds) (q : ∀ p vs H', H p = none → Same H H' → H' p = some (.lst vs) → Reps K FC H' ds vs → RepE K FC H' (ρ.set n (some (.at (.ref p)))) (σ.set n (some (.ref p))) → B.nx (σ.set n (some (.ref p))) H') : tAsg te (gName n) B σ H :=
  h H (Same.refl H) _ fun p vs H' hp e hl r => q p vs H' hp e hl r ((R.mono e).set (.at _))
theorem st_ret (h : EvD K FC te σ H d) (q : ∀ v H', Same H H' → Rep K FC H' d v → B.rt v H') : tRet te B σ H := h H (Same.refl H) _ q
theorem st_retP {P : D → Prop} (h : EvP K FC te σ H P) (q : ∀ d v H', P d → Same H H' → Rep K FC H' d v → B.rt v H') : tRet te B σ H := h H (Same.refl H) _ q
theorem st_retL (h : EvL K FC te σ H ds) (q : ∀ p vs H', H p = none → Same H H' → H' p = some (.lst vs) → Reps K FC H' ds vs → B.rt (.ref p) H') : tRet te B σ H := h H (Same.refl H) _ q
theorem st_drop (h : EvD K FC te σ H d) (q : ∀ H', Same H H' → B.nx σ H') : tDrop te B σ H := h H (Same.refl H) _ fun v H' e r => q H' e
theorem st_if (h : EvT t σ H b) (q1 : b = true → ∀ H', Same H H' → t1 B σ H') (q2 : b = false → ∀ H', Same H H' → t2 B σ H') : tIfS t t1 t2 B σ H := h H (Same.refl H) _ fun H' e => by
  cases b with
  | true => exact q1 rfl H' e
  | false => exact q2 rfl H' e
/-- the test is false: go on -/
theorem st_no (h : EvT t σ H false) (q : ∀ H', Same H H' → t2 B σ H') : tIfS t t1 t2 B σ H := st_if h (fun e => nomatch e) fun _ => q
theorem st_next (q : B.nx σ H) : tNext B σ H := q
/-- no else: the test is false -/
theorem st_skip (h : EvT t σ H false) (q : ∀ H', Same H H' → B.nx σ H') : tIfS t t1 tNext B σ H := st_no h q
theorem st_skipS {t3 : TS} (h : EvT t σ H false) (q : ∀ H', Same H H' → t3 B σ H') : tSeq (tIfS t t1 tNext) t3 B σ H := st_no (B := { B with nx := t3 B }) h q
theorem st_yes (h : EvT t σ H true) (q : ∀ H', Same H H' → t1 B σ H') : tIfS t t1 t2 B σ H := st_if h (fun _ => q) fun e => nomatch e
/-- xs.append(e): the list at p grows -/
theorem st_append {n : Nat} {p : Addr} {vs : List V} (hs : σ[n]? = some (some (.ref p))) (hp : H p = some (.lst vs)) (hl : vs.length < sizeLine) (h : EvD K FC te σ H d)
    (q : ∀ v H', Same H H' → Rep K FC H' d v → H' p = some (.lst vs) → B.nx σ (upd H' p (.lst (vs ++ [v])))) : tDrop (tBM K "list" rAppend (tVar n) (tCons te tNil)) B σ H :=
  ⟨_, hs, .inl ⟨rfl, _, .inl (.inl hp)⟩, h H (Same.refl H) _ fun v H' e r => ⟨p, vs, v, rfl, rfl, e _ _ hp, hl, q v H' e r (e _ _ hp)⟩⟩
/-- xs.extend(e), e a new list -/
theorem st_extend {n : Nat} {p : Addr} {vs : List V} (hs : σ[n]? = some (some (.ref p))) (hp : H p = some (.lst vs)) (hl : vs.length + ds.length ≤ sizeLine) (h : EvL K FC te σ H ds)
    (q : ∀ us H', Same H H' → Reps K FC H' ds us → H' p = some (.lst vs) → B.nx σ (upd H' p (.lst (vs ++ us)))) : tDrop (tBM K "list" rExtend (tVar n) (tCons te tNil)) B σ H :=
  ⟨_, hs, .inl ⟨rfl, _, .inl (.inl hp)⟩, h H (Same.refl H) _ fun b us H' _ e hb r => ⟨p, b, vs, us, rfl, rfl, e _ _ hp, hb, by rw [r.length]; exact hl, q us H' e r (e _ _ hp)⟩⟩
/-! ### promises over trees -/
def spN (K : PySem.W.Frag) (FC : Addr → Prop) (R : List D → (D → Prop) → Prop) : Sp := fun vs H Q _ => ∃ ds P, R ds P ∧ Reps K FC H ds vs ∧ ∀ d v H', P d → Same H H' → Rep K FC H' d v → Q v H'
def spL (K : PySem.W.Frag) (FC : Addr → Prop) (R : List D → List D → Prop) : Sp := fun vs H Q _ => ∃ ds es, R ds es ∧ Reps K FC H ds vs ∧ ∀ p us H', H p = none → Same H H' → H' p = some (.lst us) → Reps K FC H' es us → Q (.ref p) H'
theorem ev_call {R : List D → (D → Prop) → Prop} {P : D → Prop} {tr : TA} (ha : EvA K FC tr σ H ds) (hR : R ds P) : EvP K FC (tCall (spN K FC R) [] C8.E0 tr) σ H P := fun H1 e Q q =>
  ha H1 e _ fun vs H2 e2 r => ⟨ds, P, hR, by rw [List.append_nil]; exact r, fun d v H3 p e3 r3 => q d v H3 p (e2.trans e3) r3⟩
theorem ev_callD {R : List D → (D → Prop) → Prop} {tr : TA} (ha : EvA K FC tr σ H ds) (hR : R ds (fun x => x = d)) : EvD K FC (tCall (spN K FC R) [] C8.E0 tr) σ H d := (ev_call ha hR).toD
/-- .. with a default behind -/
theorem ev_callDd {R : List D → (D → Prop) → Prop} {tr : TA} {dvs : List V} (ha : EvA K FC tr σ H ds) (hR : R (ds ++ dvs.map D.at) (fun x => x = d)) : EvD K FC (tCall (spN K FC R) dvs C8.E0 tr) σ H d := fun H1 e Q q =>
  ha H1 e _ fun vs H2 e2 r => ⟨_, _, hR, r.append (Reps.ats dvs), fun d' v H3 p e3 r3 => q v H3 (e2.trans e3) (p ▸ r3)⟩
theorem el_call {R : List D → List D → Prop} {tr : TA} (ha : EvA K FC tr σ H ds) (hR : R ds es) : EvL K FC (tCall (spL K FC R) [] C8.E0 tr) σ H es := fun H1 e Q q =>
  ha H1 e _ fun vs H2 e2 r => ⟨ds, es, hR, by rw [List.append_nil]; exact r, fun p us H3 hp e3 hl r3 => q p us H3 (fresh_back e2 hp) (e2.trans e3) hl r3⟩
/-- a property of an object of FC -/
theorem ev_prop {R : List D → (D → Prop) → Prop} {C : Addr} {fs : List (Str × D)} (ha : EvD K FC ta σ H (.obj C fs)) (hR : R [.obj C fs] (fun x => x = d)) : EvD K FC (tProp C (spN K FC R) [] C8.E0 ta) σ H d := fun H1 e Q q =>
  ha H1 e _ fun x H2 e2 r => by
    obtain ⟨a, dx, gs, rfl, fc, ho, rf⟩ := r.obj_inv
    exact ⟨a, dx, gs, rfl, ho, ⟨_, _, hR, .cons r .nil, fun d' v H3 p e3 r3 => q v H3 (e2.trans e3) (p ▸ r3)⟩⟩
/-! ### built-in calls -/
/-- a built-in that makes nothing, on atoms -/
theorem ev_cb1 {rc : List V → Hp → VK → Prop} (ha : EvD K FC ta σ H (.at x)) (hr : ∀ H1, Same H H1 → ∀ Q : VK, Q z H1 → rc [x] H1 Q) : EvD K FC (tCB rc (tCons ta tNil)) σ H (.at z) := fun H1 e Q q =>
  ha H1 e _ fun x' H2 e2 r2 => by
    cases r2.at_inv
    exact hr H2 (e.trans e2) Q (q _ H2 e2 (.at _))
theorem ev_int (ha : EvD K FC ta σ H (di i)) : EvD K FC (tCB (fun xs H Q => (∃ i, xs = [.int i] ∧ Q (.int i) H) ∨ ∃ k, xs = [.bl k] ∧ Q (.int (if k then 1 else 0)) H) (tCons ta tNil)) σ H (di i) := ev_cb1 ha fun _ _ _ q => .inl ⟨i, rfl, q⟩
theorem ev_str (ha : EvD K FC ta σ H (di i)) (h : i.natAbs.log2 < 1920) : EvD K FC (tCB (fun xs H Q => ∃ i, xs = [.int i] ∧ i.natAbs.log2 < 1920 ∧ Q (.str (toString i)) H) (tCons ta tNil)) σ H (dz (toString i)) := ev_cb1 ha fun _ _ _ q => ⟨i, rfl, h, q⟩
theorem ev_intS {w : Str} (ha : EvD K FC ta σ H (dz w)) (h : PySem.intText? w = some i) (hl : w.length ≤ 640) : EvD K FC (tCB (fun xs H Q => ∃ a n, xs = [.str a] ∧ PySem.intText? a = some n ∧ a.length ≤ 640 ∧ Q (.int n) H) (tCons ta tNil)) σ H (di i) := ev_cb1 ha fun _ _ _ q => ⟨w, i, rfl, h, hl, q⟩
def rLenS (K : PySem.W.Frag) : List V → Hp → VK → Prop := fun xs H Q => ∃ p ys, xs = [.ref p] ∧ (SqL K H p ys ∨ SqT K H p ys) ∧ Q (.int ys.length) H
theorem ev_lenT (ha : EvD K FC ta σ H (.tup ds)) : EvD K FC (tCB (rLenS K) (tCons ta tNil)) σ H (di (ds.length : Int)) := fun H1 e Q q => ha H1 e _ fun v H2 e2 r => by
  obtain ⟨a, vs, rfl, hs, rr⟩ := r.tup_inv
  exact ⟨a, vs, rfl, .inr hs, by rw [rr.length]; exact q _ H2 e2 (.at _)⟩
theorem ev_lenL (ha : EvD K FC ta σ H (.lst ds)) : EvD K FC (tCB (rLenS K) (tCons ta tNil)) σ H (di (ds.length : Int)) := fun H1 e Q q => ha H1 e _ fun v H2 e2 r => by
  obtain ⟨a, vs, rfl, hs, rr⟩ := r.lst_inv
  exact ⟨a, vs, rfl, .inl hs, by rw [rr.length]; exact q _ H2 e2 (.at _)⟩
theorem ev_all {bs : List Bool} (ha : EvL K FC te σ H (bs.map db)) : EvD K FC (tCB (rAll K) (tCons te tNil)) σ H (db (bs.all id)) := fun H1 e Q q => ha H1 e _ fun p vs H2 _ e2 hp r => by
  have e3 : vs = bs.map V.bl := by
    have r' : Reps K FC H2 ((bs.map V.bl).map D.at) vs := by
      rw [List.map_map]
      exact r
    exact r'.ats_inv
  exact ⟨p, bs, rfl, by rw [← e3]; exact SqL.of hp, q _ H2 e2 (.at _)⟩
theorem ev_sum {ns : List Int} (ha : EvD K FC te σ H (.lst (ns.map di))) : EvD K FC (tCB (rSum K) (tCons te tNil)) σ H (di ns.sum) := fun H1 e Q q => ha H1 e _ fun v H2 e2 r => by
  obtain ⟨a, vs, rfl, hs, rr⟩ := r.lst_inv
  have e3 : vs = ns.map V.int := by
    have r' : Reps K FC H2 ((ns.map V.int).map D.at) vs := by
      rw [List.map_map]
      exact rr
    exact r'.ats_inv
  exact ⟨a, ns, rfl, by rw [← e3]; exact hs, q _ H2 e2 (.at _)⟩
def rTupL (K : PySem.W.Frag) : List V → Hp → VK → Prop := fun xs H Q => ∃ p ys, xs = [.ref p] ∧ ((SqL K H p ys ∧ ∀ l, H l = none → Q (.ref l) (upd H l (.tup ys))) ∨ (SqT K H p ys ∧ Q (.ref p) H))
theorem ev_tupL (ha : EvL K FC te σ H ds) : EvD K FC (tCB (rTupL K) (tCons te tNil)) σ H (.tup ds) := fun H1 e Q q => ha H1 e _ fun p vs H2 _ e2 hp r =>
  ⟨p, vs, rfl, .inl ⟨SqL.of hp, fun l hl => q _ _ (e2.trans (Same.new hl)) (.tup (SqT.of upd_same) (r.mono (Same.new hl)))⟩⟩
/-- tuple(xs) of a list at hand -/
theorem ev_tupR {n : Nat} {p : Addr} {vs : List V} (hs : σ[n]? = some (some (.ref p))) (hp : H p = some (.lst vs)) (r : Reps K FC H ds vs) : EvD K FC (tCB (rTupL K) (tCons (tVar n) tNil)) σ H (.tup ds) := fun H1 e Q q =>
  ⟨_, hs, p, vs, rfl, .inl ⟨SqL.of (e _ _ hp), fun l hl => q _ _ (Same.new hl) (.tup (SqT.of upd_same) ((r.mono e).mono (Same.new hl)))⟩⟩
def rLstS (K : PySem.W.Frag) : List V → Hp → VK → Prop := fun xs H Q => ∃ p ys, xs = [.ref p] ∧ (SqL K H p ys ∨ SqT K H p ys) ∧ ∀ l, H l = none → Q (.ref l) (upd H l (.lst ys))
theorem el_lstT (ha : EvD K FC ta σ H (.tup ds)) : EvL K FC (tCB (rLstS K) (tCons ta tNil)) σ H ds := fun H1 e Q q => ha H1 e _ fun v H2 e2 r => by
  obtain ⟨a, vs, rfl, hs, rr⟩ := r.tup_inv
  exact ⟨a, vs, rfl, .inr hs, fun l hl => q l vs _ (fresh_back e2 hl) (e2.trans (Same.new hl)) upd_same (rr.mono (Same.new hl))⟩
/-! ### truth -/
theorem et_truT {t : TT} (ht : t = fun σ H Q => ta σ H fun x H' => ∃ k, TruV K x H' k ∧ Q k H') (ha : EvD K FC ta σ H (.tup ds)) : EvT t σ H (!ds.isEmpty) := by
  subst ht
  exact fun H1 e Q q => ha H1 e _ fun v H2 e2 r => by
    obtain ⟨a, vs, rfl, hs, rr⟩ := r.tup_inv
    refine ⟨!ds.isEmpty, .inr (.inl ⟨vs, hs, ?_⟩), q H2 e2⟩
    cases rr <;> rfl
theorem et_truL {t : TT} (ht : t = fun σ H Q => ta σ H fun x H' => ∃ k, TruV K x H' k ∧ Q k H') (ha : EvD K FC ta σ H (.lst ds)) : EvT t σ H (!ds.isEmpty) := by
  subst ht
  exact fun H1 e Q q => ha H1 e _ fun v H2 e2 r => by
    obtain ⟨a, vs, rfl, hs, rr⟩ := r.lst_inv
    refine ⟨!ds.isEmpty, .inl ⟨vs, hs, ?_⟩, q H2 e2⟩
    cases rr <;> rfl
/-! ### slices -/
theorem cutV_map {α β : Type} (f : α → β) (xs : List α) (lo hi : Option Int) : ((xs.drop (HT.sIx xs.length 0 lo)).take (HT.sIx xs.length xs.length hi - HT.sIx xs.length 0 lo)).map f = (((xs.map f).drop (HT.sIx (xs.map f).length 0 lo)).take (HT.sIx (xs.map f).length (xs.map f).length hi - HT.sIx (xs.map f).length 0 lo)) := by
  rw [List.length_map, List.map_take, List.map_drop]
def cutD {α : Type} (xs : List α) (lo hi : Option Int) : List α := (xs.drop (HT.sIx xs.length 0 lo)).take (HT.sIx xs.length xs.length hi - HT.sIx xs.length 0 lo)
theorem cut_rep {vs : List V} (r : Reps K FC H ds vs) (lo hi : Option Int) : Reps K FC H (cutD ds lo hi) (cutV vs lo hi) := by
  unfold cutD cutV
  rw [r.length]
  exact (r.drop _).take _
theorem eo_none : EvO tNoPart σ H none := fun H1 _ _ q => q H1 (Same.refl H1)
theorem eo_c : EvO (tPart (tC (.int i))) σ H (some i) := fun H1 _ _ q => ⟨i, rfl, q H1 (Same.refl H1)⟩
theorem eo_some (h : EvD K FC te σ H (di i)) : EvO (tPart te) σ H (some i) := fun H1 e Q q => h H1 e _ fun v H2 e2 r => ⟨i, r.at_inv, q H2 e2⟩
theorem el_slL {tl th : TO} {lo hi : Option Int} (ha : EvD K FC te σ H (.lst ds)) (hl : EvO tl σ H lo) (hh : EvO th σ H hi) : EvL K FC (tSl (rSlL K) te tl th) σ H (cutD ds lo hi) := fun H1 e Q q =>
  ha H1 e _ fun v H2 e2 r => hl H2 (e.trans e2) _ fun H3 e3 => hh H3 ((e.trans e2).trans e3) _ fun H4 e4 => by
    obtain ⟨a, vs, rfl, hs, rr⟩ := r.lst_inv
    refine ⟨a, vs, rfl, (e3.trans e4).seq hs, fun p hp => q p _ _ (fresh_back ((e2.trans e3).trans e4) hp) (((e2.trans e3).trans e4).trans (Same.new hp)) upd_same ((cut_rep (rr.mono (e3.trans e4)) lo hi).mono (Same.new hp))⟩
end
/-! ### slices of tuples, starred parts -/
section
variable {K : PySem.W.Frag} {FC : Addr → Prop} {ρ : SD} {σ : L2.St} {H : Hp} {te : TE} {ds es : List D} {tl th : TO} {lo hi : Option Int} {tr : TA}
theorem ev_slT (ha : EvD K FC te σ H (.tup ds)) (hl : EvO tl σ H lo) (hh : EvO th σ H hi) : EvD K FC (tSl (rSlA K) te tl th) σ H (.tup (cutD ds lo hi)) := fun H1 e Q q =>
  ha H1 e _ fun v H2 e2 r => hl H2 (e.trans e2) _ fun H3 e3 => hh H3 ((e.trans e2).trans e3) _ fun H4 e4 => by
    obtain ⟨a, vs, rfl, hs, rr⟩ := r.tup_inv
    have hs4 := Same.sqt (e3.trans e4) hs
    have r4 := rr.mono (e3.trans e4)
    have el := rr.length
    refine ⟨a, vs, rfl, hs4, fun hw => q _ H4 ((e2.trans e3).trans e4) (.tup hs4 ?_), fun _ p hp => q _ _ (((e2.trans e3).trans e4).trans (Same.new hp)) (.tup (SqT.of upd_same) ((cut_rep r4 lo hi).mono (Same.new hp)))⟩
    have e : cutD ds lo hi = ds := by
      unfold cutD
      rw [← el, hw.1, hw.2, List.drop_zero, Nat.sub_zero, el, List.take_length]
    rw [e]
    exact r4
theorem ea_starT (ha : EvD K FC te σ H (.tup ds)) (hr : EvA K FC tr σ H es) : EvA K FC (StX.tStar K te tr) σ H (ds ++ es) := fun H1 e Q q =>
  ha H1 e _ fun x H2 e2 r2 => by
    obtain ⟨a, vs, rfl, hs, rr⟩ := r2.tup_inv
    exact ⟨a, vs, rfl, .inl hs, hr H2 (e.trans e2) _ fun xs H3 e3 r3 => q _ H3 (e2.trans e3) ((rr.mono e3).append r3)⟩
end
/-! ### what is walked -/
section
variable (K : PySem.W.Frag) (FC : Addr → Prop)
/-- J goes through ds, from H on -/
def WalksD (J : It) (H0 : Hp) (ds : List D) : Prop := ∃ (G : Hp → Prop) (Y : Nat → Hp → V → Hp → Prop), Walk J ds.length G Y ∧ G H0 ∧ (∀ H H', Same H H' → G H → G H') ∧
  ∀ i H x H', Same H0 H → i < ds.length → Y i H x H' → Same H H' ∧ ∃ d, ds[i]? = some d ∧ Rep K FC H' d x
def EvI (wi : TI) (σ : L2.St) (H : Hp) (ds : List D) : Prop := ∀ H1, Same H H1 → ∀ R : It → Hp → Prop, (∀ J H2, Same H1 H2 → WalksD K FC J H2 ds → R J H2) → wi σ H1 R
/-- a target takes d: the slots become ρ' -/
def Bind (g : TG) (d : D) (vs : List Nat) (ρ ρ' : SD) : Prop := ∀ (σ : L2.St) (H : Hp) (x : V), RepE K FC H ρ σ → Rep K FC H d x → ∀ Q : L2.St → Hp → Prop, (∀ σ' H', Same H H' → RepE K FC H' ρ' σ' → wipe σ' vs = wipe σ vs → Q σ' H') → g x σ H Q
end
theorem wipe_set {i : Nat} {v : Option V} : ∀ {vs : List Nat} {σ : L2.St}, i ∈ vs → wipe (σ.set i v) vs = wipe σ vs
  | j :: vs, σ, h => by
    show (wipe (σ.set i v) vs).set j none = (wipe σ vs).set j none
    by_cases q : i = j
    · subst q
      have key : ∀ (l : List Nat) (τ : L2.St), (wipe (τ.set i v) l).set i none = (wipe τ l).set i none := fun l => by
        induction l with
        | nil => intro τ; show (τ.set i v).set i none = τ.set i none; rw [List.set_set]
        | cons k l ih =>
          intro τ
          show ((wipe (τ.set i v) l).set k none).set i none = ((wipe τ l).set k none).set i none
          by_cases e : k = i
          · subst e; rw [List.set_set, List.set_set]; exact ih τ
          · rw [List.set_comm _ _ e, ih τ, List.set_comm _ _ (Ne.symm e)]
      exact key vs σ
    · have hm : i ∈ vs := by
        rcases List.mem_cons.mp h with e | e
        · exact absurd e q
        · exact e
      rw [wipe_set hm]
section
variable {K : PySem.W.Frag} {FC : Addr → Prop} {ρ ρ' ρ'' : SD} {σ : L2.St} {H H' : Hp} {ta tb tc te : TE} {tt : TT} {d e : D} {ds es : List D} {wi : TI} {g : TG} {vs : List Nat}
theorem bind_name {n : Nat} (hn : n ∈ vs) : Bind K FC (gName n) d vs ρ (ρ.set n (some d)) := fun σ H x R r Q q => q _ H (Same.refl H) (R.set r) (wipe_set hn)
theorem bind_nil {Q : L2.St → Hp → Prop} (h : Q σ H) : gNil [] σ H Q := ⟨rfl, h⟩
/-- a, b = pair -/
theorem bind_pair {n m : Nat} (hn : n ∈ vs) (hm : m ∈ vs) : Bind K FC (gTup K 2 (gCons (gName n) (gCons (gName m) gNil))) (.tup [d, e]) vs ρ ((ρ.set n (some d)).set m (some e)) := fun σ H x R r Q q => by
  obtain ⟨a, us, rfl, hs, rr⟩ := r.tup_inv
  cases rr with
  | cons r1 rr =>
    cases rr with
    | cons r2 rr =>
      cases rr
      exact ⟨a, _, rfl, hs, rfl, _, _, rfl, _, _, rfl, rfl, q _ H (Same.refl H) ((R.set r1).set r2) (by rw [wipe_set hm, wipe_set hn])⟩
theorem evi_list {tl : TE} (h : EvD K FC tl σ H (.lst ds)) : EvI K FC (iList K tl) σ H ds := fun H1 e R q => h H1 e _ fun v H2 e2 r => by
  obtain ⟨a, vs, rfl, hs, rr⟩ := r.lst_inv
  refine ⟨a, rfl, ⟨vs, hs⟩, q _ H2 e2 ⟨_, _, by rw [← rr.length]; exact walk_list (xs := vs), hs, fun _ _ e h => e.seq h, fun i H x H' e hi y => ?_⟩⟩
  obtain ⟨rfl, y⟩ := y
  obtain ⟨d, h1, h2⟩ := rr.get' y
  exact ⟨Same.refl _, d, h1, h2.mono e⟩
theorem evi_tup {tl : TE} (h : EvD K FC tl σ H (.tup ds)) : EvI K FC (iTup K tl) σ H ds := fun H1 e R q => h H1 e _ fun v H2 e2 r => by
  obtain ⟨a, vs, rfl, hs, rr⟩ := r.tup_inv
  refine ⟨a, rfl, ⟨vs, hs⟩, q _ H2 e2 ⟨_, _, by rw [← rr.length]; exact walk_tup (xs := vs), hs, fun _ _ e h => Same.sqt e h, fun i H x H' e hi y => ?_⟩⟩
  obtain ⟨rfl, y⟩ := y
  obtain ⟨d, h1, h2⟩ := rr.get' y
  exact ⟨Same.refl _, d, h1, h2.mono e⟩
theorem evi_range {n : Nat} {tr : TA} (h : EvA K FC tr σ H [di (n : Int)]) (hn : n < 2 ^ 62 := by omega) : EvI K FC (iRng1 tr) σ H ((List.range n).map fun (k : Nat) => di (k : Int)) := fun H1 e R q => h H1 e _ fun vs H2 e2 r => by
  cases r with
  | cons r rr =>
    cases rr
    cases r.at_inv
    have hn' : (n : Int) < 2 ^ 62 := by
      have : ((n : Nat) : Int) < ((2 ^ 62 : Nat) : Int) := Int.ofNat_lt.mpr hn
      simpa using this
    refine ⟨n, rfl, by omega, hn', ?_⟩
    refine q _ H2 e2 ⟨fun _ => True, YFn fun i => .int (0 + (i : Int)), by rw [List.length_map, List.length_range]; exact walk_range (lo := 0) (n := (n : Int).toNat), trivial, fun _ _ _ _ => trivial, fun i H x H' e hi y => ?_⟩
    obtain ⟨rfl, rfl⟩ := y
    rw [List.length_map, List.length_range] at hi
    exact ⟨Same.refl _, di (i : Int), by rw [List.getElem?_map, List.getElem?_range hi]; rfl, by show Rep K FC H' (di (i : Int)) (.int (0 + (i : Int))); rw [Int.zero_add]; exact .at _⟩
theorem evi_enum {tr : TA} (h : EvA K FC tr σ H [.lst ds]) : EvI K FC (iEnum K tr) σ H ((List.range ds.length).map fun (k : Nat) => .tup [di (k : Int), ds.getD k dn]) := fun H1 e R q => h H1 e _ fun us H2 e2 r => by
  cases r with
  | cons r rr =>
    cases rr
    obtain ⟨a, vs, rfl, hs, rr⟩ := r.lst_inv
    refine ⟨a, vs, rfl, hs, q _ H2 e2 ⟨_, _, by rw [List.length_map, List.length_range, ← rr.length]; exact walk_enum (xs := vs), hs, fun _ _ e h => e.seq h, fun i H x H' e hi y => ?_⟩⟩
    obtain ⟨T, x1, y1, rfl, hT, rfl, h1, h2⟩ := y
    rw [List.length_map, List.length_range] at hi
    obtain ⟨d, h3, h4⟩ := rr.get' h2
    cases h1
    refine ⟨Same.new hT, .tup [di (i : Int), d], ?_, .tup (SqT.of upd_same) (.cons (.at _) (.cons ((h4.mono e).mono (Same.new hT)) .nil))⟩
    rw [List.getElem?_map, List.getElem?_range hi]
    simp only [Option.map_some, Option.some.injEq, D.tup.injEq, List.cons.injEq, true_and, and_true]
    rw [List.getD_eq_getElem?_getD, h3]
    rfl
/-- a comprehension over items that are told of xs -/
theorem el_lc {α : Type} {xs : List α} {dof f : α → D} {p : α → Bool} {ρ1 : α → SD} (R : RepE K FC H ρ σ) (hi : EvI K FC wi σ H (xs.map dof)) (hb : ∀ a ∈ xs, Bind K FC g (dof a) vs (wipeD ρ vs) (ρ1 a))
    (ht : ∀ a ∈ xs, ∀ σ' H', Same H H' → RepE K FC H' (ρ1 a) σ' → EvT tt σ' H' (p a)) (he : ∀ a ∈ xs, p a = true → ∀ σ' H', Same H H' → RepE K FC H' (ρ1 a) σ' → EvD K FC te σ' H' (f a)) (hn : ∀ a ∈ xs, NoL (f a)) (hl : xs.length ≤ 1000000) :
    EvL K FC (tLc wi g tt te vs) σ H ((xs.filter p).map f) := fun H1 e Q q => hi H1 e _ fun J H2 e2 ⟨G, Y, W, g0, gm, gy⟩ D hD => by
  rw [List.length_map] at W gy
  refine lc_it W (fun i H3 => Same H2 H3 ∧ ∃ acc, H3 D = some (.lst acc) ∧ Reps K FC H3 (((xs.take i).filter p).map f) acc) ⟨Same.new hD, [], upd_same, .nil⟩ (fun i H3 _ h => gm _ _ h.1 g0) ?_ ?_
  · rintro i x H3 H4 hlt ⟨e3, acc, ha, ra⟩ y
    obtain ⟨e4, d, hd, rd⟩ := gy i H3 x H4 e3 hlt y
    have hx : xs[i]? = some xs[i] := List.getElem?_eq_getElem hlt
    rw [List.getElem?_map, hx] at hd
    cases hd
    have hm : xs[i] ∈ xs := List.getElem_mem hlt
    have s4 : Same H H4 := ((e.trans e2).trans e3).trans e4
    refine hb _ hm _ H4 x ((R.mono s4).wipe vs) rd _ fun σ' H5 e5 R5 hw => ⟨by
      have idem : ∀ (τ : L2.St), wipe (wipe τ vs) vs = wipe τ vs := fun τ => by
        refine List.ext_getElem? fun k => ?_
        by_cases hk : k ∈ vs
        · have key : ∀ (l : List Nat) (τ : L2.St), k ∈ l → (wipe τ l)[k]? = if k < τ.length then some none else none := fun l => by
            induction l with
            | nil => intro τ h; cases h
            | cons j l ih =>
              intro τ h
              show ((wipe τ l).set j none)[k]? = _
              by_cases e : j = k
              · subst e
                by_cases q : j < τ.length
                · rw [if_pos q, List.getElem?_set_self (by rw [wipe_length]; exact q)]
                · rw [if_neg q]
                  exact List.getElem?_eq_none (by rw [List.length_set, wipe_length]; omega)
              · rw [List.getElem?_set_ne e]
                rcases List.mem_cons.mp h with z | z
                · exact absurd z.symm e
                · exact ih τ z
          rw [key vs _ hk, key vs _ hk, wipe_length]
        · rw [wipe_out hk]
      rw [hw]
      exact idem σ, ?_⟩
    refine ht _ hm σ' H5 (s4.trans e5) R5 H5 (Same.refl H5) _ fun H6 e6 => ?_
    have e36 : Same H3 H6 := (e4.trans e5).trans e6
    have htake : xs.take (i + 1) = xs.take i ++ [xs[i]] := by
      rw [List.take_succ, hx]
      rfl
    cases hp : p xs[i] with
    | true =>
      refine he _ hm hp σ' H6 ((s4.trans e5).trans e6) (R5.mono e6) H6 (Same.refl H6) _ fun v H7 e7 r7 => ?_
      have e37 : Same H3 H7 := e36.trans e7
      have lacc : acc.length ≤ xs.length := by
        rw [ra.length, List.length_map]
        exact Nat.le_trans (List.length_filter_le _ _) (by rw [List.length_take]; omega)
      refine ⟨acc, e37 _ _ ha, Nat.lt_of_le_of_lt (show acc.length ≤ 1000000 by omega) (by decide +kernel), Same.mut (Same.trans e3 e37) hD, _, upd_same, ?_⟩
      have fz : Frz FC H7 (upd H7 D (.lst (acc ++ [v]))) := Frz.upd_lst (e37 _ _ ha)
      rw [htake, List.filter_append, List.map_append]
      refine Reps.append ?_ ?_
      · refine (ra.mono e37).frz fz (NoLs.of fun d hd => ?_)
        obtain ⟨a, h1, h2⟩ := List.mem_map.mp hd
        rw [← h2]
        exact hn a (List.mem_of_mem_take (List.mem_filter.mp h1).1)
      · rw [List.filter_cons, if_pos hp]
        exact .cons (r7.frz fz (hn _ hm)) .nil
    | false =>
      refine ⟨e3.trans e36, acc, e36 _ _ ha, ?_⟩
      rw [htake, List.filter_append, List.map_append, List.filter_cons, if_neg (by rw [hp]; exact Bool.false_ne_true)]
      simp only [List.filter_nil, List.map_nil, List.append_nil]
      exact ra.mono e36
  · rintro H3 ⟨e3, acc, ha, ra⟩
    rw [List.take_length] at ra
    exact q D acc H3 (fresh_back e2 hD) (e2.trans e3) ha ra
theorem et_yes : EvT tYes σ H true := fun H1 _ _ q => q H1 (Same.refl H1)
/-- .. without a test -/
theorem el_map {α : Type} {xs : List α} {dof f : α → D} {ρ1 : α → SD} (R : RepE K FC H ρ σ) (hi : EvI K FC wi σ H (xs.map dof)) (hb : ∀ a ∈ xs, Bind K FC g (dof a) vs (wipeD ρ vs) (ρ1 a))
    (he : ∀ a ∈ xs, ∀ σ' H', Same H H' → RepE K FC H' (ρ1 a) σ' → EvD K FC te σ' H' (f a)) (hn : ∀ a ∈ xs, NoL (f a)) (hl : xs.length ≤ 1000000) : EvL K FC (tLc wi g tYes te vs) σ H (xs.map f) := by
  have h := el_lc (p := fun _ => true) R hi hb (fun _ _ _ _ _ _ => et_yes) (fun a ha _ => he a ha) hn hl
  rwa [List.filter_eq_self.mpr fun _ _ => rfl] at h
end
/-! ### loops -/
section
variable (K : PySem.W.Frag) (FC : Addr → Prop)
/-- J goes through ds as long as what is frozen stays -/
def WalksZ (J : It) (H0 : Hp) (ds : List D) : Prop := ∃ (G : Hp → Prop) (Y : Nat → Hp → V → Hp → Prop), Walk J ds.length G Y ∧ G H0 ∧ (∀ H H', Frz FC H H' → G H → G H') ∧
  ∀ i H x H', Frz FC H0 H → i < ds.length → Y i H x H' → Same H H' ∧ ∃ d, ds[i]? = some d ∧ Rep K FC H' d x
def EvZ (wi : TI) (σ : L2.St) (H : Hp) (ds : List D) : Prop := ∀ H1, Same H H1 → ∀ R : It → Hp → Prop, (∀ J H2, Same H1 H2 → WalksZ K FC J H2 ds → R J H2) → wi σ H1 R
end
section
variable {K : PySem.W.Frag} {FC : Addr → Prop} {ρ : SD} {σ : L2.St} {H : Hp} {ta : TE} {ds : List D} {wi : TI} {g : TG} {tb : TS} {B : Ends}
theorem evz_tup {tl : TE} (h : EvD K FC tl σ H (.tup ds)) (n : NoLs ds) : EvZ K FC (iTup K tl) σ H ds := fun H1 e R q => h H1 e _ fun v H2 e2 r => by
  obtain ⟨a, vs, rfl, hs, rr⟩ := r.tup_inv
  refine ⟨a, rfl, ⟨vs, hs⟩, q _ H2 e2 ⟨_, _, by rw [← rr.length]; exact walk_tup (xs := vs), hs, fun _ _ e h => e.sqt h, fun i H x H' e hi y => ?_⟩⟩
  obtain ⟨rfl, y⟩ := y
  obtain ⟨d, h1, h2⟩ := rr.get' y
  exact ⟨Same.refl _, d, h1, h2.frz e (n.mem (List.mem_of_getElem? h1))⟩
theorem evz_range {n : Nat} {tr : TA} (h : EvA K FC tr σ H [di (n : Int)]) (hn : n < 2 ^ 62 := by omega) : EvZ K FC (iRng1 tr) σ H ((List.range n).map fun (k : Nat) => di (k : Int)) := fun H1 e R q => h H1 e _ fun vs H2 e2 r => by
  cases r with
  | cons r rr =>
    cases rr
    cases r.at_inv
    have hn' : (n : Int) < 2 ^ 62 := by
      have : ((n : Nat) : Int) < ((2 ^ 62 : Nat) : Int) := Int.ofNat_lt.mpr hn
      simpa using this
    refine ⟨n, rfl, by omega, hn', ?_⟩
    refine q _ H2 e2 ⟨fun _ => True, YFn fun i => .int (0 + (i : Int)), by rw [List.length_map, List.length_range]; exact walk_range (lo := 0) (n := (n : Int).toNat), trivial, fun _ _ _ _ => trivial, fun i H x H' e hi y => ?_⟩
    obtain ⟨rfl, rfl⟩ := y
    rw [List.length_map, List.length_range] at hi
    exact ⟨Same.refl _, di (i : Int), by rw [List.getElem?_map, List.getElem?_range hi]; rfl, by show Rep K FC H' (di (i : Int)) (.int (0 + (i : Int))); rw [Int.zero_add]; exact .at _⟩
/-- a for: Pv by the turn, the slots and the heap, from the heap H2 behind the walked thing's making -/
theorem st_forZ (hi : EvZ K FC wi σ H ds) (q : ∀ H2, Same H H2 → ∃ Pv : Nat → L2.St → Hp → Prop, Pv 0 σ H2 ∧ (∀ i σ' H', Pv i σ' H' → Frz FC H2 H') ∧
    (∀ i d x σ' H' H'', ds[i]? = some d → Pv i σ' H' → Same H' H'' → Rep K FC H'' d x → g x σ' H'' fun σ2 H3 => tb { B with nx := Pv (i + 1), ct := Pv (i + 1), bk := B.nx } σ2 H3) ∧ ∀ σ' H', Pv ds.length σ' H' → B.nx σ' H') : tFor wi g tb B σ H :=
  hi H (Same.refl H) _ fun J H2 e2 ⟨G, Y, W, g0, gm, gy⟩ => by
    obtain ⟨Pv, h0, hz, hs, hd⟩ := q H2 e2
    refine for_it W Pv h0 (fun i σ' H' _ h => gm _ _ (hz i σ' H' h) g0) (fun i x σ' H' H'' hlt h y => ?_) hd
    obtain ⟨e4, d, h1, h2⟩ := gy i H' x H'' (hz i σ' H' h) hlt y
    exact hs i d x σ' H' H'' h1 h e4 h2
end
/-! ### an object is made -/
def spI (K : PySem.W.Frag) (FC : Addr → Prop) (C : Addr) (R : List D → Str → D → Prop) : Sp := fun vs H Q _ => ∃ (p dx : Addr) (us : List V) (ds : List D) (f : Str) (d : D), vs = .ref p :: us ∧ H p = some (.ins C dx []) ∧ R ds f d ∧ Reps K FC H ds us ∧
  ∀ (H' : Hp) (v : V), (∀ b o, H b = some o → b ≠ p → H' b = some o) → H' p = some (.ins C dx [(f, v)]) → Rep K FC H' d v → Q .non H'
section
variable {K : PySem.W.Frag} {FC : Addr → Prop} {ρ : SD} {σ : L2.St} {H : Hp} {te : TE} {ds : List D} {d : D} {B : Ends} {f : Str}
theorem ev_make {C : Addr} {R : List D → Str → D → Prop} {tr : TA} (ha : EvA K FC tr σ H ds) (hR : R ds f d) (hC : FC C) : EvD K FC (tMake C (spI K FC C R) [] C8.E0 tr) σ H (.obj C [(f, d)]) := fun H1 e Q q =>
  ha H1 e _ fun vs H2 e2 r x dx nx ndx ne => by
    have s1 : Same H2 (upd (upd H2 dx (.own x)) x (.ins C dx [])) := (Same.new ndx).trans (Same.new (by rw [upd_ne (Ne.symm ne)]; exact nx))
    refine ⟨x, dx, vs, ds, f, d, by rw [List.append_nil], upd_same, hR, r.mono s1, fun H' v k hp rv => ⟨rfl, q _ H' (e2.trans (Same.made nx ndx k)) (.obj hC hp (List.cons_ne_nil _ _) (.cons rv .nil))⟩⟩
theorem st_fld {n : Nat} {p C dx : Addr} {gs : List (Str × V)} (hs : σ[n]? = some (some (.ref p))) (hp : H p = some (.ins C dx gs)) (hc : Cls K C) (hn : NoAttr K C f) (hl : gs.length < 1000) (h : EvD K FC te σ H d)
    (q : ∀ v H', Same H H' → Rep K FC H' d v → H' p = some (.ins C dx gs) → B.nx σ (upd H' p (.ins C dx (putF f v gs)))) : sFld K (tVar n) te f B σ H :=
  h H (Same.refl H) _ fun v H' e r => ⟨_, hs, p, C, dx, gs, rfl, e _ _ hp, hc, hn, hl, q v H' e r (e _ _ hp)⟩
end
/-! ### a def that keeps a promise over trees -/
section
variable {P : Program} {w : World} {K : PySem.W.Frag} {mg : Str → Option Value} {base : Heap} {FC : Addr → Prop}
theorem fnN {x qual : Str} {params : Arguments} {body : List Stmt} {scope : Scope} {dvs : List V} {kws : List (Str × V)} {f : Addr} {fd : FuncData} {N ps : List Str} {k : Nat} {R : List D → (D → Prop) → Prop} (F : FunD K x qual params body scope dvs kws f fd) (S : FnScope N ps scope)
    (hl : ∀ ds P, R ds P → ds.length = ps.length)
    (hbody : ∀ (cdv : Value) (A : Around) (outer : List Env) (s : Shared) (H : Hp) (E : XK), Room k (A.deeper (envOfC qual scope s.heap.objs.size f cdv)) →
      ∃ t, PSs (cxOf CX0 P w K mg base N qual scope f cdv A outer s H E).nox body t ∧ ∀ ds Pd vs (Q : VK), R ds Pd → RepE K FC H (startD N ds) (start N vs) → (∀ d v H', Pd d → Same H H' → Rep K FC H' d v → Q v H') → t { nx := fun _ H' => Q .non H', rt := Q } (start N vs) H) :
    FnOk P w K mg base CX0 (k + 1) f fd ps (spN K FC R) := by
  refine F.ok S (fun vs H Q E h => ?_) (fun cdv A outer s H vs Q E hr h => ?_)
  · obtain ⟨ds, Pd, h1, h2, _⟩ := h
    rw [h2.length]
    exact hl ds Pd h1
  · obtain ⟨ds, Pd, h1, h2, h3⟩ := h
    obtain ⟨t, ht, q⟩ := hbody cdv A outer s H E hr
    exact ⟨t, ht.nox, q ds Pd vs Q h1 (RepE.start h2) h3⟩
theorem fnL {x qual : Str} {params : Arguments} {body : List Stmt} {scope : Scope} {dvs : List V} {kws : List (Str × V)} {f : Addr} {fd : FuncData} {N ps : List Str} {k : Nat} {R : List D → List D → Prop} (F : FunD K x qual params body scope dvs kws f fd) (S : FnScope N ps scope)
    (hl : ∀ ds es, R ds es → ds.length = ps.length)
    (hbody : ∀ (cdv : Value) (A : Around) (outer : List Env) (s : Shared) (H : Hp) (E : XK), Room k (A.deeper (envOfC qual scope s.heap.objs.size f cdv)) →
      ∃ t, PSs (cxOf CX0 P w K mg base N qual scope f cdv A outer s H E).nox body t ∧ ∀ ds es vs (Q : VK), R ds es → Reps K FC H ds vs → RepE K FC H (startD N ds) (start N vs) → (∀ p us H', H p = none → Same H H' → H' p = some (.lst us) → Reps K FC H' es us → Q (.ref p) H') → t { nx := fun _ H' => Q .non H', rt := Q } (start N vs) H) :
    FnOk P w K mg base CX0 (k + 1) f fd ps (spL K FC R) := by
  refine F.ok S (fun vs H Q E h => ?_) (fun cdv A outer s H vs Q E hr h => ?_)
  · obtain ⟨ds, es, h1, h2, _⟩ := h
    rw [h2.length]
    exact hl ds es h1
  · obtain ⟨ds, es, h1, h2, h3⟩ := h
    obtain ⟨t, ht, q⟩ := hbody cdv A outer s H E hr
    exact ⟨t, ht.nox, q ds es vs Q h1 h2 (RepE.start h2) h3⟩
theorem fnI {x qual : Str} {params : Arguments} {body : List Stmt} {scope : Scope} {dvs : List V} {kws : List (Str × V)} {f : Addr} {fd : FuncData} {N ps : List Str} {k : Nat} {C : Addr} {R : List D → Str → D → Prop} (F : FunD K x qual params body scope dvs kws f fd) (S : FnScope N ps scope)
    (hl : ∀ ds g d, R ds g d → ds.length + 1 = ps.length)
    (hbody : ∀ (cdv : Value) (A : Around) (outer : List Env) (s : Shared) (H : Hp) (E : XK), Room k (A.deeper (envOfC qual scope s.heap.objs.size f cdv)) →
      ∃ t, PSs (cxOf CX0 P w K mg base N qual scope f cdv A outer s H E).nox body t ∧ ∀ (p dx : Addr) ds g d vs (Q : VK), R ds g d → H p = some (.ins C dx []) → RepE K FC H (startD N (.at (.ref p) :: ds)) (start N vs) → (start N vs)[0]? = some (some (.ref p)) →
        (∀ v H', Same H H' → Rep K FC H' d v → NoL d → Q .non (upd H' p (.ins C dx (putF g v [])))) → t { nx := fun _ H' => Q .non H', rt := Q } (start N vs) H) :
    FnOk P w K mg base CX0 (k + 1) f fd ps (spI K FC C R) := by
  refine F.ok S (fun vs H Q E h => ?_) (fun cdv A outer s H vs Q E hr h => ?_)
  · obtain ⟨p, dx, us, ds, g, d, rfl, _, h1, h2, _⟩ := h
    rw [← hl ds g d h1, ← h2.length]
    rfl
  · obtain ⟨p, dx, us, ds, g, d, rfl, hp, h1, h2, h3⟩ := h
    obtain ⟨t, ht, q⟩ := hbody cdv A outer s H E hr
    refine ⟨t, ht.nox, q p dx ds g d _ Q h1 hp (RepE.start (.cons (.at _) h2)) rfl fun v H' e r n => h3 _ v (fun b o hb ne => by rw [upd_ne ne]; exact e _ _ hb) upd_same (r.frz (Frz.upd_bare (e _ _ hp)) n)⟩
end
end T34

/-! K34c -/
set_option maxHeartbeats 4000000
/-! The text by places, what is known of the top, a few more rules over trees. -/
namespace T34
open PySem PySem.Spec PyProof.Rows L2
def top (i : Nat) : Stmt := PySem.Challenge.pw_shortkeys_k34_whole_trials.main.body.getD i (.Pass ⟨0, 0, 0, 0⟩)
abbrev FnP (K : PySem.W.Frag) (x qual : Str) (st : Stmt) (f : Addr) (fd : FuncData) : Prop := FunD K x qual (defArgs st) (defBody st) (defScope st) [] [] f fd
/-- the addresses of the top's classes and tables -/
structure Ad where
  (CR CK CP CA CH CN aLV aJN aLT aTR : Addr)
def Ad.FC (a : Ad) : Addr → Prop := fun C => C = a.CR ∨ C = a.CK ∨ C = a.CP
/-- what isinstance asks of an own class -/
structure OwnC (K : PySem.W.Frag) (C : Addr) : Prop where
  cl : Cls K C
  ha : PySem.W.findIn K (.ref C) "__class__" = some (some (.builtin "object.__class__"))
  hn : PySem.W.specialIn K (.builtin "object.__class__") "__get__" = some (some (.builtin "getset_descriptor.__get__"))
  htk : PySem.W.takesIn K (.builtin "object.__class__") = some true
  hm : PySem.W.mroIn K C (.type "object") = some true
abbrev GV (mg : Str → Option Value) (x : Str) (v : V) : Prop := ∃ u, mg x = some u ∧ RelV v u
/-- what is known of the top -/
structure Tx (K : PySem.W.Frag) (w : World) (mg : Str → Option Value) (a : Ad) : Prop where
  f_len : mg "len" = none
  f_int : mg "int" = none
  f_str : mg "str" = none
  f_bool : mg "bool" = none
  f_tuple : mg "tuple" = none
  f_list : mg "list" = none
  f_all : mg "all" = none
  f_sum : mg "sum" = none
  f_isinstance : mg "isinstance" = none
  f_range : mg "range" = none
  f_enumerate : mg "enumerate" = none
  f_zip : mg "zip" = none
  f_KeyError : mg "KeyError" = none
  g_MOST : GV mg "MOST" (.int 9)
  g_MOST_FIELDS : GV mg "MOST_FIELDS" (.int 3)
  g_MOST_CELLS : GV mg "MOST_CELLS" (.int 2)
  g_MOST_PLACES : GV mg "MOST_PLACES" (.int 3)
  g_MOST_SITUATIONS : GV mg "MOST_SITUATIONS" (.int 81)
  g_LEAVES : GV mg "LEAVES" (.ref a.aLV)
  g_JOINS : GV mg "JOINS" (.ref a.aJN)
  g_LETTERS : GV mg "LETTERS" (.ref a.aLT)
  g_TRACKED : GV mg "TRACKED" (.ref a.aTR)
  c_Recipe : GV mg "Recipe" (.ref a.CR)
  c_Key : GV mg "Key" (.ref a.CK)
  c_Plan : GV mg "Plan" (.ref a.CP)
  d_LEAVES : ∃ es n, KDict K w a.aLV es n
  d_JOINS : ∃ es n, KDict K w a.aJN es n
  d_LETTERS : ∃ es n, KDict K w a.aLT es n
  v_LEAVES : ∀ q ∈ ([("number", 3), ("field", 3), ("cell", 2), ("place", 2)] : List (Str × Int)), ∃ u, PySem.W.nsIn K a.aLV q.1 = some (some u) ∧ RelV (.int q.2) u
  n_LEAVES : ∀ q ∈ (["sum", "less", "times", "same", "when"] : List Str), PySem.W.nsIn K a.aLV q = some none
  v_JOINS : ∀ q ∈ ([("sum", 2), ("less", 2), ("times", 2), ("same", 2), ("when", 3)] : List (Str × Int)), ∃ u, PySem.W.nsIn K a.aJN q.1 = some (some u) ∧ RelV (.int q.2) u
  v_LETTERS : ∀ q ∈ ([("field", "f"), ("cell", "c"), ("place", "p")] : List (Str × Str)), ∃ u, PySem.W.nsIn K a.aLT q.1 = some (some u) ∧ RelV (.str q.2) u
  t_TRACKED : ∀ H : Hp, SqT K H a.aTR [.str "reads", .str "shown"]
  oR : OwnC K a.CR
  oK : OwnC K a.CK
  oP : OwnC K a.CP
  oA : OwnC K a.CA
  oH : OwnC K a.CH
  kRR : PySem.W.kitOne K (.ref a.CR) (.ref a.CR) = some true
  kKK : PySem.W.kitOne K (.ref a.CK) (.ref a.CK) = some true
  kPP : PySem.W.kitOne K (.ref a.CP) (.ref a.CP) = some true
  kNK : PySem.W.kitOne K (.type "NoneType") (.ref a.CK) = some false
  kSK : PySem.W.kitOne K (.type "str") (.ref a.CK) = some false
  kKT : PySem.W.kitOne K (.ref a.CK) (.type "tuple") = some false
  nRform : NoAttr K a.CR "form"
  nKrow : NoAttr K a.CK "row"
  nPparts : NoAttr K a.CP "parts"
  nAowner : NoAttr K a.CA "owner"
  nAsit : NoAttr K a.CA "situation"
  nAheld : NoAttr K a.CA "held"
  nAtrace : NoAttr K a.CA "trace"
  nHsource : NoAttr K a.CH "source"
  nHheld : NoAttr K a.CH "held"
  nHpast : NoAttr K a.CH "past"
  nHfloor : NoAttr K a.CH "floor"
  nAF : ¬ a.FC a.CA
  nHF : ¬ a.FC a.CH
/-- a property by its getter's promise -/
structure Prp (P : Program) (w : World) (K : PySem.W.Frag) (mg : Str → Option Value) (base : Heap) (k : Nat) (C : Addr) (f : Str) (sp : Sp) : Prop where
  ex : ∃ (p g : Addr) (fd : FuncData) (ps : List Str), Cls K C ∧ PropOf K C f p g ∧ FnOk P w K mg base CX0 k g fd ps sp ∧ Binds K fd ps []
theorem pe_pp {X : Cx} {k j : Nat} {C : Addr} {f : Str} {sp : Sp} {e : Expr} {pos : Pos} {ta : TE} (c : Prp X.prog X.w X.K X.mg X.base k C f sp) (hr : Room j X.A) (hk : k + 1 ≤ j) (he : PE X e ta)
    (hab : attributeBase e f X.env (eval e X.env) = eval e X.env := by rfl) : PE X (.Attribute e f pos) (tProp C sp [] E0 ta) := by
  obtain ⟨p, g, fd, ps, hc, hp, F, b⟩ := c.ex
  exact pe_prop he hc hp F (hr.mono hk) b .nil pass0 hab
section
variable {X : Cx} {K : PySem.W.Frag} {w : World}
theorem op_inQ (h : X.K = K := by rfl) : OpR X (compareOp .In) (rIn K false) := by subst h; exact op_in_seq
theorem op_niQ (h : X.K = K := by rfl) : OpR X (compareOp .NotIn) (rIn K true) := by subst h; exact op_notIn_seq
theorem ix_tupK (h : X.K = K := by rfl) : IxR X (rIxT K) := by subst h; exact ix_tup
theorem ix_listK (h : X.K = K := by rfl) : IxR X (rIxL K) := by subst h; exact ix_list
theorem ix_kdK (h : X.K = K := by rfl) (h2 : X.w = w := by rfl) : IxR X (rIxD K w) := by subst h; subst h2; exact ix_kdict
theorem pe_fldK {e : Expr} {f : Str} {pos : Pos} {ta : TE} (he : PE X e ta) (h : X.K = K := by rfl) (hb : attributeBase e f X.env (eval e X.env) = eval e X.env := by rfl) : PE X (.Attribute e f pos) (tFld K ta f) := by subst h; exact pe_fld he hb
theorem call_lenK (h : X.K = K := by rfl) : CallR X (.builtin "len") (rLenS K) := by subst h; exact call_len_seq
theorem call_tupK (h : X.K = K := by rfl) : CallR X (.type "tuple") (rTupL K) := by subst h; exact call_tuple_of
theorem call_lstK (h : X.K = K := by rfl) : CallR X (.type "list") (rLstS K) := by subst h; exact call_list_of
theorem cr_allK (hc : X.calm = true) (h : X.K = K := by rfl) : CallR X (.builtin "all") (rAll K) := by subst h; exact cr_all hc
theorem cr_sumK (hc : X.calm = true) (h : X.K = K := by rfl) : CallR X (.builtin "sum") (rSum K) := by subst h; exact cr_sum hc
theorem call_isiK1 (h : X.K = K := by rfl) : CallR X (.builtin "isinstance") (rIsi K) := by subst h; exact call_isi
theorem call_isiTK (h : X.K = K := by rfl) : CallR X (.builtin "isinstance") (rIsiT K) := by subst h; exact call_isiT
theorem sl_listK (h : X.K = K := by rfl) : SlR X (rSlL K) := by subst h; exact sl_list
theorem sl_tupK (h : X.K = K := by rfl) : SlR X (rSlA K) := by subst h; exact sl_tupA
end
section
variable {K : PySem.W.Frag} {w : World} {mg : Str → Option Value} {A : Ad} {FC : Addr → Prop} {ρ : SD} {σ : L2.St} {H H' : Hp} {ta tb tc te : TE} {d e : D} {ds es : List D} {x y z v : V} {r : R2} {i j : Int} {b c : Bool} {t u : TT}
/-! ### isinstance -/
inductive TyD (K : PySem.W.Frag) : D → Value → Prop
  | non : TyD K (.at .non) (.type "NoneType")
  | bl (b : Bool) : TyD K (.at (.bl b)) (.type "bool")
  | int (i : Int) : TyD K (.at (.int i)) (.type "int")
  | str (x : Str) : TyD K (.at (.str x)) (.type "str")
  | tup (ds : List D) : TyD K (.tup ds) (.type "tuple")
  | obj {C : Addr} (fs : List (Str × D)) (o : OwnC K C) : TyD K (.obj C fs) (.ref C)
theorem tyx_of {tv : Value} (h : TyD K d tv) (r : Rep K FC H d v) : TyX K H v tv := by
  cases h with
  | non => rw [r.at_inv]; exact .base .non
  | bl b => rw [r.at_inv]; exact .base (.bl b)
  | int i => rw [r.at_inv]; exact .base (.int i)
  | str x => rw [r.at_inv]; exact .base (.str x)
  | tup ds =>
    obtain ⟨a, vs, rfl, hs, _⟩ := r.tup_inv
    rcases hs with (hs | ⟨o, hs⟩) | ⟨o, its, n, hk, hc, _⟩
    · exact .base (.tup hs)
    · exact .fTuple hs
    · exact .kTuple hk hc
  | obj fs o =>
    obtain ⟨a, dx, gs, rfl, _, ho, _⟩ := r.obj_inv
    exact .base (.ins ho o.cl o.ha o.hn o.htk o.hm)
theorem ev_isi {cv : V} {tv u : Value} (ha : EvD K FC ta σ H d) (hty : TyD K d tv) (hc : EvD K FC tc σ H (.at cv)) (k : ClsV cv u) (e : PySem.W.kitOne K tv u = some b) : EvD K FC (tCB (rIsi K) (tCons ta (tCons tc tNil))) σ H (db b) := fun H1 a Q q =>
  ha H1 a _ fun v H2 e2 r2 => hc H2 (a.trans e2) _ fun w H3 e3 r3 => by
    cases r3.at_inv
    exact ⟨v, cv, tv, u, b, rfl, k, tyx_of hty (r2.mono e3), e, q _ H3 (e2.trans e3) (.at _)⟩
/-- isinstance(x, (c, ..)) -/
theorem ev_isiT {tr : TA} {cs : List V} {tv : Value} {us : List Value} (ha : EvD K FC ta σ H d) (hty : TyD K d tv) (hc : EvA K FC tr σ H (cs.map D.at)) (k : Paired ClsV cs us) (e : PySem.W.kitAny K tv us = some b) (hl : cs.length ≤ sizeLine := by decide) :
    EvD K FC (tCB (rIsiT K) (tCons ta (tCons (tTup tr) tNil))) σ H (db b) := fun H1 a Q q =>
  ha H1 a _ fun v H2 e2 r2 => hc H2 (a.trans e2) _ fun ws H3 e3 r3 => by
    cases r3.ats_inv
    exact ⟨hl, fun p hp => ⟨v, p, cs, tv, us, b, rfl, upd_same, k, tyx_of hty ((r2.mono e3).mono (Same.new hp)), e, q _ _ ((e2.trans e3).trans (Same.new hp)) (.at _)⟩⟩
/-! ### in -/
theorem in_strs {x : Str} : ∀ {l : List Str}, inV (.str x) (l.map V.str) = decide (x ∈ l)
  | [] => rfl
  | y :: l => by
    have ih := in_strs (x := x) (l := l)
    unfold inV at ih ⊢
    rw [List.map_cons, List.any_cons, ih]
    have e : eqV (.str y) (.str x) = decide (x = y) := by
      show (y == x) = _
      by_cases h : x = y
      · subst h; simp
      · rw [decide_eq_false h, beq_eq_false_iff_ne.mpr (Ne.symm h)]
    rw [e]
    by_cases h : x = y
    · subst h; simp
    · simp [h]
theorem flat_strs : ∀ l : List Str, (l.map V.str).all flatV = true
  | [] => rfl
  | _ :: l => flat_strs l
theorem strs_at (l : List Str) : l.map dz = (l.map V.str).map D.at := by rw [List.map_map]; rfl
theorem ev_inL {neg : Bool} {x : Str} {l : List Str} (ha : EvD K FC ta σ H (dz x)) (hb : EvD K FC tb σ H (.lst (l.map dz))) : EvD K FC (tOp (rIn K neg) ta tb) σ H (db (if neg then !decide (x ∈ l) else decide (x ∈ l))) := fun H1 a Q q =>
  ha H1 a _ fun v H2 e2 r2 => hb H2 (a.trans e2) _ fun u H3 e3 r3 => by
    obtain ⟨p, vs, rfl, hs, rr⟩ := r3.lst_inv
    rw [strs_at] at rr
    cases rr.ats_inv
    cases r2.at_inv
    exact ⟨p, _, rfl, .inl hs, rfl, flat_strs l, by rw [in_strs]; exact q _ H3 (e2.trans e3) (.at _)⟩
theorem ev_inT {neg : Bool} {x : Str} {l : List Str} (ha : EvD K FC ta σ H (dz x)) (hb : EvD K FC tb σ H (.tup (l.map dz))) : EvD K FC (tOp (rIn K neg) ta tb) σ H (db (if neg then !decide (x ∈ l) else decide (x ∈ l))) := fun H1 a Q q =>
  ha H1 a _ fun v H2 e2 r2 => hb H2 (a.trans e2) _ fun u H3 e3 r3 => by
    obtain ⟨p, vs, rfl, hs, rr⟩ := r3.tup_inv
    rw [strs_at] at rr
    cases rr.ats_inv
    cases r2.at_inv
    exact ⟨p, _, rfl, .inr hs, rfl, flat_strs l, by rw [in_strs]; exact q _ H3 (e2.trans e3) (.at _)⟩
/-- a global tuple of texts -/
theorem ev_gT {a : Addr} {l : List Str} (h : ∀ H, SqT K H a (l.map V.str)) : EvD K FC (tC (.ref a)) σ H (.tup (l.map dz)) := fun H1 _ Q q => q _ H1 (Same.refl H1) (.tup (h H1) (by rw [strs_at]; exact Reps.ats _))
/-! ### tables of the top -/
def rInD (K : PySem.W.Frag) (d : Addr) (neg : Bool) : R2 := fun x y H Q => ∃ (z : Str) (r : Option Value), x = .str z ∧ y = .ref d ∧ PySem.W.nsIn K d z = some r ∧ Q (.bl (if neg then !r.isSome else r.isSome)) H
theorem op_inK {X : Cx} {d : Addr} (h : ∃ es n, KDict X.K X.w d es n) : OpR X (compareOp .In) (rInD X.K d false) := by
  obtain ⟨es, n, h⟩ := h
  exact op_in_kd h
theorem op_niK {X : Cx} {d : Addr} (h : ∃ es n, KDict X.K X.w d es n) : OpR X (compareOp .NotIn) (rInD X.K d true) := by
  obtain ⟨es, n, h⟩ := h
  exact op_notIn_kd h
theorem op_inKK {X : Cx} {d : Addr} (h : ∃ es n, KDict K w d es n) (e : X.K = K := by rfl) (e2 : X.w = w := by rfl) : OpR X (compareOp .In) (rInD K d false) := by subst e; subst e2; exact op_inK h
theorem op_niKK {X : Cx} {d : Addr} (h : ∃ es n, KDict K w d es n) (e : X.K = K := by rfl) (e2 : X.w = w := by rfl) : OpR X (compareOp .NotIn) (rInD K d true) := by subst e; subst e2; exact op_niK h
theorem ev_inD {a : Addr} {neg : Bool} {x : Str} {o : Option Value} (ha : EvD K FC ta σ H (dz x)) (hb : EvD K FC tb σ H (.at (.ref a))) (h : PySem.W.nsIn K a x = some o) : EvD K FC (tOp (rInD K a neg) ta tb) σ H (db (if neg then !o.isSome else o.isSome)) :=
  ev_opV ha hb fun _ _ _ q => ⟨x, o, rfl, rfl, h, q⟩
theorem ev_ixD {a : Addr} {x : Str} (ha : EvD K FC ta σ H (.at (.ref a))) (hb : EvD K FC tb σ H (dz x)) (h : KDct K w a x v) : EvD K FC (tOp (rIxD K w) ta tb) σ H (.at v) := ev_opV ha hb fun _ _ _ q => ⟨a, x, v, rfl, rfl, h, q⟩
/-- a field of an object that may change -/
theorem ev_fldM {C dx a : Addr} {gs : List (Str × V)} {f : Str} (ha : EvD K FC ta σ H (.at (.ref a))) (ho : H a = some (.ins C dx gs)) (hc : Cls K C) (hn : NoAttr K C f) (hl : gs.lookup f = some v) (r : Rep K FC H d v) : EvD K FC (tFld K ta f) σ H d := fun H1 e Q q =>
  ha H1 e _ fun x H2 e2 r2 => by
    cases r2.at_inv
    exact ⟨a, C, dx, gs, v, rfl, (e.trans e2) _ _ ho, hc, hn, hl, q v H2 e2 (r.mono (e.trans e2))⟩
theorem atI_zero {α : Type} {x : α} {xs : List α} : atI (x :: xs) 0 = some x := atI_nat (j := 0) rfl
theorem add_str_eq (x y : Str) : dz (x ++ y) = dz (x ++ y) := rfl
/-! ### comparisons of ints -/
theorem ev_lt (ha : EvD K FC ta σ H (di i)) (hb : EvD K FC tb σ H (di j)) : EvD K FC (tOp (rI0 fun i j => .bl (decide (i < j))) ta tb) σ H (db (decide (i < j))) := ev_opI0 ha hb
theorem ev_le (ha : EvD K FC ta σ H (di i)) (hb : EvD K FC tb σ H (di j)) : EvD K FC (tOp (rI0 fun i j => .bl (decide (i ≤ j))) ta tb) σ H (db (decide (i ≤ j))) := ev_opI0 ha hb
theorem ev_gt (ha : EvD K FC ta σ H (di i)) (hb : EvD K FC tb σ H (di j)) : EvD K FC (tOp (rI0 fun i j => .bl (decide (j < i))) ta tb) σ H (db (decide (j < i))) := ev_opI0 ha hb
theorem ev_ge (ha : EvD K FC ta σ H (di i)) (hb : EvD K FC tb σ H (di j)) : EvD K FC (tOp (rI0 fun i j => .bl (decide (j ≤ i))) ta tb) σ H (db (decide (j ≤ i))) := ev_opI0 ha hb
theorem ev_add (ha : EvD K FC ta σ H (di i)) (hb : EvD K FC tb σ H (di j)) : EvD K FC (tOp (rI0 fun i j => .int (i + j)) ta tb) σ H (di (i + j)) := ev_opI0 ha hb
theorem ev_sub (ha : EvD K FC ta σ H (di i)) (hb : EvD K FC tb σ H (di j)) : EvD K FC (tOp (rI0 fun i j => .int (i - j)) ta tb) σ H (di (i - j)) := ev_opI0 ha hb
theorem ev_mul (ha : EvD K FC ta σ H (di i)) (hb : EvD K FC tb σ H (di j)) (hc : CMul i j) : EvD K FC (tOp (rI CMul fun i j => .int (i * j)) ta tb) σ H (di (i * j)) := ev_opI ha hb hc
theorem ev_mod (ha : EvD K FC ta σ H (di i)) (hb : EvD K FC tb σ H (di j)) (hc : 0 < j) : EvD K FC (tOp (rI (fun _ j => 0 < j) fun i j => .int (i % j)) ta tb) σ H (di (i % j)) := ev_opI ha hb hc
theorem ev_div (ha : EvD K FC ta σ H (di i)) (hb : EvD K FC tb σ H (di j)) (hc : CDiv i j) : EvD K FC (tOp (rI CDiv fun i j => .int (i / j)) ta tb) σ H (di (i / j)) := ev_opI ha hb hc
/-- 0 <= x < n -/
theorem ev_between (ha : EvD K FC ta σ H (di i)) (hb : EvD K FC tb σ H (di j)) {k : Int} (hc : EvD K FC tc σ H (di k)) : EvD K FC (tChain (rI0 fun i j => .bl (decide (i ≤ j))) (rI0 fun i j => .bl (decide (i < j))) ta tb tc) σ H (db (decide (i ≤ j) && decide (j < k))) :=
  ev_chain ha hb (fun _ _ _ q => ⟨i, j, rfl, rfl, q⟩) (fun _ => hc) fun _ _ _ _ q => ⟨j, k, rfl, rfl, q⟩
end
end T34

/-! Hg -/
set_option maxHeartbeats 2000000
namespace T34
open PySem PySem.Spec PyProof.Rows L2
/-! ### which objects of the top are looked at -/
def strong : Value → List Addr
  | .ref a => [a]
  | _ => []
/-- what a module's or a class's names stand for -/
def ofDict (g : Addr → Option Obj) (a : Addr) : List Addr := match g a with
  | some o => (match o.data with
    | .dict es _ => es.toList.flatMap fun e => strong e.val
    | _ => [])
  | none => []
/-- a def's code and defaults; a class's names; a record's parts -/
def inner (g : Addr → Option Obj) (a : Addr) : List Addr := match g a with
  | some o => (match o.data with
    | .func fd => strong fd.code ++ (strong fd.defaults ++ strong fd.kwdefaults)
    | .cls cd => [cd.ns]
    | _ => [])
  | none => []
def parts (g : Addr → Option Obj) (a : Addr) : List Addr := match g a with
  | some o => (match o.data with
    | .func fd => strong fd.code ++ (strong fd.defaults ++ strong fd.kwdefaults)
    | .fields vs => vs.toList.flatMap strong
    | _ => [])
  | none => []
def asY (g : Addr → Option Obj) : List Addr :=
  let l1 := ofDict g mainGlobals
  let l2 := l1.flatMap (inner g)
  let l3 := l2.flatMap (ofDict g)
  let l4 := l3.flatMap (parts g)
  let l5 := l4.flatMap (inner g)
  mainGlobals :: (l1 ++ (l2 ++ (l3 ++ (l4 ++ l5))))


/-! ### a function object by its address -/
def fnWA (K : PySem.W.Frag) (x : Addr) : He.FnW := match K.lookup x with
  | some ⟨_, _, .func fd, _⟩ => some (fd.name, fd.qualname, fd.params, fd.body, fd.scope, fd.globals, fd.closure, fd.builtins)
  | _ => none
def okA (K : PySem.W.Frag) (x : Addr) (d : He.DefD) : Bool := PySem.W.keepIn K (.ref x) && (match K.lookup x with
  | some ⟨_, _, .func fd, _⟩ => PySem.W.codeIn K fd.code d.qual && (He.dflB K fd.defaults (d.dvs K) && He.kwdB K fd.kwdefaults (d.kws K))
  | _ => false)
theorem funD_at {K : PySem.W.Frag} {x : Addr} {d : He.DefD} (e : fnWA K x = d.val) (c : okA K x d = true) : ∃ fd, FunD K d.name d.qual d.params d.body d.scope (d.dvs K) (d.kws K) x fd := by
  obtain ⟨kp, c2⟩ := He.ba c
  unfold fnWA at e
  cases q : K.lookup x with
  | none => rw [q] at c2; cases c2
  | some o =>
    obtain ⟨oc, od, dt, osl⟩ := o
    rw [q] at c2 e
    cases dt with
    | func fd =>
      obtain ⟨n1, n2, n3, n4, n5, n6, n7, n8, n9, n10, n11, n12, n13, n14, n15⟩ := fd
      have e2 : (some (n1, n2, n3, n4, n5, n6, n7, n15) : He.FnW) = some (d.name, d.qual, d.params, .stmts d.body, d.scope, mainGlobals, [], builtinsNs) := e
      simp only [Option.some.injEq, Prod.mk.injEq] at e2
      obtain ⟨h1, h2, h3, h4, h5, h6, h7, h8⟩ := e2
      subst h1 h2 h3 h4 h5 h6 h7 h8
      have c3 : (PySem.W.codeIn K n13 d.qual && (He.dflB K n8 (d.dvs K) && He.kwdB K n9 (d.kws K))) = true := c2
      obtain ⟨k1, k2⟩ := He.ba c3
      obtain ⟨k3, k4⟩ := He.ba k2
      exact ⟨_, ⟨oc, od, n8, n9, n10, n11, n12, n13, n14, osl, rfl, q, k1, He.dflB_ok k3, He.kwdB_ok k4⟩, kp⟩
    | _ => cases c2
/-- the getter of a class's property -/
def gAd (K : PySem.W.Frag) (C m : Str) : Addr := match PySem.W.recIn K (He.ma K (He.ga K C) m) "property" with
  | some (.ref g :: _) => g
  | _ => 0
def prpB (K : PySem.W.Frag) (C m : Str) : Bool := He.eqO (PySem.W.findIn K (.ref (He.ga K C)) m) (some (some (.ref (He.ma K (He.ga K C) m)))) && (He.eqO (PySem.W.specialIn K (.ref (He.ma K (He.ga K C) m)) "__get__") (some (some (.builtin "property.__get__"))) && (decide (PySem.W.takesIn K (.ref (He.ma K (He.ga K C) m)) = some true) && (match PySem.W.recIn K (He.ma K (He.ga K C) m) "property" with
  | some (.ref _ :: _) => true
  | _ => false)))
theorem prpB_ok {K : PySem.W.Frag} {C m : Str} (h : prpB K C m = true) : PropOf K (He.ga K C) m (He.ma K (He.ga K C) m) (gAd K C m) := by
  obtain ⟨h1, h⟩ := He.ba h
  obtain ⟨h2, h⟩ := He.ba h
  obtain ⟨h3, h4⟩ := He.ba h
  refine ⟨He.eqO_ok h1, He.eqO_ok h2, of_decide_eq_true h3, ?_⟩
  unfold gAd
  split at h4
  · rename_i g r q
    rw [q]
    exact ⟨r, rfl⟩
  · cases h4
/-- an own class -/
def ownB (K : PySem.W.Frag) (C : Str) : Bool := He.eqO (PySem.W.findIn K (.ref (He.ga K C)) "__class__") (some (some (.builtin "object.__class__"))) && (He.eqO (PySem.W.specialIn K (.builtin "object.__class__") "__get__") (some (some (.builtin "getset_descriptor.__get__"))) && (decide (PySem.W.takesIn K (.builtin "object.__class__") = some true) && decide (PySem.W.mroIn K (He.ga K C) (.type "object") = some true)))
theorem ownB_ok {K : PySem.W.Frag} {C : Str} (h : ownB K C = true) (c : (He.Fa.cls C).ok K = true) : OwnC K (He.ga K C) := by
  obtain ⟨h1, h⟩ := He.ba h
  obtain ⟨h2, h⟩ := He.ba h
  obtain ⟨h3, h4⟩ := He.ba h
  exact ⟨He.cls_ok c, He.eqO_ok h1, He.eqO_ok h2, of_decide_eq_true h3, of_decide_eq_true h4⟩
/-- a special method -/
def spcB (K : PySem.W.Frag) (C m : Str) : Bool := He.eqO (PySem.W.findIn K (.ref (He.ga K C)) m) (some (some (.ref (He.ma K (He.ga K C) m)))) && PySem.W.isFn K (.ref (He.ma K (He.ga K C) m))
theorem spcB_ok {K : PySem.W.Frag} {C m : Str} (h : spcB K C m = true) : PySem.W.findIn K (.ref (He.ga K C)) m = some (some (.ref (He.ma K (He.ga K C) m))) ∧ PySem.W.isFn K (.ref (He.ma K (He.ga K C) m)) = true := ⟨He.eqO_ok (He.ba h).1, (He.ba h).2⟩
/-! ### the hook: facts over what was picked -/
abbrev AlY : Type := (He.AlT × Bool) × List He.FnW
def obsY (fa : List He.Fa) (fn : List He.DefD) (ts : List He.Tab) (tf : List He.Defn) (gs : List (Str × He.DefD)) (ex : PySem.W.Frag → Bool) (g : Addr → Option Obj) (K : PySem.W.Frag) : AlY := ((He.obsT fa fn ts K, ex K && (He.tabsB g tf K && gs.all fun d => okA K (gAd K d.1 d.2.name) d.2)), gs.map fun d => fnWA K (gAd K d.1 d.2.name))
def seeY (fa : List He.Fa) (fn : List He.DefD) (ts : List He.Tab) (tf : List He.Defn) (gs : List (Str × He.DefD)) (ex : PySem.W.Frag → Bool) (g : Addr → Option Obj) : AlY := obsY fa fn ts tf gs ex g (He.frT g (asY g))
def valY (fn : List He.DefD) (ts : List He.Tab) (gs : List (Str × He.DefD)) (w : World) : AlY := ((He.valT fn ts w, true), gs.map fun d => d.2.val)
structure SaysY (fa : List He.Fa) (fn : List He.DefD) (ts : List He.Tab) (tf : List He.Defn) (gs : List (Str × He.DefD)) (ex : PySem.W.Frag → Bool) (w : World) (h : Heap) (K : PySem.W.Frag) : Prop where
  x : He.SaysX fa fn ts tf ex w h K
  gsok : ∀ d ∈ gs, okA K (gAd K d.1 d.2.name) d.2 = true
  gsfn : (gs.map fun d => fnWA K (gAd K d.1 d.2.name)) = gs.map fun d => d.2.val
theorem saysY_of {fa : List He.Fa} {fn : List He.DefD} {ts : List He.Tab} {tf : List He.Defn} {gs : List (Str × He.DefD)} {ex : PySem.W.Frag → Bool} {w : World} {h : Heap} (e : seeY fa fn ts tf gs ex h.get? = valY fn ts gs w) :
    SaysY fa fn ts tf gs ex w h (He.frT h.get? (asY h.get?)) := by
  have e1 : He.obsT fa fn ts (He.frT h.get? (asY h.get?)) = He.valT fn ts w := congrArg (fun z : AlY => z.1.1) e
  have e2 : (ex (He.frT h.get? (asY h.get?)) && (He.tabsB h.get? tf (He.frT h.get? (asY h.get?)) && gs.all fun d => okA (He.frT h.get? (asY h.get?)) (gAd (He.frT h.get? (asY h.get?)) d.1 d.2.name) d.2)) = true := congrArg (fun z : AlY => z.1.2) e
  have e4 : (gs.map fun d => fnWA (He.frT h.get? (asY h.get?)) (gAd (He.frT h.get? (asY h.get?)) d.1 d.2.name)) = gs.map fun d => d.2.val := congrArg (fun z : AlY => z.2) e
  have e3 := He.ba e2
  have e5 := He.ba e3.2
  have tab : ∀ p ∈ tf, PySem.W.codeHdIn (He.frT h.get? (asY h.get?)) (He.cT (He.frT h.get? (asY h.get?)) p).1 (He.cT (He.frT h.get? (asY h.get?)) p).2 = true ∧
      ∃ o, h.get? (He.cT (He.frT h.get? (asY h.get?)) p).2 = some o ∧ He.emptyTab o = true := fun p hp => by
    have e4 := He.ba (List.all_eq_true.mp e5.1 p hp)
    refine ⟨e4.1, ?_⟩
    have e5 := e4.2
    split at e5
    · rename_i o q
      exact ⟨o, q, e5⟩
    · cases e5
  exact ⟨{ t := e1, more := e3.1, hd := fun p hp => (tab p hp).1, out := fun p hp => (tab p hp).2.elim fun o q => He.frT_none q.1 q.2, empty := fun p hp => (tab p hp).2.elim fun o q => by rw [q.1, He.emptyTab_eq q.2] }, List.all_eq_true.mp e5.2, e4⟩
def hookY (fa : List He.Fa) (fn : List He.DefD) (ts : List He.Tab) (tf : List He.Defn) (gs : List (Str × He.DefD)) (ex : PySem.W.Frag → Bool) : PySem.W.Hook where
  α := AlY
  obs := fun s => seeY fa fn ts tf gs ex s.heap.get?
  val := fun w => valY fn ts gs w
  says := fun w h => ∃ K : PySem.W.Frag, K.In h ∧ SaysY fa fn ts tf gs ex w h K
  of := fun _ _ e => ⟨_, He.frT_in, saysY_of e⟩
  keeps := fun _ _ _ ⟨K, hK, c⟩ k => ⟨K, PySem.W.Frag.In.keeps hK k, { x := { t := c.x.t, more := c.x.more, hd := c.x.hd, out := c.x.out, empty := fun p hp => k _ _ (c.x.empty p hp) }, gsok := c.gsok, gsfn := c.gsfn }⟩
theorem seeY_eq {fa : List He.Fa} {fn : List He.DefD} {ts : List He.Tab} {tf : List He.Defn} {gs : List (Str × He.DefD)} {ex : PySem.W.Frag → Bool} {g : Addr → Option Obj} {s : Shared} (h : ∀ a, g a = s.heap.get? a) : seeY fa fn ts tf gs ex g = (hookY fa fn ts tf gs ex).obs s := by
  rw [show g = s.heap.get? from funext h] <;> rfl
theorem SaysY.getter {fa : List He.Fa} {fn : List He.DefD} {ts : List He.Tab} {tf : List He.Defn} {gs : List (Str × He.DefD)} {ex : PySem.W.Frag → Bool} {w : World} {h : Heap} {K : PySem.W.Frag} (c : SaysY fa fn ts tf gs ex w h K) (i : Nat) {d : Str × He.DefD} (e : gs[i]? = some d := by rfl) :
    ∃ fd, FunD K d.2.name d.2.qual d.2.params d.2.body d.2.scope (d.2.dvs K) (d.2.kws K) (gAd K d.1 d.2.name) fd := by
  have e2 : (gs.map fun d => fnWA K (gAd K d.1 d.2.name))[i]? = (gs.map fun d => d.2.val)[i]? := by rw [c.gsfn]
  rw [List.getElem?_map, List.getElem?_map, e] at e2
  exact funD_at (Option.some.inj e2) (c.gsok d (List.mem_of_getElem? e))
end T34

/-! Hf -/
set_option maxHeartbeats 2000000
namespace T34
open PySem PySem.Spec PyProof.Rows L2
def loose : List PySem.Str := (["_wall", "KeepError", "BadRecipe", "BadName", "BadNumber", "BadPlan", "BadPlace", "BadDeed", "NothingDone", "MOST", "MOST_FIELDS", "MOST_CELLS", "MOST_PLACES", "LEAVES", "JOINS", "LETTERS", "is_number", "leaves_of", "is_form", "name_of", "joined", "reckoned", "form_of", "Recipe", "every_name", "is_name", "Key", "MOST_SITUATIONS", "TRACKED", "power"] : List PySem.Str) ++ (["names_for", "is_rule", "is_place", "are_drops", "Plan", "check_plan", "check_place", "first_of", "is_deed", "Ask", "done", "House", "_law_number", "_law_grown", "_law_form", "_law_names", "_law_rule", "_law_plain", "_law_plan", "_law_deed", "_law_shot", "_law_do", "_law_undone_right", "_law_work", "_law_other_right", "_law_within", "_law_tried"] : List PySem.Str)
def faZ : List He.Fa := [.free "len", .free "int", .free "str", .free "bool", .free "tuple", .free "list", .free "all", .free "sum", .free "isinstance", .free "range", .free "enumerate", .free "zip", .free "KeyError", .glo "is_number", .glo "name_of", .glo "joined", .glo "every_name", .glo "names_for", .glo "power", .glo "is_name", .glo "leaves_of", .glo "is_rule", .glo "is_place", .glo "are_drops", .glo "check_plan", .glo "check_place", .glo "first_of", .glo "is_deed", .glo "reckoned", .glo "done", .glo "_law_number", .glo "_law_grown", .glo "_law_form", .glo "_law_names", .glo "_law_rule", .glo "_law_plain", .glo "_law_plan", .glo "_law_deed", .glo "_law_shot", .glo "_law_do", .glo "_law_undone_right", .glo "_law_work", .glo "_law_other_right", .glo "_law_within", .glo "is_form", .glo "_law_tried", .glo "law", .glo "Recipe", .glo "Key", .glo "Plan", .glo "Ask", .glo "House", .glo "NothingDone", .glo "LEAVES", .glo "JOINS", .glo "LETTERS", .glo "TRACKED", .int "MOST" 9, .int "MOST_FIELDS" 3, .int "MOST_CELLS" 2, .int "MOST_PLACES" 3, .int "MOST_SITUATIONS" 81, .cls "Recipe", .mkr "Recipe", .cls "Key", .mkr "Key", .cls "Plan", .mkr "Plan", .cls "Ask", .mkr "Ask", .cls "House", .mkr "House", .noat "Recipe" "form", .noat "Key" "row", .noat "Plan" "parts", .noat "Ask" "owner", .noat "Ask" "situation", .noat "Ask" "held", .noat "Ask" "trace", .noat "House" "source", .noat "House" "held", .noat "House" "past", .noat "House" "floor", .meth "Ask" "number_now", .meth "Ask" "fits", .meth "Ask" "read", .meth "Ask" "first_that_fits", .meth "House" "stock", .meth "House" "journal", .meth "House" "go", .meth "House" "bill", .meth "House" "branch", .meth "House" "undo", .meth "House" "attempt", .meth "Ask" "asked", .exc "NothingDone", .exm "NothingDone" "NothingDone" true]
def fnZ : List He.DefD := [⟨("is_number", none), "is_number", "is_number", defArgs (top 18), defBody (top 18), defScope (top 18), [], []⟩,
  ⟨("name_of", none), "name_of", "name_of", defArgs (top 21), defBody (top 21), defScope (top 21), [], []⟩,
  ⟨("joined", none), "joined", "joined", defArgs (top 22), defBody (top 22), defScope (top 22), [], []⟩,
  ⟨("every_name", none), "every_name", "every_name", defArgs (top 26), defBody (top 26), defScope (top 26), [], []⟩,
  ⟨("names_for", none), "names_for", "names_for", defArgs (top 34), defBody (top 34), defScope (top 34), [], []⟩,
  ⟨("power", none), "power", "power", defArgs (top 33), defBody (top 33), defScope (top 33), [], []⟩,
  ⟨("is_name", none), "is_name", "is_name", defArgs (top 28), defBody (top 28), defScope (top 28), [], []⟩,
  ⟨("leaves_of", none), "leaves_of", "leaves_of", defArgs (top 19), defBody (top 19), defScope (top 19), [], []⟩,
  ⟨("is_rule", none), "is_rule", "is_rule", defArgs (top 35), defBody (top 35), defScope (top 35), [], []⟩,
  ⟨("is_place", none), "is_place", "is_place", defArgs (top 36), defBody (top 36), defScope (top 36), [], []⟩,
  ⟨("are_drops", none), "are_drops", "are_drops", defArgs (top 37), defBody (top 37), defScope (top 37), [], []⟩,
  ⟨("check_plan", none), "check_plan", "check_plan", defArgs (top 39), defBody (top 39), defScope (top 39), [], []⟩,
  ⟨("check_place", none), "check_place", "check_place", defArgs (top 40), defBody (top 40), defScope (top 40), [], []⟩,
  ⟨("first_of", none), "first_of", "first_of", defArgs (top 42), defBody (top 42), defScope (top 42), [], []⟩,
  ⟨("is_deed", none), "is_deed", "is_deed", defArgs (top 43), defBody (top 43), defScope (top 43), [], []⟩,
  ⟨("reckoned", none), "reckoned", "reckoned", defArgs (top 23), defBody (top 23), defScope (top 23), [], []⟩,
  ⟨("done", none), "done", "done", defArgs (top 45), defBody (top 45), defScope (top 45), [], []⟩,
  ⟨("_law_number", none), "_law_number", "_law_number", defArgs (top 49), defBody (top 49), defScope (top 49), [], []⟩,
  ⟨("_law_grown", none), "_law_grown", "_law_grown", defArgs (top 50), defBody (top 50), defScope (top 50), [], []⟩,
  ⟨("_law_form", none), "_law_form", "_law_form", defArgs (top 51), defBody (top 51), defScope (top 51), [], []⟩,
  ⟨("_law_names", none), "_law_names", "_law_names", defArgs (top 52), defBody (top 52), defScope (top 52), [], []⟩,
  ⟨("_law_rule", none), "_law_rule", "_law_rule", defArgs (top 53), defBody (top 53), defScope (top 53), [], []⟩,
  ⟨("_law_plain", none), "_law_plain", "_law_plain", defArgs (top 54), defBody (top 54), defScope (top 54), [], []⟩,
  ⟨("_law_plan", none), "_law_plan", "_law_plan", defArgs (top 55), defBody (top 55), defScope (top 55), [], []⟩,
  ⟨("_law_deed", none), "_law_deed", "_law_deed", defArgs (top 56), defBody (top 56), defScope (top 56), [], []⟩,
  ⟨("_law_shot", none), "_law_shot", "_law_shot", defArgs (top 57), defBody (top 57), defScope (top 57), [], []⟩,
  ⟨("_law_do", none), "_law_do", "_law_do", defArgs (top 58), defBody (top 58), defScope (top 58), [], []⟩,
  ⟨("_law_undone_right", none), "_law_undone_right", "_law_undone_right", defArgs (top 59), defBody (top 59), defScope (top 59), [], []⟩,
  ⟨("_law_work", none), "_law_work", "_law_work", defArgs (top 60), defBody (top 60), defScope (top 60), [], []⟩,
  ⟨("_law_other_right", none), "_law_other_right", "_law_other_right", defArgs (top 61), defBody (top 61), defScope (top 61), [], []⟩,
  ⟨("_law_within", none), "_law_within", "_law_within", defArgs (top 62), defBody (top 62), defScope (top 62), [], []⟩,
  ⟨("_law_tried", none), "_law_tried", "_law_tried", defArgs (top 63), defBody (top 63), defScope (top 63), [], []⟩,
  ⟨("law", none), "law", "law", defArgs (top 64), defBody (top 64), defScope (top 64), [], []⟩,
  ⟨("is_form", none), "is_form", "is_form", defArgs (top 20), defBody (top 20), defScope (top 20), [.int 0], []⟩,
  ⟨("Ask", some "number_now"), "number_now", "Ask.number_now", defArgs (inClass (top 44) 1), defBody (inClass (top 44) 1), defScope (inClass (top 44) 1), [], []⟩,
  ⟨("Ask", some "fits"), "fits", "Ask.fits", defArgs (inClass (top 44) 2), defBody (inClass (top 44) 2), defScope (inClass (top 44) 2), [], []⟩,
  ⟨("Ask", some "read"), "read", "Ask.read", defArgs (inClass (top 44) 5), defBody (inClass (top 44) 5), defScope (inClass (top 44) 5), [], []⟩,
  ⟨("Ask", some "first_that_fits"), "first_that_fits", "Ask.first_that_fits", defArgs (inClass (top 44) 4), defBody (inClass (top 44) 4), defScope (inClass (top 44) 4), [], []⟩,
  ⟨("House", some "stock"), "stock", "House.stock", defArgs (inClass (top 47) 9), defBody (inClass (top 47) 9), defScope (inClass (top 47) 9), [], []⟩,
  ⟨("House", some "journal"), "journal", "House.journal", defArgs (inClass (top 47) 10), defBody (inClass (top 47) 10), defScope (inClass (top 47) 10), [], []⟩,
  ⟨("House", some "go"), "go", "House.go", defArgs (inClass (top 47) 7), defBody (inClass (top 47) 7), defScope (inClass (top 47) 7), [], []⟩,
  ⟨("House", some "bill"), "bill", "House.bill", defArgs (inClass (top 47) 11), defBody (inClass (top 47) 11), defScope (inClass (top 47) 11), [], []⟩,
  ⟨("House", some "branch"), "branch", "House.branch", defArgs (inClass (top 47) 13), defBody (inClass (top 47) 13), defScope (inClass (top 47) 13), [], []⟩,
  ⟨("House", some "undo"), "undo", "House.undo", defArgs (inClass (top 47) 12), defBody (inClass (top 47) 12), defScope (inClass (top 47) 12), [], []⟩,
  ⟨("House", some "attempt"), "attempt", "House.attempt", defArgs (inClass (top 47) 14), defBody (inClass (top 47) 14), defScope (inClass (top 47) 14), [], []⟩,
  ⟨("Ask", some "asked"), "asked", "Ask.asked", defArgs (inClass (top 44) 3), defBody (inClass (top 44) 3), defScope (inClass (top 44) 3), [], []⟩,
  ⟨("Key", some "__eq__"), "__eq__", "Key.__eq__", defArgs (inClass (top 29) 3), defBody (inClass (top 29) 3), defScope (inClass (top 29) 3), [], []⟩,
  ⟨("Plan", some "__len__"), "__len__", "Plan.__len__", defArgs (inClass (top 38) 7), defBody (inClass (top 38) 7), defScope (inClass (top 38) 7), [], []⟩,
  ⟨("House", some "__len__"), "__len__", "House.__len__", defArgs (inClass (top 47) 2), defBody (inClass (top 47) 2), defScope (inClass (top 47) 2), [], []⟩,
  ⟨("House", some "__setitem__"), "__setitem__", "House.__setitem__", defArgs (inClass (top 47) 5), defBody (inClass (top 47) 5), defScope (inClass (top 47) 5), [], []⟩,
  ⟨("House", some "__call__"), "__call__", "House.__call__", defArgs (inClass (top 47) 6), defBody (inClass (top 47) 6), defScope (inClass (top 47) 6), [], []⟩,
  ⟨("Recipe", some "__init__"), "__init__", "Recipe.__init__", defArgs (inClass (top 25) 0), defBody (inClass (top 25) 0), defScope (inClass (top 25) 0), [], []⟩,
  ⟨("Key", some "__init__"), "__init__", "Key.__init__", defArgs (inClass (top 29) 0), defBody (inClass (top 29) 0), defScope (inClass (top 29) 0), [.adr (He.dflAt ("Key", some "__init__") 0)], []⟩,
  ⟨("Plan", some "__init__"), "__init__", "Plan.__init__", defArgs (inClass (top 38) 0), defBody (inClass (top 38) 0), defScope (inClass (top 38) 0), [], [("drops", .non)]⟩,
  ⟨("Ask", some "__init__"), "__init__", "Ask.__init__", defArgs (inClass (top 44) 0), defBody (inClass (top 44) 0), defScope (inClass (top 44) 0), [], []⟩,
  ⟨("House", some "__init__"), "__init__", "House.__init__", defArgs (inClass (top 47) 0), defBody (inClass (top 47) 0), defScope (inClass (top 47) 0), [], []⟩]
def gsZ : List (Str × He.DefD) := [("Recipe", ⟨("Recipe", some "names"), "names", "Recipe.names", defArgs (inClass (top 25) 5), defBody (inClass (top 25) 5), defScope (inClass (top 25) 5), [], []⟩),
  ("Key", ⟨("Key", some "names"), "names", "Key.names", defArgs (inClass (top 29) 2), defBody (inClass (top 29) 2), defScope (inClass (top 29) 2), [], []⟩),
  ("Plan", ⟨("Plan", some "base"), "base", "Plan.base", defArgs (inClass (top 38) 1), defBody (inClass (top 38) 1), defScope (inClass (top 38) 1), [], []⟩),
  ("Plan", ⟨("Plan", some "fields"), "fields", "Plan.fields", defArgs (inClass (top 38) 2), defBody (inClass (top 38) 2), defScope (inClass (top 38) 2), [], []⟩),
  ("Plan", ⟨("Plan", some "cells"), "cells", "Plan.cells", defArgs (inClass (top 38) 3), defBody (inClass (top 38) 3), defScope (inClass (top 38) 3), [], []⟩),
  ("Plan", ⟨("Plan", some "places"), "places", "Plan.places", defArgs (inClass (top 38) 4), defBody (inClass (top 38) 4), defScope (inClass (top 38) 4), [], []⟩),
  ("Plan", ⟨("Plan", some "drops"), "drops", "Plan.drops", defArgs (inClass (top 38) 5), defBody (inClass (top 38) 5), defScope (inClass (top 38) 5), [], []⟩)]
def tsZ : List He.Tab := [(fun K => He.ga K "LEAVES", ["number", "field", "cell", "place"]), (fun K => He.ga K "JOINS", ["sum", "less", "times", "same", "when"]), (fun K => He.ga K "LETTERS", ["field", "cell", "place"])]
def tfZ : List He.Defn := [("Ask", some "asked"), ("_law_tried", none)]
def exZ : List (PySem.W.Frag → Bool) := [fun K => ownB K "Recipe",
  fun K => ownB K "Key",
  fun K => ownB K "Plan",
  fun K => ownB K "Ask",
  fun K => ownB K "House",
  fun K => decide (PySem.W.kitOne K (.ref (He.ga K "Recipe")) (.ref (He.ga K "Recipe")) = some true),
  fun K => decide (PySem.W.kitOne K (.ref (He.ga K "Key")) (.ref (He.ga K "Key")) = some true),
  fun K => decide (PySem.W.kitOne K (.ref (He.ga K "Plan")) (.ref (He.ga K "Plan")) = some true),
  fun K => decide (PySem.W.kitOne K (.type "NoneType") (.ref (He.ga K "Key")) = some false),
  fun K => decide (PySem.W.kitOne K (.type "str") (.ref (He.ga K "Key")) = some false),
  fun K => decide (PySem.W.kitOne K (.ref (He.ga K "Key")) (.type "tuple") = some false),
  fun K => He.valsB K (He.ga K "LEAVES") [("number", .int 3), ("field", .int 3), ("cell", .int 2), ("place", .int 2)],
  fun K => He.valsB K (He.ga K "JOINS") [("sum", .int 2), ("less", .int 2), ("times", .int 2), ("same", .int 2), ("when", .int 3)],
  fun K => He.valsB K (He.ga K "LETTERS") [("field", .str "f"), ("cell", .str "c"), ("place", .str "p")],
  fun K => ([("sum" : Str), "less", "times", "same", "when"] : List Str).all fun q => He.eqO (PySem.W.nsIn K (He.ga K "LEAVES") q) (some none),
  fun K => He.tupB K "TRACKED" [.str "reads", .str "shown"],
  fun K => decide ((He.ga K "Ask") ≠ (He.ga K "Recipe")),
  fun K => decide ((He.ga K "Ask") ≠ (He.ga K "Key")),
  fun K => decide ((He.ga K "Ask") ≠ (He.ga K "Plan")),
  fun K => decide ((He.ga K "House") ≠ (He.ga K "Recipe")),
  fun K => decide ((He.ga K "House") ≠ (He.ga K "Key")),
  fun K => decide ((He.ga K "House") ≠ (He.ga K "Plan")),
  fun K => decide (PySem.W.exmOne K (.ref (He.ga K "NothingDone")) (.type "KeyError") = some false),
  fun K => spcB K "Key" "__eq__",
  fun K => spcB K "Plan" "__len__",
  fun K => spcB K "House" "__len__",
  fun K => spcB K "House" "__setitem__",
  fun K => spcB K "House" "__call__",
  fun K => PySem.W.notFirst K (He.ga K "Key") (.type "str"),
  fun K => PySem.W.noSeq K (He.ga K "House"),
  fun K => PySem.W.fnIn K (He.ma K (He.ga K "House") "__call__"),
  fun K => prpB K "Recipe" "names",
  fun K => prpB K "Key" "names",
  fun K => prpB K "Plan" "base",
  fun K => prpB K "Plan" "fields",
  fun K => prpB K "Plan" "cells",
  fun K => prpB K "Plan" "places",
  fun K => prpB K "Plan" "drops",
  fun K => decide ((He.cT K ("Ask", some "asked")).2 ≠ (He.cT K ("_law_tried", none)).2),
  fun K => decide (mainGlobals ≠ (He.cT K ("Ask", some "asked")).2) && decide (mainGlobals ≠ (He.cT K ("_law_tried", none)).2)]
def exY (K : PySem.W.Frag) : Bool := exZ.all fun b => b K
theorem exAt {K : PySem.W.Frag} (h : exY K = true) (i : Nat) {b : PySem.W.Frag → Bool} (e : exZ[i]? = some b) : b K = true := List.all_eq_true.mp h b (List.mem_of_getElem? e)
abbrev rowR : PySem.W.OpenRow := PySem.W.OpenLaw.row PySem.Challenge.rw_shortkeys_k34_whole_trials
abbrev hkY : PySem.W.Hook := hookY faZ fnZ tsZ tfZ gsZ exY
def obR (s : PySem.W.SharedT) : AlY := seeY faZ fnZ tsZ tfZ gsZ exY (HandSHeadRun.getT s)
theorem obR_eq (s : PySem.W.SharedT) : obR s = hkY.obs s.abs := seeY_eq (HandSHeadRun.getT_eq s)
end T34

/-! Hr -/
set_option maxHeartbeats 0
namespace T34
open PySem PySem.Spec PyProof.Rows L2
abbrev RunAt (w : World) : Prop := HandSHeadRun.RunEq rowR (PySem.W.view rowR.prog [64]) hkY obR 8000 loose w
theorem runA (w : World) : RunAt (w.withFollow "special-get-raises" false) := fun os => by kernel_rfl
theorem runB (w : World) : RunAt (w.withFollow "special-get-raises" true) := fun os => by kernel_rfl
theorem runR (w : World) : RunAt w := PySem.W.byRow2 "special-get-raises" (P := RunAt) runA runB w
end T34

/-! Kd1 -/
set_option maxHeartbeats 4000000
/-! Defs of recipes, keys, plans that come to numbers and lists of names. -/
namespace T34
open PySem PySem.Spec PyProof.Rows L2
local macro_rules | `(tactic| walk_at "ev") => `(tactic| (first
  | (with_reducible exact ev_c)
  | ((with_reducible refine' ev_var ?R ?h); (case R => assumption); (case h => rfl))
  | (with_reducible refine' ea_cons ?_ ?_)
  | (with_reducible exact ea_nil)
  | (with_reducible refine' ev_add ?_ ?_)
  | (with_reducible refine' ev_sub ?_ ?_)
  | (with_reducible refine' ev_mul ?_ ?_ ?_)
  | (with_reducible refine' ev_mod ?_ ?_ ?_)
  | (with_reducible refine' ev_div ?_ ?_ ?_)
  | (with_reducible refine' ev_int ?_)
  | (with_reducible refine' ev_not ?_)
  | (with_reducible refine' ev_tup ?_)
  | (with_reducible refine' ev_between ?_ ?_ ?_)))
section
variable {P : Program} {w : World} {K : PySem.W.Frag} {mg : Str → Option Value} {base : Heap} {a : Ad} {f : Addr} {fd : FuncData}
abbrev s_is_number : Stmt := top 18
theorem sc_is_number : FnScope ["thing", "many"] ["thing", "many"] (defScope s_is_number) := ⟨rfl, rfl, rfl, by decide +kernel, rfl, by decide +kernel, by decide +kernel⟩
def rNumber : List D → (D → Prop) → Prop := fun ds Pd => ∃ i n : Int, ds = [di i, di n] ∧ Pd = fun x => x = db (decide (0 ≤ i) && decide (i < n))
theorem ok_is_number (F : FnP K "is_number" "is_number" s_is_number f fd) (T : Tx K w mg a) : FnOk P w K mg base CX0 1 f fd ["thing", "many"] (spN K a.FC rNumber) := by
  refine fnN F sc_is_number (fun ds Pd h => ?_) (fun cdv A outer s H E hr => ⟨_, (pss_one (ps_ret (pe_and (pe_callB (call_isiK1 (K := K)) (by rfl) T.f_isinstance (by decide +kernel) (pa_cons (pv 0) (pa_cons (pe_bltn (v := .ty "int") (by rfl) T.f_int (by decide +kernel) rfl) pa_nil))) (pe_and (pe_not (pe_callB (call_isiK1 (K := K)) (by rfl) T.f_isinstance (by decide +kernel) (pa_cons (pv 0) (pa_cons (pe_bltn (v := .ty "bool") (by rfl) T.f_bool (by decide +kernel) rfl) pa_nil)))) (pe_one (pe_chain op_le op_lt pe_int (pv 0) (pv 1))))))), ?_⟩)
  · obtain ⟨i, n, rfl, _⟩ := h
    rfl
  · rintro ds Pd vs Q ⟨i, n, rfl, rfl⟩ R k
    refine st_ret (ev_and (ev_isi (d := di i) (b := true) ?_ (.int i) ?_ (.ty "int") (kit_ty (by decide +kernel))) fun _ => ev_and (b := true) (ev_not (b := false) (ev_isi (d := di i) ?_ (.int i) ?_ (.ty "bool") (kit_ty (by decide +kernel)))) fun _ => ev_between ?_ ?_ ?_) fun v H' e r => k _ v H' rfl e r
    all_goals walk_at "ev"
end
end T34

/-! Kd2 -/
set_option maxHeartbeats 4000000
namespace T34
open PySem PySem.Spec PyProof.Rows L2
local macro_rules | `(tactic| walk_at "ev") => `(tactic| (first
  | (with_reducible exact ev_c)
  | ((with_reducible refine' ev_var ?R ?h); (case R => assumption); (case h => rfl))
  | (with_reducible refine' ea_cons ?_ ?_)
  | (with_reducible exact ea_nil)
  | (with_reducible refine' ev_add ?_ ?_)
  | (with_reducible refine' ev_sub ?_ ?_)
  | (with_reducible refine' ev_mul ?_ ?_ ?_)
  | (with_reducible refine' ev_mod ?_ ?_ ?_)
  | (with_reducible refine' ev_div ?_ ?_ ?_)
  | (with_reducible refine' ev_lt ?_ ?_)
  | (with_reducible refine' ev_le ?_ ?_)
  | (with_reducible refine' ev_gt ?_ ?_)
  | (with_reducible refine' ev_ge ?_ ?_)
  | (with_reducible refine' ev_int ?_)
  | (with_reducible refine' ev_not ?_)
  | (with_reducible refine' ev_tup ?_)
  | (with_reducible refine' ev_between ?_ ?_ ?_)
  | (with_reducible refine' et_test ?_)
  | (with_reducible refine' et_B ?_)
  | (with_reducible refine' et_not ?_)))
section
variable {P : Program} {w : World} {K : PySem.W.Frag} {mg : Str → Option Value} {base : Heap} {a : Ad} {f : Addr} {fd : FuncData}
/-! ### names, leaves, forms -/
inductive Nm | f0 | f1 | f2 | c0 | c1 | p0 | p1 deriving DecidableEq
def Nm.s : Nm → Str
  | .f0 => "f0" | .f1 => "f1" | .f2 => "f2" | .c0 => "c0" | .c1 => "c1" | .p0 => "p0" | .p1 => "p1"
def Nm.all : List Nm := [.f0, .f1, .f2, .c0, .c1, .p0, .p1]
def Nm.kind : Nm → Str
  | .f0 => "field" | .f1 => "field" | .f2 => "field" | .c0 => "cell" | .c1 => "cell" | .p0 => "place" | .p1 => "place"
def Nm.let : Nm → Str
  | .f0 => "f" | .f1 => "f" | .f2 => "f" | .c0 => "c" | .c1 => "c" | .p0 => "p" | .p1 => "p"
def Nm.ix : Nm → Int
  | .f0 => 0 | .f1 => 1 | .f2 => 2 | .c0 => 0 | .c1 => 1 | .p0 => 0 | .p1 => 1
theorem Nm.mem_all (x : Nm) : x ∈ Nm.all := by cases x <;> decide
theorem Nm.s_inj : ∀ {x y : Nm}, x.s = y.s → x = y := by
  intro x y h
  cases x <;> cases y <;> first | rfl | (exact absurd h (by decide +kernel))
abbrev nmD (x : Nm) : D := dz x.s
theorem mem_nms {x : Nm} {l : List Nm} : decide (x.s ∈ l.map Nm.s) = decide (x ∈ l) := by
  by_cases h : x ∈ l
  · rw [decide_eq_true h, decide_eq_true (List.mem_map.mpr ⟨x, h, rfl⟩)]
  · rw [decide_eq_false h, decide_eq_false fun q => by
      obtain ⟨y, h1, h2⟩ := List.mem_map.mp q
      exact h (Nm.s_inj h2 ▸ h1)]
inductive Lf
  | num (n : Int)
  | nm (x : Nm)
def Lf.d : Lf → D
  | .num n => .tup [dz "number", di n]
  | .nm x => .tup [dz x.kind, di x.ix]
inductive Bw | sum | less | times | same
def Bw.s : Bw → Str
  | .sum => "sum" | .less => "less" | .times => "times" | .same => "same"
inductive Fm
  | leaf (l : Lf)
  | bin (o : Bw) (x y : Fm)
  | whn (t x y : Fm)
def Fm.d : Fm → D
  | .leaf l => l.d
  | .bin o x y => .tup [dz o.s, x.d, y.d]
  | .whn t x y => .tup [dz "when", t.d, x.d, y.d]
def Fm.depth : Fm → Nat
  | .leaf _ => 0
  | .bin _ x y => max x.depth y.depth + 1
  | .whn t x y => max t.depth (max x.depth y.depth) + 1
def Fm.lvs : Fm → List Lf
  | .leaf l => [l]
  | .bin _ x y => x.lvs ++ y.lvs
  | .whn t x y => t.lvs ++ (x.lvs ++ y.lvs)
theorem Lf.noL (l : Lf) : NoL l.d := by
  cases l with
  | num n => exact .tup (.cons (.at _) (.cons (.at _) .nil))
  | nm x => exact .tup (.cons (.at _) (.cons (.at _) .nil))
theorem Fm.noL : ∀ m : Fm, NoL m.d
  | .leaf l => l.noL
  | .bin _ x y => .tup (.cons (.at _) (.cons x.noL (.cons y.noL .nil)))
  | .whn t x y => .tup (.cons (.at _) (.cons t.noL (.cons x.noL (.cons y.noL .nil))))
abbrev s_name_of : Stmt := top 21
theorem sc_name_of : FnScope ["leaf"] ["leaf"] (defScope s_name_of) := ⟨rfl, rfl, rfl, by decide +kernel, rfl, by decide +kernel, by decide +kernel⟩
def rNameOf : List D → (D → Prop) → Prop := fun ds Pd => ∃ x : Nm, ds = [Lf.d (.nm x)] ∧ Pd = fun d => d = nmD x
theorem Tx.letter (T : Tx K w mg a) (x : Nm) : KDct K w a.aLT x.kind (.str x.let) := by
  obtain ⟨es, n, D⟩ := T.d_LETTERS
  have h : (x.kind, x.let) ∈ ([("field", "f"), ("cell", "c"), ("place", "p")] : List (Str × Str)) := by cases x <;> decide +kernel
  obtain ⟨u, h1, h2⟩ := T.v_LETTERS _ h
  exact ⟨es, n, u, D.at_, D.lit, h1, h2⟩
theorem ok_name_of (F : FnP K "name_of" "name_of" s_name_of f fd) (T : Tx K w mg a) : FnOk P w K mg base CX0 1 f fd ["leaf"] (spN K a.FC rNameOf) := by
  refine fnN F sc_name_of (fun ds Pd h => ?_) (fun cdv A outer s H E hr => ⟨_, (pss_one (ps_ret (pe_op op_add_str (pe_ix (ix_kdK (K := K) (w := w)) (C8.pe_gc rfl T.g_LETTERS) (pe_ix (ix_tupK (K := K)) (pv 0) pe_int (fun _ _ => rfl)) (fun _ _ => rfl)) (pe_callTy call_str_int (by rfl) T.f_str (by decide +kernel) (pa_cons (pe_ix (ix_tupK (K := K)) (pv 0) pe_int (fun _ _ => rfl)) pa_nil))))), ?_⟩)
  · obtain ⟨x, rfl, _⟩ := h
    rfl
  · rintro ds Pd vs Q ⟨x, rfl, rfl⟩ R k
    refine st_ret (ev_adds (ev_ixD ev_c (ev_ixT (ev_var R rfl) ev_c rfl) (T.letter x)) (ev_str (ev_ixT (ev_var R rfl) ev_c rfl) ?_) ?_) fun v H' e r => k _ v H' (by cases x <;> (show dz _ = dz _; exact congrArg dz (by decide +kernel))) e r
    · cases x <;> decide
    · cases x <;> decide +kernel
abbrev s_joined : Stmt := top 22
theorem sc_joined : FnScope ["word", "one", "other", "base"] ["word", "one", "other", "base"] (defScope s_joined) := ⟨rfl, rfl, rfl, by decide +kernel, rfl, by decide +kernel, by decide +kernel⟩
def rJoined : List D → (D → Prop) → Prop := fun ds Pd => ∃ (o : Bw) (x y b : Int), ds = [dz o.s, di x, di y, di b] ∧ 2 ≤ b ∧ 0 ≤ x ∧ x < 3 ∧ Pd = fun d => ∃ z : Int, d = di z ∧ 0 ≤ z ∧ z < b
theorem ok_joined (F : FnP K "joined" "joined" s_joined f fd) (T : Tx K w mg a) : FnOk P w K mg base CX0 1 f fd ["word", "one", "other", "base"] (spN K a.FC rJoined) := by
  refine fnN F sc_joined (fun ds Pd h => ?_) (fun cdv A outer s H E hr => ⟨_, (pss_cons (ps_if (pt_cmpR op_eq (pv 0) pe_str (nomark _)) (pss_one (ps_ret (pe_op op_mod (pe_callTy call_int1 (by rfl) T.f_int (by decide +kernel) (pa_cons (pe_op op_add (pv 1) (pv 2)) pa_nil)) (pv 3)))) pss_nil)
    (pss_cons (ps_if (pt_cmpR op_eq (pv 0) pe_str (nomark _)) (pss_one (ps_ret (pe_op op_mod (pe_callTy call_int1 (by rfl) T.f_int (by decide +kernel) (pa_cons (pe_op op_sub (pv 1) (pv 2)) pa_nil)) (pv 3)))) pss_nil)
    (pss_cons (ps_if (pt_cmpR op_eq (pv 0) pe_str (nomark _)) (pss_one (ps_ret (pe_op op_mod (pe_callTy call_int1 (by rfl) T.f_int (by decide +kernel) (pa_cons (pe_op op_mul (pv 1) (pv 2)) pa_nil)) (pv 3)))) pss_nil)
    (pss_one (ps_ret (pe_ifExp (pt_cmpR op_eq (pv 1) (pv 2) (nomark _)) pe_int pe_int)))))), ?_⟩)
  · obtain ⟨o, x, y, b, rfl, _⟩ := h
    rfl
  · rintro ds Pd vs Q ⟨o, x, y, b, rfl, hb, hx, hx3, rfl⟩ R k
    have hm : ∀ z : Int, 0 ≤ z % b ∧ z % b < b := fun z => ⟨Int.emod_nonneg _ (by omega), Int.emod_lt_of_pos _ (by omega)⟩
    have neq : ∀ {u v : Str}, (¬ u = v) → decide (V.str u = V.str v) = false := fun h => decide_eq_false fun q => h (V.str.inj q)
    have yes : ∀ {u : Str}, decide (V.str u = V.str u) = true := decide_eq_true rfl
    cases o with
    | sum =>
      refine st_seq (st_yes ((et_test (ev_eq (ev_var R rfl) ev_c rfl)).to yes) fun H' e => ?_)
      have R := R.mono e
      refine st_ret (ev_mod (ev_int (ev_add (ev_var R rfl) (ev_var R rfl))) (ev_var R rfl) (by omega)) fun v H2 e2 r => k _ v H2 ⟨_, rfl, hm _⟩ (e.trans e2) r
    | less =>
      refine st_seq (st_no ((et_test (ev_eq (ev_var R rfl) ev_c rfl)).to (neq (by decide +kernel))) fun H' e => ?_)
      have R := R.mono e
      refine st_seq (st_yes ((et_test (ev_eq (ev_var R rfl) ev_c rfl)).to yes) fun H2 e2 => ?_)
      have R := R.mono e2
      refine st_ret (ev_mod (ev_int (ev_sub (ev_var R rfl) (ev_var R rfl))) (ev_var R rfl) (by omega)) fun v H3 e3 r => k _ v H3 ⟨_, rfl, hm _⟩ ((e.trans e2).trans e3) r
    | times =>
      refine st_seq (st_no ((et_test (ev_eq (ev_var R rfl) ev_c rfl)).to (neq (by decide +kernel))) fun H' e => ?_)
      have R := R.mono e
      refine st_seq (st_no ((et_test (ev_eq (ev_var R rfl) ev_c rfl)).to (neq (by decide +kernel))) fun H2 e2 => ?_)
      have R := R.mono e2
      refine st_seq (st_yes ((et_test (ev_eq (ev_var R rfl) ev_c rfl)).to yes) fun H3 e3 => ?_)
      have R := R.mono e3
      refine st_ret (ev_mod (ev_int (ev_mul (ev_var R rfl) (ev_var R rfl) (.inl (by omega)))) (ev_var R rfl) (by omega)) fun v H4 e4 r => k _ v H4 ⟨_, rfl, hm _⟩ (((e.trans e2).trans e3).trans e4) r
    | same =>
      refine st_seq (st_no ((et_test (ev_eq (ev_var R rfl) ev_c rfl)).to (neq (by decide +kernel))) fun H' e => ?_)
      have R := R.mono e
      refine st_seq (st_no ((et_test (ev_eq (ev_var R rfl) ev_c rfl)).to (neq (by decide +kernel))) fun H2 e2 => ?_)
      have R := R.mono e2
      refine st_seq (st_no ((et_test (ev_eq (ev_var R rfl) ev_c rfl)).to (neq (by decide +kernel))) fun H3 e3 => ?_)
      have R := R.mono e3
      refine st_ret (ev_if (et_test (ev_eq (ev_var R rfl) (ev_var R rfl) rfl)) (fun _ => ev_c) fun _ => ev_c) fun v H4 e4 r => k _ v H4 ?_ (((e.trans e2).trans e3).trans e4) r
      by_cases q : decide (V.int x = V.int y) = true
      · exact ⟨1, by rw [if_pos q], by omega, by omega⟩
      · exact ⟨0, by rw [if_neg q], by omega, by omega⟩
/-! ### lists of names -/
theorem pe_c0 {X : Cx} {k j : Nat} {x : Str} {sp : Sp} {p pos : Pos} (c : C8.Cal X.prog X.w X.K X.mg X.base k x sp []) (hr : Room j X.A) (hk : k ≤ j) (hg : Gl X x) (hdb : (x == ("__debug__" : Str)) = false := by decide) : PE X (.Call (.Name x p) [] [] pos) (tCall sp [] E0 tNil) := by
  obtain ⟨f, fd, ps, ds, F, hm, kp, b, d⟩ := c.ex
  exact pe_call0 F (hr.mono hk) hg hm kp b d pass0 hdb
theorem nmR (l : List Nm) : ∀ x ∈ l, NoL (nmD x) := fun x _ => .at _
abbrev tNum (te : Str) (tr : TA) (i : Nat) : TE := tLc (iRng1 tr) (gName i) tYes (tOp (fun x y H Q => ∃ i j, x = .str i ∧ y = .str j ∧ i.length + j.length ≤ sizeLine ∧ Q (.str (i ++ j)) H) (tC (.str te)) (tCB (fun xs H Q => ∃ i, xs = [.int i] ∧ i.natAbs.log2 < 1920 ∧ Q (.str (toString i)) H) (tCons (tVar i) tNil))) [i]
theorem el_nums {FC : Addr → Prop} {te : Str} {n i : Nat} {σ : L2.St} {ρ : SD} {H1 : Hp} {tr : TA} (hn : n ≤ 3) (R : RepE K FC H1 ρ σ) (hl : i < ρ.length) (ha : EvA K FC tr σ H1 [di (n : Int)]) (ht : te.length ≤ 1) :
    EvL K FC (tNum te tr i) σ H1 ((List.range n).map fun (k : Nat) => dz (te ++ toString (k : Int))) := by
  refine el_map (α := Nat) (xs := List.range n) (dof := fun k => di (k : Int)) (f := fun (k : Nat) => dz (te ++ toString (k : Int))) R (evi_range ha) (fun k _ => bind_name (List.mem_singleton.mpr rfl)) (fun k hk σ' H' e R' => ?_) (fun _ _ => .at _) (by rw [List.length_range]; omega)
  have hk := List.mem_range.mp hk
  have hw : (wipeD ρ [i]).length = ρ.length := by show (List.set _ _ _).length = _; rw [List.length_set]; rfl
  have hv : EvD K FC (tVar i) σ' H' (di (k : Int)) := ev_var R' (List.getElem?_set_self (by rw [hw]; exact hl))
  have sm : k = 0 ∨ k = 1 ∨ k = 2 := by omega
  refine ev_adds ev_c (ev_str hv ?_) ?_
  · rcases sm with rfl | rfl | rfl <;> decide
  · have h1 : (Str.ofString (toString (k : Int))).length ≤ 1 := by rcases sm with rfl | rfl | rfl <;> decide +kernel
    exact Nat.le_trans (Nat.add_le_add ht h1) (by decide)
theorem nums_f : ∀ n : Nat, n ≤ 3 → ((List.range n).map fun (k : Nat) => dz (("f" : Str) ++ toString (k : Int))) = ([Nm.f0, Nm.f1, Nm.f2].take n).map nmD := by
  have h0 : ("f" : Str) ++ toString ((0 : Nat) : Int) = Nm.f0.s := by decide +kernel
  have h1 : ("f" : Str) ++ toString ((1 : Nat) : Int) = Nm.f1.s := by decide +kernel
  have h2 : ("f" : Str) ++ toString ((2 : Nat) : Int) = Nm.f2.s := by decide +kernel
  intro n hn
  obtain rfl | rfl | rfl | rfl : n = 0 ∨ n = 1 ∨ n = 2 ∨ n = 3 := by omega
  · rfl
  · show [dz (("f" : Str) ++ toString ((0 : Nat) : Int))] = _; rw [h0]; rfl
  · show [dz (("f" : Str) ++ toString ((0 : Nat) : Int)), dz (("f" : Str) ++ toString ((1 : Nat) : Int))] = _; rw [h0, h1]; rfl
  · show [dz (("f" : Str) ++ toString ((0 : Nat) : Int)), dz (("f" : Str) ++ toString ((1 : Nat) : Int)), dz (("f" : Str) ++ toString ((2 : Nat) : Int))] = _; rw [h0, h1, h2]; rfl
theorem nums_c : ∀ n : Nat, n ≤ 2 → ((List.range n).map fun (k : Nat) => dz (("c" : Str) ++ toString (k : Int))) = ([Nm.c0, Nm.c1].take n).map nmD := by
  have h0 : ("c" : Str) ++ toString ((0 : Nat) : Int) = Nm.c0.s := by decide +kernel
  have h1 : ("c" : Str) ++ toString ((1 : Nat) : Int) = Nm.c1.s := by decide +kernel
  intro n hn
  obtain rfl | rfl | rfl : n = 0 ∨ n = 1 ∨ n = 2 := by omega
  · rfl
  · show [dz (("c" : Str) ++ toString ((0 : Nat) : Int))] = _; rw [h0]; rfl
  · show [dz (("c" : Str) ++ toString ((0 : Nat) : Int)), dz (("c" : Str) ++ toString ((1 : Nat) : Int))] = _; rw [h0, h1]; rfl
theorem nums_p : ∀ n : Nat, n ≤ 2 → ((List.range n).map fun (k : Nat) => dz (("p" : Str) ++ toString (k : Int))) = ([Nm.p0, Nm.p1].take n).map nmD := by
  have h0 : ("p" : Str) ++ toString ((0 : Nat) : Int) = Nm.p0.s := by decide +kernel
  have h1 : ("p" : Str) ++ toString ((1 : Nat) : Int) = Nm.p1.s := by decide +kernel
  intro n hn
  obtain rfl | rfl | rfl : n = 0 ∨ n = 1 ∨ n = 2 := by omega
  · rfl
  · show [dz (("p" : Str) ++ toString ((0 : Nat) : Int))] = _; rw [h0]; rfl
  · show [dz (("p" : Str) ++ toString ((0 : Nat) : Int)), dz (("p" : Str) ++ toString ((1 : Nat) : Int))] = _; rw [h0, h1]; rfl
theorem nms_noL (l : List Nm) : NoLs (l.map nmD) := NoLs.of fun d h => by
  obtain ⟨x, _, rfl⟩ := List.mem_map.mp h
  exact .at _
theorem len1 {c : Str} (h : c = "f" ∨ c = "c" ∨ c = "p") : c.length ≤ 1 := by rcases h with rfl | rfl | rfl <;> decide +kernel
def nmsFor (f c p : Nat) : List Nm := [Nm.f0, Nm.f1, Nm.f2].take f ++ ([Nm.c0, Nm.c1].take c ++ [Nm.p0, Nm.p1].take p)
abbrev s_every_name : Stmt := top 26
theorem sc_every_name : FnScope ["found", "number"] [] (defScope s_every_name) := ⟨rfl, rfl, rfl, by decide +kernel, rfl, by decide +kernel, by decide +kernel⟩
def rEvery : List D → List D → Prop := fun ds es => ds = [] ∧ es = Nm.all.map nmD
theorem ok_every_name (F : FnP K "every_name" "every_name" s_every_name f fd) (T : Tx K w mg a) : FnOk P w K mg base CX0 1 f fd [] (spL K a.FC rEvery) := by
  refine fnL F sc_every_name (fun ds es h => ?_) (fun cdv A outer s H E hr => ⟨_, (pss_cons (ps_setLc (i := 0) (own := [("number", 1)]) rfl sc_every_name.nd rfl rfl (sw_true rfl rfl rfl (by decide +kernel)) (pi_range1 (by rfl) T.f_range (pa_cons (C8.pe_gc rfl T.g_MOST_FIELDS) pa_nil)) (blkOk_by (own := [("number", 1)]) (N := ["found", "number"]) (sc := defScope s_every_name) (by decide +kernel)) (fun _ _ _ _ _ => (pg_name (i := 1) sc_every_name.nd rfl (.inl rfl))) (fun _ _ _ _ _ => pts_nil) (fun _ _ _ _ _ => (pe_op op_add_str pe_str (pe_callTy call_str_int (by rfl) T.f_str (by decide +kernel) (pa_cons (pv 1) pa_nil)))))
    (pss_cons (ps_expr (pe_bm PySem.F.plainAttrs_list PySem.F.slot_list_extend PySem.F.type_list_extend mt_extend (pv 0) (pa_cons (pe_lc (own := [("number", 1)]) rfl sc_every_name.nd (pi_range1 (by rfl) T.f_range (pa_cons (C8.pe_gc rfl T.g_MOST_CELLS) pa_nil)) (blkOk_by (own := [("number", 1)]) (N := ["found", "number"]) (sc := defScope s_every_name) (by decide +kernel)) (fun _ _ _ _ _ => (pg_name (i := 1) sc_every_name.nd rfl (.inl rfl))) (fun _ _ _ _ _ => pts_nil) (fun _ _ _ _ _ => (pe_op op_add_str pe_str (pe_callTy call_str_int (by rfl) T.f_str (by decide +kernel) (pa_cons (pv 1) pa_nil))))) pa_nil)))
    (pss_cons (ps_expr (pe_bm PySem.F.plainAttrs_list PySem.F.slot_list_extend PySem.F.type_list_extend mt_extend (pv 0) (pa_cons (pe_lc (own := [("number", 1)]) rfl sc_every_name.nd (pi_range1 (by rfl) T.f_range (pa_cons (pe_op op_sub (C8.pe_gc rfl T.g_MOST_PLACES) pe_int) pa_nil)) (blkOk_by (own := [("number", 1)]) (N := ["found", "number"]) (sc := defScope s_every_name) (by decide +kernel)) (fun _ _ _ _ _ => (pg_name (i := 1) sc_every_name.nd rfl (.inl rfl))) (fun _ _ _ _ _ => pts_nil) (fun _ _ _ _ _ => (pe_op op_add_str pe_str (pe_callTy call_str_int (by rfl) T.f_str (by decide +kernel) (pa_cons (pv 1) pa_nil))))) pa_nil)))
    (pss_one (ps_ret (pv 0)))))), ?_⟩)
  · rw [h.1]
    rfl
  · rintro ds es vs Q ⟨rfl, rfl⟩ rr R k
    cases rr
    refine st_seq (st_setL R (el_nums (n := 3) (by decide) R (by show 1 < 2; decide) (ea_cons ev_c ea_nil) (len1 (.inl rfl))) fun p us H1 hp e1 hl r1 R1 => ?_)
    rw [nums_f 3 (by decide)] at r1
    refine st_seq (st_extend rfl hl (by rw [r1.length]; decide) (el_nums (n := 2) (by decide) R1 (by show 1 < 2; decide) (ea_cons ev_c ea_nil) (len1 (.inr (.inl rfl)))) fun us2 H2 e2 r2 hl2 => ?_)
    rw [nums_c 2 (by decide)] at r2
    have z2 : Frz a.FC H2 (upd H2 p (.lst (us ++ us2))) := Frz.upd_lst hl2
    have R2 : RepE K a.FC (upd H2 p (.lst (us ++ us2))) [some (.at (.ref p)), none] (start ["found", "number"] ([] : List V) |>.set 0 (some (.ref p))) := (R1.mono e2).frz z2 (fun d hd => by
      rcases List.mem_cons.mp hd with h | h
      · cases h; exact .at _
      · rcases List.mem_cons.mp h with h | h <;> cases h)
    have r12 := ((r1.mono e2).append r2).frz z2 ((nms_noL _).append (nms_noL _))
    refine st_seq (st_extend rfl upd_same (by rw [List.length_append, r1.length, r2.length]; decide) (el_nums (n := 2) (by decide) R2 (by show 1 < 2; decide) (ea_cons (ev_sub ev_c ev_c) ea_nil) (len1 (.inr (.inr rfl)))) fun us3 H3 e3 r3 hl3 => ?_)
    rw [nums_p 2 (by decide)] at r3
    have z3 : Frz a.FC H3 (upd H3 p (.lst ((us ++ us2) ++ us3))) := Frz.upd_lst hl3
    refine ⟨_, rfl, k p _ _ hp ?_ upd_same (((r12.mono e3).append r3).frz z3 (((nms_noL _).append (nms_noL _)).append (nms_noL _)))⟩
    exact Same.mut (Same.trans (Same.mut (Same.trans e1 e2) hp) e3) hp
abbrev s_names_for : Stmt := top 34
theorem sc_names_for : FnScope ["fields", "cells", "place", "found", "number"] ["fields", "cells", "place"] (defScope s_names_for) := ⟨rfl, rfl, rfl, by decide +kernel, rfl, by decide +kernel, by decide +kernel⟩
def rNamesFor : List D → List D → Prop := fun ds es => ∃ f c p : Nat, f ≤ 3 ∧ c ≤ 2 ∧ p ≤ 2 ∧ ds = [di (f : Int), di (c : Int), di (p : Int)] ∧ es = (nmsFor f c p).map nmD
theorem ok_names_for (F : FnP K "names_for" "names_for" s_names_for f fd) (T : Tx K w mg a) : FnOk P w K mg base CX0 1 f fd ["fields", "cells", "place"] (spL K a.FC rNamesFor) := by
  refine fnL F sc_names_for (fun ds es h => ?_) (fun cdv A outer s H E hr => ⟨_, (pss_cons (ps_setLc (i := 3) (own := [("number", 4)]) rfl sc_names_for.nd rfl rfl (sw_true rfl rfl rfl (by decide +kernel)) (pi_range1 (by rfl) T.f_range (pa_cons (pv 0) pa_nil)) (blkOk_by (own := [("number", 4)]) (N := ["fields", "cells", "place", "found", "number"]) (sc := defScope s_names_for) (by decide +kernel)) (fun _ _ _ _ _ => (pg_name (i := 4) sc_names_for.nd rfl (.inl rfl))) (fun _ _ _ _ _ => pts_nil) (fun _ _ _ _ _ => (pe_op op_add_str pe_str (pe_callTy call_str_int (by rfl) T.f_str (by decide +kernel) (pa_cons (pv 4) pa_nil)))))
    (pss_cons (ps_expr (pe_bm PySem.F.plainAttrs_list PySem.F.slot_list_extend PySem.F.type_list_extend mt_extend (pv 3) (pa_cons (pe_lc (own := [("number", 4)]) rfl sc_names_for.nd (pi_range1 (by rfl) T.f_range (pa_cons (pv 1) pa_nil)) (blkOk_by (own := [("number", 4)]) (N := ["fields", "cells", "place", "found", "number"]) (sc := defScope s_names_for) (by decide +kernel)) (fun _ _ _ _ _ => (pg_name (i := 4) sc_names_for.nd rfl (.inl rfl))) (fun _ _ _ _ _ => pts_nil) (fun _ _ _ _ _ => (pe_op op_add_str pe_str (pe_callTy call_str_int (by rfl) T.f_str (by decide +kernel) (pa_cons (pv 4) pa_nil))))) pa_nil)))
    (pss_cons (ps_expr (pe_bm PySem.F.plainAttrs_list PySem.F.slot_list_extend PySem.F.type_list_extend mt_extend (pv 3) (pa_cons (pe_lc (own := [("number", 4)]) rfl sc_names_for.nd (pi_range1 (by rfl) T.f_range (pa_cons (pv 2) pa_nil)) (blkOk_by (own := [("number", 4)]) (N := ["fields", "cells", "place", "found", "number"]) (sc := defScope s_names_for) (by decide +kernel)) (fun _ _ _ _ _ => (pg_name (i := 4) sc_names_for.nd rfl (.inl rfl))) (fun _ _ _ _ _ => pts_nil) (fun _ _ _ _ _ => (pe_op op_add_str pe_str (pe_callTy call_str_int (by rfl) T.f_str (by decide +kernel) (pa_cons (pv 4) pa_nil))))) pa_nil)))
    (pss_one (ps_ret (pv 3)))))), ?_⟩)
  · obtain ⟨_, _, _, _, _, _, rfl, _⟩ := h
    rfl
  · rintro ds es vs Q ⟨nf, nc, np, h1, h2, h3, rfl, rfl⟩ rr R k
    refine st_seq (st_setL R (el_nums (n := nf) h1 R (by show 4 < 5; decide) (ea_cons (ev_var R rfl) ea_nil) (len1 (.inl rfl))) fun p us H1 hp e1 hl r1 R1 => ?_)
    rw [nums_f nf h1] at r1
    have l1 : us.length ≤ 3 := by rw [r1.length, List.length_map, List.length_take]; exact Nat.min_le_right _ _
    have R1 := R.mono e1
    have S3 : ∀ {H' : Hp} {H2 : Hp}, RepE K a.FC H (startD ["fields", "cells", "place", "found", "number"] [di (nf : Int), di (nc : Int), di (np : Int)]) (start ["fields", "cells", "place", "found", "number"] vs) → Same H H' → RepE K a.FC H' ([some (di (nf : Int)), some (di (nc : Int)), some (di (np : Int)), some (.at (.ref p)), none] : SD) ((start ["fields", "cells", "place", "found", "number"] vs).set 3 (some (.ref p))) := fun R e => (R.mono e).set (i := 3) (.at _)
    refine st_seq (st_extend (List.getElem?_set_self (by rw [← R.len]; show 3 < 5; decide)) hl (by rw [List.length_map, List.length_range]; exact Nat.le_trans (Nat.add_le_add l1 h2) (by decide)) (el_nums (n := nc) (Nat.le_trans h2 (by decide)) (S3 (H2 := H1) R e1) (by show 4 < 5; decide) (ea_cons (ev_var (S3 (H2 := H1) R e1) rfl) ea_nil) (len1 (.inr (.inl rfl)))) fun us2 H2 e2 r2 hl2 => ?_)
    rw [nums_c nc h2] at r2
    have l2 : us2.length ≤ 2 := by rw [r2.length, List.length_map, List.length_take]; exact Nat.min_le_right _ _
    have z2 : Frz a.FC H2 (upd H2 p (.lst (us ++ us2))) := Frz.upd_lst hl2
    have s2 : Same H (upd H2 p (.lst (us ++ us2))) := Same.mut (Same.trans e1 e2) hp
    have r12 := ((r1.mono e2).append r2).frz z2 ((nms_noL _).append (nms_noL _))
    refine st_seq (st_extend (List.getElem?_set_self (by rw [← R.len]; show 3 < 5; decide)) upd_same (by rw [List.length_map, List.length_range, List.length_append]; exact Nat.le_trans (Nat.add_le_add (Nat.add_le_add l1 l2) h3) (by decide)) (el_nums (n := np) (Nat.le_trans h3 (by decide)) (S3 (H2 := H1) R s2) (by show 4 < 5; decide) (ea_cons (ev_var (S3 (H2 := H1) R s2) rfl) ea_nil) (len1 (.inr (.inr rfl)))) fun us3 H3 e3 r3 hl3 => ?_)
    rw [nums_p np h3] at r3
    have z3 : Frz a.FC H3 (upd H3 p (.lst ((us ++ us2) ++ us3))) := Frz.upd_lst hl3
    refine ⟨_, List.getElem?_set_self (by rw [← R.len]; show 3 < 5; decide), k p _ _ hp (Same.mut (Same.trans s2 e3) hp) upd_same ?_⟩
    have e : (nmsFor nf nc np).map nmD = ((([Nm.f0, Nm.f1, Nm.f2].take nf).map nmD ++ ([Nm.c0, Nm.c1].take nc).map nmD) ++ ([Nm.p0, Nm.p1].take np).map nmD) := by
      unfold nmsFor
      rw [List.map_append, List.map_append, List.append_assoc]
    rw [e]
    exact ((r12.mono e3).append r3).frz z3 (((nms_noL _).append (nms_noL _)).append (nms_noL _))
abbrev s_power : Stmt := top 33
theorem sc_power : FnScope ["base", "times", "found", "turn"] ["base", "times"] (defScope s_power) := ⟨rfl, rfl, rfl, by decide +kernel, rfl, by decide +kernel, by decide +kernel⟩
def rPower : List D → (D → Prop) → Prop := fun ds Pd => ∃ (b : Int) (n : Nat), ds = [di b, di (n : Int)] ∧ 0 ≤ b ∧ b ≤ 3 ∧ n ≤ 10 ∧ Pd = fun d => d = di (b ^ n)
theorem ok_power (F : FnP K "power" "power" s_power f fd) (T : Tx K w mg a) : FnOk P w K mg base CX0 1 f fd ["base", "times"] (spN K a.FC rPower) := by
  refine fnN F sc_power (fun ds Pd h => ?_) (fun cdv A outer s H E hr => ⟨_, (pss_cons (ps_set (i := 2) sc_power.nd rfl (Or.inl rfl) pe_int)
    (pss_cons (ps_for PassesOwn.never rfl (pi_range1 (by rfl) T.f_range (pa_cons (pv 1) pa_nil)) (pg_name (i := 3) sc_power.nd rfl (.inl rfl))
      (pss_one (ps_set (i := 2) sc_power.nd rfl (Or.inl rfl) (pe_op op_mul (pv 2) (pv 0)))))
    (pss_one (ps_ret (pv 2))))), ?_⟩)
  · obtain ⟨b, n, rfl, _⟩ := h
    rfl
  · rintro ds Pd vs Q ⟨b, n, rfl, hb, hb3, hn, rfl⟩ R k
    refine st_seq (st_set R ev_c fun v H1 e1 r1 R1 => ?_)
    have ra : EvA K a.FC (tCons (tVar 1) tNil) _ H1 [di (n : Int)] := ea_cons (ev_var R1 rfl) ea_nil
    refine st_seq (st_forZ (evz_range ra) fun H2 e2 => ⟨fun i σ H' => Same H2 H' ∧ ∃ t, RepE K a.FC H' [some (di b), some (di (n : Int)), some (di (b ^ i)), t] σ, ⟨Same.refl _, none, by rw [Int.pow_zero]; exact R1.mono e2⟩, fun i σ' H' h => Same.frz h.1, ?_, ?_⟩)
    · rintro i d x σ H3 H4 hd ⟨e3, t, R3⟩ e4 rd
      have R4 : RepE K a.FC H4 [some (di b), some (di (n : Int)), some (di (b ^ i)), some d] (σ.set 3 (some x)) := (R3.mono e4).set (i := 3) rd
      refine st_set R4 (ev_mul (ev_var R4 rfl) (ev_var R4 rfl) (.inr (by omega))) fun v H5 e5 r5 R5 => ?_
      exact ⟨(e3.trans e4).trans e5, some d, by rw [Int.pow_succ]; exact R5⟩
    · rw [List.length_map, List.length_range]
      rintro σ H3 ⟨e3, t, R3⟩
      refine st_ret (ev_var R3 rfl) fun v H4 e4 r4 => k _ v H4 rfl (((e1.trans e2).trans e3).trans e4) r4
abbrev s_is_name : Stmt := top 28
theorem sc_is_name : FnScope ["thing"] ["thing"] (defScope s_is_name) := ⟨rfl, rfl, rfl, by decide +kernel, rfl, by decide +kernel, by decide +kernel⟩
def rIsName : List D → (D → Prop) → Prop := fun ds Pd => ∃ x : Nm, ds = [nmD x] ∧ Pd = fun d => d = db true
theorem ok_is_name (F : FnP K "is_name" "is_name" s_is_name f fd) (T : Tx K w mg a) (c_every_name : C8.Cal P w K mg base 1 "every_name" (spL K a.FC rEvery) []) : FnOk P w K mg base CX0 2 f fd ["thing"] (spN K a.FC rIsName) := by
  refine fnN F sc_is_name (fun ds Pd h => ?_) (fun cdv A outer s H E hr => ⟨_, (pss_one (ps_ret (pe_and (pe_callB (call_isiK1 (K := K)) (by rfl) T.f_isinstance (by decide +kernel) (pa_cons (pv 0) (pa_cons (pe_bltn (v := .ty "str") (by rfl) T.f_str (by decide +kernel) rfl) pa_nil))) (pe_one (pe_cmpR (op_inQ (K := K)) (pv 0) (pe_c0 c_every_name hr (by decide) (by rfl)) (by rfl)))))), ?_⟩)
  · obtain ⟨x, rfl, _⟩ := h
    rfl
  · rintro ds Pd vs Q ⟨x, rfl, rfl⟩ R k
    refine st_ret (ev_and (ev_isi (d := nmD x) (b := true) (ev_var R rfl) (.str _) ev_c (.ty "str") (kit_ty (by decide +kernel))) fun _ => ev_inL (l := Nm.all.map Nm.s) (ev_var R rfl) ?_) fun v H' e r => k _ v H' ?_ e r
    · rw [List.map_map]
      exact (el_call ea_nil ⟨rfl, rfl⟩).toD
    · rw [mem_nms, decide_eq_true x.mem_all]
      rfl
end
end T34

/-! Kd3 -/
set_option maxHeartbeats 4000000
namespace T34
open PySem PySem.Spec PyProof.Rows L2
local macro_rules | `(tactic| walk_at "ev") => `(tactic| (first
  | (with_reducible exact ev_c)
  | ((with_reducible refine' ev_var ?R ?h); (case R => assumption); (case h => rfl))
  | (with_reducible refine' ea_cons ?_ ?_)
  | (with_reducible exact ea_nil)
  | (with_reducible refine' ev_add ?_ ?_)
  | (with_reducible refine' ev_sub ?_ ?_)
  | (with_reducible refine' ev_mul ?_ ?_ ?_)
  | (with_reducible refine' ev_mod ?_ ?_ ?_)
  | (with_reducible refine' ev_div ?_ ?_ ?_)
  | (with_reducible refine' ev_lt ?_ ?_)
  | (with_reducible refine' ev_le ?_ ?_)
  | (with_reducible refine' ev_gt ?_ ?_)
  | (with_reducible refine' ev_ge ?_ ?_)
  | (with_reducible refine' ev_int ?_)
  | (with_reducible refine' ev_not ?_)
  | (with_reducible refine' ev_tup ?_)
  | (with_reducible refine' ev_between ?_ ?_ ?_)
  | (with_reducible refine' et_test ?_)
  | (with_reducible refine' et_B ?_)
  | (with_reducible refine' et_not ?_)))
section
variable {P : Program} {w : World} {K : PySem.W.Frag} {mg : Str → Option Value} {base : Heap} {a : Ad} {f : Addr} {fd : FuncData}
abbrev s_leaves_of : Stmt := top 19
theorem sc_leaves_of : FnScope ["form", "found", "part"] ["form"] (defScope s_leaves_of) := ⟨rfl, rfl, rfl, by decide +kernel, rfl, by decide +kernel, by decide +kernel⟩
def rLeaves (n : Nat) : List D → List D → Prop := fun ds es => ∃ m : Fm, m.depth ≤ n ∧ m.lvs.length ≤ 100 ∧ ds = [m.d] ∧ es = m.lvs.map Lf.d
theorem Tx.inLV (T : Tx K w mg a) (x : Str) (h : x ∈ (["number", "field", "cell", "place"] : List Str)) : ∃ u, PySem.W.nsIn K a.aLV x = some (some u) := by
  have key : ∀ z ∈ (["number", "field", "cell", "place"] : List Str), ∃ i : Int, (z, i) ∈ ([("number", 3), ("field", 3), ("cell", 2), ("place", 2)] : List (Str × Int)) := by
    intro z hz
    simp only [List.mem_cons, List.not_mem_nil, or_false] at hz
    rcases hz with rfl | rfl | rfl | rfl
    · exact ⟨3, by simp⟩
    · exact ⟨3, by simp⟩
    · exact ⟨2, by simp⟩
    · exact ⟨2, by simp⟩
  obtain ⟨i, hi⟩ := key x h
  obtain ⟨u, h1, _⟩ := T.v_LEAVES _ hi
  exact ⟨u, h1⟩
theorem Nm.kind_in (x : Nm) : x.kind ∈ (["number", "field", "cell", "place"] : List Str) := by cases x <;> simp [Nm.kind]
theorem Bw.s_in (o : Bw) : o.s ∈ (["sum", "less", "times", "same", "when"] : List Str) := by cases o <;> simp [Bw.s]
/-- the test form[0] in LEAVES -/
theorem ev_isLeaf {FC : Addr → Prop} {σ : L2.St} {ρ : SD} {H : Hp} {n : Nat} (T : Tx K w mg a) (l : Lf) (R : RepE K FC H ρ σ) (h : ρ[n]? = some (some l.d)) : EvD K FC (tOp (rInD K a.aLV false) (tOp (rIxT K) (tVar n) (tC (.int 0))) (tC (.ref a.aLV))) σ H (db true) := by
  cases l with
  | num i =>
    obtain ⟨u, hu⟩ := T.inLV "number" (by simp)
    exact ev_inD (o := some u) (ev_ixT (ev_var R h) ev_c rfl) ev_c hu
  | nm x =>
    obtain ⟨u, hu⟩ := T.inLV x.kind x.kind_in
    exact ev_inD (o := some u) (ev_ixT (ev_var R h) ev_c rfl) ev_c hu
theorem ev_noLeaf {FC : Addr → Prop} {σ : L2.St} {ρ : SD} {H : Hp} {n : Nat} (T : Tx K w mg a) {z : Str} {r : List D} (R : RepE K FC H ρ σ) (h : ρ[n]? = some (some (.tup (dz z :: r)))) (hz : z ∈ (["sum", "less", "times", "same", "when"] : List Str)) :
    EvD K FC (tOp (rInD K a.aLV false) (tOp (rIxT K) (tVar n) (tC (.int 0))) (tC (.ref a.aLV))) σ H (db false) :=
  ev_inD (o := none) (ev_ixT (ev_var R h) ev_c atI_zero) ev_c (T.n_LEAVES z hz)
theorem leaves_loop {k : Nat} {H0 : Hp} {m : Fm} {ms : List Fm} {z : Str} {vs : List V} {B : Ends} (c : ∀ x ∈ ms, x.depth ≤ k ∧ x.lvs.length ≤ 100) (hm : m.d = .tup (dz z :: ms.map Fm.d)) (hl : (ms.flatMap Fm.lvs).length ≤ 100) (hms : ms.length ≤ 3)
    (R : RepE K a.FC H0 [some m.d, none, none] (start ["form", "found", "part"] vs)) (q : ∀ p us H', H0 p = none → Same H0 H' → H' p = some (.lst us) → Reps K a.FC H' ((ms.flatMap Fm.lvs).map Lf.d) us → B.rt (.ref p) H') :
    tSeq (tAsg (tLst tNil) (gName 1)) (tSeq (tFor (iTup K (tSl (rSlA K) (tVar 0) (tPart (tC (.int 1))) tNoPart)) (gName 2) (tDrop (tBM K "list" rExtend (tVar 1) (tCons (tCall (spL K a.FC (rLeaves k)) [] C8.E0 (tCons (tVar 2) tNil)) tNil)))) (tRet (tVar 1))) B (start ["form", "found", "part"] vs) H0 := by
  refine st_seq (st_setL R (ev_lst ea_nil) fun p us H1 hp e1 hl1 r1 R1 => ?_)
  cases r1
  rw [hm] at R1
  have hcut : cutD (dz z :: ms.map Fm.d) (some 1) none = ms.map Fm.d := by
    unfold cutD
    have e1 : HT.sIx (dz z :: ms.map Fm.d).length 0 (some 1) = 1 := by
      rw [show (1 : Int) = ((1 : Nat) : Int) from rfl, HT.sIx_nat, List.length_cons]
      exact Nat.min_eq_left (by omega)
    rw [e1, HT.sIx_none, List.drop_one, List.tail_cons, List.length_cons, Nat.add_sub_cancel, List.length_map]
    exact List.take_of_length_le (by rw [List.length_map]; exact Nat.le_refl _)
  have nl : NoLs (ms.map Fm.d) := NoLs.of fun d hd => by
    obtain ⟨x, _, rfl⟩ := List.mem_map.mp hd
    exact x.noL
  have hz := evz_tup (K := K) (FC := a.FC) (ds := ms.map Fm.d) (H := H1) (σ := (start ["form", "found", "part"] vs).set 1 (some (.ref p))) ((ev_slT (ev_var (n := 0) R1 rfl) eo_c eo_none).to (by rw [hcut])) nl
  have plen : ∀ i : Nat, ((ms.take i).flatMap Fm.lvs).length ≤ 100 := fun i => by
    refine Nat.le_trans ?_ hl
    conv => rhs; rw [← List.take_append_drop i ms, List.flatMap_append, List.length_append]
    exact Nat.le_add_right _ _
  refine st_seq (st_forZ hz fun H2 e2 => ⟨fun i σ H' => Frz a.FC H2 H' ∧ Same H0 H' ∧ ∃ us t, H' p = some (.lst us) ∧ Reps K a.FC H' (((ms.take i).flatMap Fm.lvs).map Lf.d) us ∧ RepE K a.FC H' [some m.d, some (.at (.ref p)), t] σ, ⟨Frz.refl _, e1.trans e2, [], none, e2 _ _ hl1, .nil, by rw [hm]; exact R1.mono e2⟩, fun i σ' H' h => h.1, ?_, ?_⟩)
  · rintro i d x σ H3 H4 hd ⟨z3, s3, us, t, hp3, r3, R3⟩ e4 rd
    rw [List.getElem?_map] at hd
    obtain ⟨y, hy, rfl⟩ := Option.map_eq_some_iff.mp hd
    have hyc := c y (List.mem_of_getElem? hy)
    have R4 : RepE K a.FC H4 [some m.d, some (.at (.ref p)), some y.d] (σ.set 2 (some x)) := (R3.mono e4).set (i := 2) rd
    obtain ⟨v1, hv1, rv1⟩ := R4.get 1 _ rfl
    cases rv1.at_inv
    have htake : ms.take (i + 1) = ms.take i ++ [y] := by
      rw [List.take_succ, hy]
      rfl
    have hlen : ((ms.take i).flatMap Fm.lvs).length + y.lvs.length ≤ 100 := by
      have := plen (i + 1)
      rw [htake, List.flatMap_append, List.length_append] at this
      simpa using this
    refine st_extend hv1 (e4 _ _ hp3) (by rw [r3.length, List.length_map, List.length_map]; exact Nat.le_trans hlen (by decide)) (el_call (ea_cons (ev_var R4 rfl) ea_nil) ⟨y, hyc.1, hyc.2, rfl, rfl⟩) fun us2 H5 e5 r5 hp5 => ?_
    have zz : Frz a.FC H5 (upd H5 p (.lst (us ++ us2))) := Frz.upd_lst hp5
    have nly : ∀ l : List Lf, NoLs (l.map Lf.d) := fun l => NoLs.of fun d hd => by
      obtain ⟨x, _, rfl⟩ := List.mem_map.mp hd
      exact x.noL
    refine ⟨(z3.trans (Same.frz (e4.trans e5))).trans zz, Same.mut ((s3.trans e4).trans e5) hp, us ++ us2, some y.d, upd_same, ?_, (R4.mono e5).frz zz fun d hd => ?_⟩
    · rw [htake, List.flatMap_append, List.map_append]
      refine ((r3.mono (e4.trans e5)).append ?_).frz zz ((nly _).append (nly _))
      simpa using r5
    · rcases List.mem_cons.mp hd with h | hd
      · cases h; exact m.noL
      · rcases List.mem_cons.mp hd with h | hd
        · cases h; exact .at _
        · rcases List.mem_cons.mp hd with h | hd
          · cases h; exact y.noL
          · cases hd
  · rw [List.length_map]
    rintro σ H3 ⟨z3, s3, us, t, hp3, r3, R3⟩
    rw [List.take_length] at r3
    obtain ⟨v1, hv1, rv1⟩ := R3.get 1 _ rfl
    cases rv1.at_inv
    exact ⟨_, hv1, q p us H3 hp s3 hp3 r3⟩
theorem ok_leaves_of (F : FnP K "leaves_of" "leaves_of" s_leaves_of f fd) (T : Tx K w mg a) (mgf : mg "leaves_of" = some (.ref f)) (b : Binds K fd ["form"] []) : ∀ n, FnOk P w K mg base CX0 (n + 1) f fd ["form"] (spL K a.FC (rLeaves n))
  | 0 => by
    refine fnL F sc_leaves_of (fun ds es h => ?_) (fun cdv A outer s H E hr => ⟨_, (pss_cons (ps_if (pt_cmpR (op_inKK (K := K) (w := w) T.d_LEAVES) (pe_ix (ix_tupK (K := K)) (pv 0) pe_int (fun _ _ => rfl)) (C8.pe_gc rfl T.g_LEAVES) (by rfl)) (pss_one (ps_ret (pe_lst (pa_cons (pv 0) pa_nil)))) pss_nil)
    (pss_cons (ps_set (i := 1) sc_leaves_of.nd rfl (Or.inl rfl) (pe_lst pa_nil))
    (pss_cons ps_never
    (pss_one (ps_ret (pv 1)))))), ?_⟩)
    · obtain ⟨m, _, _, rfl, _⟩ := h
      rfl
    · rintro ds es vs Q ⟨m, hm, hl, rfl, rfl⟩ rr R k
      cases m with
      | leaf l =>
        refine st_seq (st_yes (et_test (ev_isLeaf T l R rfl)) fun H' e => ?_)
        exact st_retL (ev_lst (ea_cons (ev_var (R.mono e) rfl) ea_nil) (by show 1 ≤ sizeLine; decide)) fun p us H2 hp e2 hl r => k p us H2 (fresh_back e hp) (e.trans e2) hl r
      | bin o x y => exact absurd hm (by show ¬ (_ + 1 ≤ 0); omega)
      | whn t x y => exact absurd hm (by show ¬ (_ + 1 ≤ 0); omega)
  | n + 1 => by
    have ih := ok_leaves_of F T mgf b n
    have c_leaves_of : C8.Cal P w K mg base (n + 1) "leaves_of" (spL K a.FC (rLeaves n)) [] := ⟨_, _, _, _, ih, mgf, F.kp, b, .nil⟩
    refine fnL F sc_leaves_of (fun ds es h => ?_) (fun cdv A outer s H E hr => ⟨_, (pss_cons (ps_if (pt_cmpR (op_inKK (K := K) (w := w) T.d_LEAVES) (pe_ix (ix_tupK (K := K)) (pv 0) pe_int (fun _ _ => rfl)) (C8.pe_gc rfl T.g_LEAVES) (by rfl)) (pss_one (ps_ret (pe_lst (pa_cons (pv 0) pa_nil)))) pss_nil)
    (pss_cons (ps_set (i := 1) sc_leaves_of.nd rfl (Or.inl rfl) (pe_lst pa_nil))
    (pss_cons (ps_for PassesOwn.never rfl (pi_tup (pe_slice (sl_tupK (K := K)) (pv 0) (po_some pe_int) po_none)) (pg_name (i := 2) sc_leaves_of.nd rfl (.inl rfl))
      (pss_one (ps_expr (pe_bm PySem.F.plainAttrs_list PySem.F.slot_list_extend PySem.F.type_list_extend mt_extend (pv 1) (pa_cons (C8.pe_c c_leaves_of hr (by omega) (by rfl) (pa_cons (pv 2) pa_nil)) pa_nil)))))
    (pss_one (ps_ret (pv 1)))))), ?_⟩)
    · obtain ⟨m, _, _, rfl, _⟩ := h
      rfl
    · rintro ds es vs Q ⟨m, hm, hl, rfl, rfl⟩ rr R k
      cases m with
      | leaf l =>
        refine st_seq (st_yes (et_test (ev_isLeaf T l R rfl)) fun H' e => ?_)
        exact st_retL (ev_lst (ea_cons (ev_var (R.mono e) rfl) ea_nil) (by show 1 ≤ sizeLine; decide)) fun p us H2 hp e2 hl r => k p us H2 (fresh_back e hp) (e.trans e2) hl r
      | bin o x y =>
        refine st_seq (st_no (et_test (ev_noLeaf T R rfl o.s_in)) fun H' e => ?_)
        have hm : max x.depth y.depth + 1 ≤ n + 1 := hm
        have hl : (x.lvs ++ y.lvs).length ≤ 100 := hl
        rw [List.length_append] at hl
        refine leaves_loop (m := .bin o x y) (ms := [x, y]) (z := o.s) (fun u hu => ?_) rfl (by simpa using hl) (by show 2 ≤ 3; decide) (R.mono e) fun p us H2 hp e2 hl2 r => k p us H2 (fresh_back e hp) (e.trans e2) hl2 (by have r' : Reps K a.FC H2 (([x, y].flatMap Fm.lvs).map Lf.d) us := r; simpa [Fm.lvs] using r')
        rcases List.mem_cons.mp hu with rfl | hu
        · exact ⟨by omega, by omega⟩
        · cases List.mem_singleton.mp hu
          exact ⟨by omega, by omega⟩
      | whn t x y =>
        refine st_seq (st_no (et_test (ev_noLeaf T R rfl (by simp))) fun H' e => ?_)
        have hm : max t.depth (max x.depth y.depth) + 1 ≤ n + 1 := hm
        have hl : (t.lvs ++ (x.lvs ++ y.lvs)).length ≤ 100 := hl
        rw [List.length_append, List.length_append] at hl
        refine leaves_loop (m := .whn t x y) (ms := [t, x, y]) (z := "when") (fun u hu => ?_) rfl (by simpa using hl) (by show 3 ≤ 3; decide) (R.mono e) fun p us H2 hp e2 hl2 r => k p us H2 (fresh_back e hp) (e.trans e2) hl2 (by have r' : Reps K a.FC H2 (([t, x, y].flatMap Fm.lvs).map Lf.d) us := r; simpa [Fm.lvs] using r')
        rcases List.mem_cons.mp hu with rfl | hu
        · exact ⟨by omega, by omega⟩
        · rcases List.mem_cons.mp hu with rfl | hu
          · exact ⟨by omega, by omega⟩
          · cases List.mem_singleton.mp hu
            exact ⟨by omega, by omega⟩
end
end T34

/-! Kd4 -/
set_option maxHeartbeats 4000000
namespace T34
open PySem PySem.Spec PyProof.Rows L2
local macro_rules | `(tactic| walk_at "ev") => `(tactic| (first
  | (with_reducible exact ev_c)
  | ((with_reducible refine' ev_var ?R ?h); (case R => assumption); (case h => rfl))
  | (with_reducible refine' ea_cons ?_ ?_)
  | (with_reducible exact ea_nil)
  | (with_reducible refine' ev_add ?_ ?_)
  | (with_reducible refine' ev_sub ?_ ?_)
  | (with_reducible refine' ev_mul ?_ ?_ ?_)
  | (with_reducible refine' ev_mod ?_ ?_ ?_)
  | (with_reducible refine' ev_div ?_ ?_ ?_)
  | (with_reducible refine' ev_lt ?_ ?_)
  | (with_reducible refine' ev_le ?_ ?_)
  | (with_reducible refine' ev_gt ?_ ?_)
  | (with_reducible refine' ev_ge ?_ ?_)
  | (with_reducible refine' ev_int ?_)
  | (with_reducible refine' ev_not ?_)
  | (with_reducible refine' ev_tup ?_)
  | (with_reducible refine' ev_between ?_ ?_ ?_)
  | (with_reducible refine' et_test ?_)
  | (with_reducible refine' et_B ?_)
  | (with_reducible refine' et_not ?_)))
section
variable {P : Program} {w : World} {K : PySem.W.Frag} {mg : Str → Option Value} {base : Heap} {a : Ad} {f : Addr} {fd : FuncData}
abbrev s_is_form : Stmt := top 20
theorem sc_is_form : FnScope ["form", "deep", "part"] ["form", "deep"] (defScope s_is_form) := ⟨rfl, rfl, rfl, by decide +kernel, rfl, by decide +kernel, by decide +kernel⟩
def Lf.ok : Lf → Prop
  | .num i => 0 ≤ i ∧ i < 3
  | .nm _ => True
def Fm.ok (m : Fm) : Prop := ∀ l ∈ m.lvs, l.ok
def rIsForm (n : Nat) : List D → (D → Prop) → Prop := fun ds Pd => ∃ (m : Fm) (k : Nat), m.ok ∧ m.depth ≤ n ∧ k + m.depth ≤ 9 ∧ ds = [m.d, di (k : Int)] ∧ Pd = fun d => d = db true
def Lf.lim : Lf → Int
  | .num _ => 3
  | .nm x => match x.kind with
    | _ => match x with
      | .f0 => 3 | .f1 => 3 | .f2 => 3 | .c0 => 2 | .c1 => 2 | .p0 => 2 | .p1 => 2
def Lf.kind : Lf → Str
  | .num _ => "number"
  | .nm x => x.kind
def Lf.ix : Lf → Int
  | .num i => i
  | .nm x => x.ix
theorem Lf.d_eq (l : Lf) : l.d = .tup [dz l.kind, di l.ix] := by cases l <;> rfl
theorem Lf.in_lim {l : Lf} (h : l.ok) : 0 ≤ l.ix ∧ l.ix < l.lim := by
  cases l with
  | num i => exact h
  | nm x => cases x <;> decide
theorem Tx.lim (T : Tx K w mg a) (l : Lf) : KDct K w a.aLV l.kind (.int l.lim) := by
  obtain ⟨es, n, D⟩ := T.d_LEAVES
  have h : (l.kind, l.lim) ∈ ([("number", 3), ("field", 3), ("cell", 2), ("place", 2)] : List (Str × Int)) := by
    cases l with
    | num i => simp [Lf.kind, Lf.lim]
    | nm x => cases x <;> simp [Lf.kind, Lf.lim, Nm.kind]
  obtain ⟨u, h1, h2⟩ := T.v_LEAVES _ h
  exact ⟨es, n, u, D.at_, D.lit, h1, h2⟩
theorem Tx.join (T : Tx K w mg a) {z : Str} {i : Int} (h : (z, i) ∈ ([("sum", 2), ("less", 2), ("times", 2), ("same", 2), ("when", 3)] : List (Str × Int))) : KDct K w a.aJN z (.int i) ∧ ∃ u, PySem.W.nsIn K a.aJN z = some (some u) := by
  obtain ⟨es, n, D⟩ := T.d_JOINS
  obtain ⟨u, h1, h2⟩ := T.v_JOINS _ h
  exact ⟨⟨es, n, u, D.at_, D.lit, h1, h2⟩, u, h1⟩
theorem all_true {α : Type} : ∀ l : List α, ((l.map fun _ => true).all id) = true
  | [] => rfl
  | _ :: l => all_true l
/-- the first test is not met -/
theorem et_badForm {FC : Addr → Prop} {σ : L2.St} {ρ : SD} {H : Hp} {z : Str} {r : List D} {k : Nat} (hk : k ≤ 9) (R : RepE K FC H ρ σ) (h : ρ[0]? = some (some (.tup (dz z :: r)))) (h1 : ρ[1]? = some (some (di (k : Int)))) :
    EvT (tOr (tNot (tB (tCB (rIsi K) (tCons (tVar 0) (tCons (tC (.ty "tuple")) tNil))))) (tOr (tTest (tOp (rI0 fun i j => .bl (decide (j < i))) (tVar 1) (tC (.int 9)))) (tOr (tNot fun σ H Q => tVar 0 σ H fun x H' => ∃ k, TruV K x H' k ∧ Q k H') (tNot (tB (tCB (rIsi K) (tCons (tOp (rIxT K) (tVar 0) (tC (.int 0))) (tCons (tC (.ty "str")) tNil)))))))) σ H false := by
  refine (et_or (et_not (et_B (ev_isi (b := true) (ev_var R h) (.tup _) ev_c (.ty "tuple") (kit_ty (by decide +kernel))))) fun _ => et_or (et_test (ev_gt (ev_var R h1) ev_c)) fun _ => et_or (et_not (et_truT rfl (ev_var R h))) fun _ => et_not (et_B (ev_isi (b := true) (ev_ixT (ev_var R h) ev_c atI_zero) (.str _) ev_c (.ty "str") (kit_ty (by decide +kernel))))).to ?_
  have e : decide ((9 : Int) < (k : Int)) = false := decide_eq_false (by omega)
  rw [e]
  rfl
theorem cut1 {x : D} {r : List D} : cutD (x :: r) (some 1) none = r := by
  unfold cutD
  have e1 : HT.sIx (x :: r).length 0 (some 1) = 1 := by
    rw [show (1 : Int) = ((1 : Nat) : Int) from rfl, HT.sIx_nat, List.length_cons]
    exact Nat.min_eq_left (by omega)
  rw [e1, HT.sIx_none, List.drop_one, List.tail_cons, List.length_cons, Nat.add_sub_cancel]
  exact List.take_of_length_le (Nat.le_refl _)
theorem ok_is_form (F : FunD K "is_form" "is_form" (defArgs s_is_form) (defBody s_is_form) (defScope s_is_form) [.int 0] [] f fd) (T : Tx K w mg a) (mgf : mg "is_form" = some (.ref f)) (b : Binds K fd ["form", "deep"] []) (c_is_number : C8.Cal P w K mg base 1 "is_number" (spN K a.FC rNumber) []) :
    ∀ n, FnOk P w K mg base CX0 (n + 2) f fd ["form", "deep"] (spN K a.FC (rIsForm n))
  | 0 => by
    refine fnN F sc_is_form (fun ds Pd h => ?_) (fun cdv A outer s H E hr => ⟨_, (pss_cons (ps_if (PW.pt (pw_or (pt_not (pt_val (pe_callB (call_isiK1 (K := K)) (by rfl) T.f_isinstance (by decide +kernel) (pa_cons (pv 0) (pa_cons (pe_bltn (v := .ty "tuple") (by rfl) T.f_tuple (by decide +kernel) rfl) pa_nil))))) (pw_or (pt_cmpR op_gt (pv 1) (C8.pe_gc rfl T.g_MOST) (nomark _)) (pw_or (pt_not (pt_truth (pv 0) (by intro _; rfl))) (pw_or1 (pt_not (pt_val (pe_callB (call_isiK1 (K := K)) (by rfl) T.f_isinstance (by decide +kernel) (pa_cons (pe_ix (ix_tupK (K := K)) (pv 0) pe_int (fun _ _ => rfl)) (pa_cons (pe_bltn (v := .ty "str") (by rfl) T.f_str (by decide +kernel) rfl) pa_nil)))))))))) (pss_one (ps_ret pe_bl)) pss_nil)
    (pss_cons (ps_if (pt_cmpR (op_inKK (K := K) (w := w) T.d_LEAVES) (pe_ix (ix_tupK (K := K)) (pv 0) pe_int (fun _ _ => rfl)) (C8.pe_gc rfl T.g_LEAVES) (by rfl)) (pss_one (ps_ret (pe_and (pe_cmpR op_eq (pe_callB (call_lenK (K := K)) (by rfl) T.f_len (by decide +kernel) (pa_cons (pv 0) pa_nil)) pe_int (nomark _)) (pe_one (C8.pe_c c_is_number hr (by omega) (by rfl) (pa_cons (pe_ix (ix_tupK (K := K)) (pv 0) pe_int (fun _ _ => rfl)) (pa_cons (pe_ix (ix_kdK (K := K) (w := w)) (C8.pe_gc rfl T.g_LEAVES) (pe_ix (ix_tupK (K := K)) (pv 0) pe_int (fun _ _ => rfl)) (fun _ _ => rfl)) pa_nil))))))) pss_nil)
    (pss_cons (ps_if (PW.pt (pw_or (pt_cmpR (op_niKK (K := K) (w := w) T.d_JOINS) (pe_ix (ix_tupK (K := K)) (pv 0) pe_int (fun _ _ => rfl)) (C8.pe_gc rfl T.g_JOINS) (by rfl)) (pw_or1 (pt_cmpR op_ne (pe_callB (call_lenK (K := K)) (by rfl) T.f_len (by decide +kernel) (pa_cons (pv 0) pa_nil)) (pe_op op_add (pe_ix (ix_kdK (K := K) (w := w)) (C8.pe_gc rfl T.g_JOINS) (pe_ix (ix_tupK (K := K)) (pv 0) pe_int (fun _ _ => rfl)) (fun _ _ => rfl)) pe_int) (nomark _))))) (pss_one (ps_ret pe_bl)) pss_nil)
    (pss_one ps_never)))), ?_⟩)
    · obtain ⟨m, k, _, _, _, rfl, _⟩ := h
      rfl
    · rintro ds Pd vs Q ⟨m, k, hok, hm, hk, rfl, rfl⟩ R kq
      cases m with
      | leaf l =>
        have hlok : l.ok := hok l (List.mem_singleton.mpr rfl)
        have R0 : RepE K a.FC H [some (.tup [dz l.kind, di l.ix]), some (di (k : Int)), none] (start ["form", "deep", "part"] vs) := by
          rw [← l.d_eq]
          exact R
        refine st_seq (st_no (et_badForm (by omega) R0 rfl rfl) fun H' e => ?_)
        refine st_seq (st_yes (et_test (ev_isLeaf T l (R.mono e) rfl)) fun H2 e2 => ?_)
        have R2 := R0.mono (e.trans e2)
        refine st_ret (ev_and (b := true) ((ev_eq (x := .int 2) ((ev_lenT (ev_var R2 rfl)).to rfl) ev_c rfl).to rfl) fun _ => ev_callD (ea_cons (ev_ixT (ev_var R2 rfl) ev_c rfl) (ea_cons (ev_ixD ev_c (ev_ixT (ev_var R2 rfl) ev_c rfl) (T.lim l)) ea_nil)) ⟨_, _, rfl, rfl⟩) fun v H3 e3 r => kq _ v H3 ?_ ((e.trans e2).trans e3) r
        have hh := Lf.in_lim hlok
        show db (true && (decide (0 ≤ l.ix) && decide (l.ix < l.lim))) = db true
        rw [decide_eq_true hh.1, decide_eq_true hh.2]
        rfl
      | bin o x y => exact absurd hm (by show ¬ (_ + 1 ≤ 0); omega)
      | whn t x y => exact absurd hm (by show ¬ (_ + 1 ≤ 0); omega)
  | n + 1 => by
    have ih := ok_is_form F T mgf b c_is_number n
    have c_is_form : C8.Cal P w K mg base (n + 2) "is_form" (spN K a.FC (rIsForm n)) [] := ⟨_, _, _, _, ih, mgf, F.kp, b, .nil⟩
    refine fnN F sc_is_form (fun ds Pd h => ?_) (fun cdv A outer s H E hr => ⟨_, (pss_cons (ps_if (PW.pt (pw_or (pt_not (pt_val (pe_callB (call_isiK1 (K := K)) (by rfl) T.f_isinstance (by decide +kernel) (pa_cons (pv 0) (pa_cons (pe_bltn (v := .ty "tuple") (by rfl) T.f_tuple (by decide +kernel) rfl) pa_nil))))) (pw_or (pt_cmpR op_gt (pv 1) (C8.pe_gc rfl T.g_MOST) (nomark _)) (pw_or (pt_not (pt_truth (pv 0) (by intro _; rfl))) (pw_or1 (pt_not (pt_val (pe_callB (call_isiK1 (K := K)) (by rfl) T.f_isinstance (by decide +kernel) (pa_cons (pe_ix (ix_tupK (K := K)) (pv 0) pe_int (fun _ _ => rfl)) (pa_cons (pe_bltn (v := .ty "str") (by rfl) T.f_str (by decide +kernel) rfl) pa_nil)))))))))) (pss_one (ps_ret pe_bl)) pss_nil)
    (pss_cons (ps_if (pt_cmpR (op_inKK (K := K) (w := w) T.d_LEAVES) (pe_ix (ix_tupK (K := K)) (pv 0) pe_int (fun _ _ => rfl)) (C8.pe_gc rfl T.g_LEAVES) (by rfl)) (pss_one (ps_ret (pe_and (pe_cmpR op_eq (pe_callB (call_lenK (K := K)) (by rfl) T.f_len (by decide +kernel) (pa_cons (pv 0) pa_nil)) pe_int (nomark _)) (pe_one (C8.pe_c c_is_number hr (by omega) (by rfl) (pa_cons (pe_ix (ix_tupK (K := K)) (pv 0) pe_int (fun _ _ => rfl)) (pa_cons (pe_ix (ix_kdK (K := K) (w := w)) (C8.pe_gc rfl T.g_LEAVES) (pe_ix (ix_tupK (K := K)) (pv 0) pe_int (fun _ _ => rfl)) (fun _ _ => rfl)) pa_nil))))))) pss_nil)
    (pss_cons (ps_if (PW.pt (pw_or (pt_cmpR (op_niKK (K := K) (w := w) T.d_JOINS) (pe_ix (ix_tupK (K := K)) (pv 0) pe_int (fun _ _ => rfl)) (C8.pe_gc rfl T.g_JOINS) (by rfl)) (pw_or1 (pt_cmpR op_ne (pe_callB (call_lenK (K := K)) (by rfl) T.f_len (by decide +kernel) (pa_cons (pv 0) pa_nil)) (pe_op op_add (pe_ix (ix_kdK (K := K) (w := w)) (C8.pe_gc rfl T.g_JOINS) (pe_ix (ix_tupK (K := K)) (pv 0) pe_int (fun _ _ => rfl)) (fun _ _ => rfl)) pe_int) (nomark _))))) (pss_one (ps_ret pe_bl)) pss_nil)
    (pss_one (ps_ret (pe_callB (cr_allK (K := K) rfl) (by rfl) T.f_all (by decide +kernel) (pa_cons (pe_lc (own := [("part", 2)]) rfl sc_is_form.nd (pi_tup (pe_slice (sl_tupK (K := K)) (pv 0) (po_some pe_int) po_none)) (blkOk_by (own := [("part", 2)]) (N := ["form", "deep", "part"]) (sc := defScope s_is_form) (by decide +kernel)) (fun _ _ _ _ _ => (pg_name (i := 2) sc_is_form.nd rfl (.inl rfl))) (fun _ _ _ _ _ => pts_nil) (fun _ _ _ _ _ => (C8.pe_c c_is_form hr (by omega) (by rfl) (pa_cons (pv 2) (pa_cons (pe_op op_add (pv 1) pe_int) pa_nil))))) pa_nil))))))), ?_⟩)
    · obtain ⟨m, k, _, _, _, rfl, _⟩ := h
      rfl
    · rintro ds Pd vs Q ⟨m, k, hok, hm, hk, rfl, rfl⟩ R kq
      have two : (∃ l, m = .leaf l) ∨ ∃ (z : Str) (ms : List Fm) (i : Int), m.d = .tup (dz z :: ms.map Fm.d) ∧ z ∈ (["sum", "less", "times", "same", "when"] : List Str) ∧ (z, i) ∈ ([("sum", 2), ("less", 2), ("times", 2), ("same", 2), ("when", 3)] : List (Str × Int)) ∧ i = (ms.length : Int) ∧
          (∀ x ∈ ms, x.ok ∧ x.depth ≤ n ∧ k + 1 + x.depth ≤ 9) ∧ ms.length ≤ 3 := by
        cases m with
        | leaf l => exact .inl ⟨l, rfl⟩
        | bin o x y =>
          have hm : max x.depth y.depth + 1 ≤ n + 1 := hm
          have hk : k + (max x.depth y.depth + 1) ≤ 9 := hk
          refine .inr ⟨o.s, [x, y], 2, rfl, o.s_in, by cases o <;> simp [Bw.s], rfl, fun u hu => ?_, by show 2 ≤ 3; decide⟩
          rcases List.mem_cons.mp hu with rfl | hu
          · exact ⟨fun l hl => hok l (List.mem_append_left _ hl), by omega, by omega⟩
          · cases List.mem_singleton.mp hu
            exact ⟨fun l hl => hok l (List.mem_append_right _ hl), by omega, by omega⟩
        | whn t x y =>
          have hm : max t.depth (max x.depth y.depth) + 1 ≤ n + 1 := hm
          have hk : k + (max t.depth (max x.depth y.depth) + 1) ≤ 9 := hk
          refine .inr ⟨"when", [t, x, y], 3, rfl, by simp, by simp, rfl, fun u hu => ?_, by show 3 ≤ 3; decide⟩
          rcases List.mem_cons.mp hu with rfl | hu
          · exact ⟨fun l hl => hok l (List.mem_append_left _ hl), by omega, by omega⟩
          · rcases List.mem_cons.mp hu with rfl | hu
            · exact ⟨fun l hl => hok l (List.mem_append_right _ (List.mem_append_left _ hl)), by omega, by omega⟩
            · cases List.mem_singleton.mp hu
              exact ⟨fun l hl => hok l (List.mem_append_right _ (List.mem_append_right _ hl)), by omega, by omega⟩
      rcases two with ⟨l, rfl⟩ | ⟨z, ms, i, e0, hz, hi, hlen, hparts, h3⟩
      · have hlok : l.ok := hok l (List.mem_singleton.mpr rfl)
        have R0 : RepE K a.FC H [some (.tup [dz l.kind, di l.ix]), some (di (k : Int)), none] (start ["form", "deep", "part"] vs) := by
          rw [← l.d_eq]
          exact R
        refine st_seq (st_no (et_badForm (by omega) R0 rfl rfl) fun H' e => ?_)
        refine st_seq (st_yes (et_test (ev_isLeaf T l (R.mono e) rfl)) fun H2 e2 => ?_)
        have R2 := R0.mono (e.trans e2)
        refine st_ret (ev_and (b := true) ((ev_eq (x := .int 2) ((ev_lenT (ev_var R2 rfl)).to rfl) ev_c rfl).to rfl) fun _ => ev_callD (ea_cons (ev_ixT (ev_var R2 rfl) ev_c rfl) (ea_cons (ev_ixD ev_c (ev_ixT (ev_var R2 rfl) ev_c rfl) (T.lim l)) ea_nil)) ⟨_, _, rfl, rfl⟩) fun v H3 e3 r => kq _ v H3 ?_ ((e.trans e2).trans e3) r
        have hh := Lf.in_lim hlok
        show db (true && (decide (0 ≤ l.ix) && decide (l.ix < l.lim))) = db true
        rw [decide_eq_true hh.1, decide_eq_true hh.2]
        rfl
      · rw [e0] at R
        obtain ⟨kd, u, hu⟩ := T.join hi
        refine st_seq (st_no (et_badForm (by omega) R rfl rfl) fun H' e => ?_)
        refine st_seq (st_no (et_test (ev_noLeaf T (R.mono e) rfl hz)) fun H2 e2 => ?_)
        have R2 := R.mono (e.trans e2)
        refine st_skipS ((et_or (et_test (ev_inD (o := some u) (ev_ixT (ev_var R2 rfl) ev_c atI_zero) ev_c hu)) fun _ => et_test (ev_ne (ev_lenT (ev_var R2 rfl)) (ev_add (ev_ixD ev_c (ev_ixT (ev_var R2 rfl) ev_c atI_zero) kd) ev_c) rfl)).to ?_) fun H3 e3 => ?_
        · rw [hlen, List.length_cons, List.length_map]
          have e4 : decide (V.int ((ms.length + 1 : Nat) : Int) = V.int ((ms.length : Int) + 1)) = true := decide_eq_true (by rw [Int.natCast_add]; rfl)
          rw [e4]
          rfl
        have R3 := R2.mono e3
        have hc : EvL K a.FC _ (start ["form", "deep", "part"] vs) H3 (ms.map fun _ => db true) := el_map (α := Fm) (xs := ms) (dof := Fm.d) (f := fun _ => db true) (vs := [2]) (wi := iTup K (tSl (rSlA K) (tVar 0) (tPart (tC (.int 1))) tNoPart)) (g := gName 2) (te := tCall (spN K a.FC (rIsForm n)) [] C8.E0 (tCons (tVar 2) (tCons (tOp (rI0 fun i j => .int (i + j)) (tVar 1) (tC (.int 1))) tNil))) R3 (evi_tup ((ev_slT (ev_var (n := 0) R3 rfl) eo_c eo_none).to (by rw [cut1]))) (fun x _ => bind_name (List.mem_singleton.mpr rfl)) (fun x hx σ' H' e' R' => ?_) (fun _ _ => .at _) (Nat.le_trans h3 (by decide))
        · refine st_ret (d := db true) ?_ fun v H4 e4 r => kq _ v H4 rfl (((e.trans e2).trans e3).trans e4) r
          refine (ev_all (bs := ms.map fun _ => true) ?_).to (by rw [all_true])
          rw [List.map_map]
          exact hc
        · exact ev_callD (ea_cons (ev_var R' rfl) (ea_cons (ev_add (ev_var R' rfl) ev_c) ea_nil)) ⟨x, k + 1, (hparts x hx).1, (hparts x hx).2.1, (hparts x hx).2.2, by rw [Int.natCast_add]; rfl, rfl⟩
end
end T34

/-! Kd5 -/
set_option maxHeartbeats 4000000
namespace T34
open PySem PySem.Spec PyProof.Rows L2
local macro_rules | `(tactic| walk_at "ev") => `(tactic| (first
  | (with_reducible exact ev_c)
  | ((with_reducible refine' ev_var ?R ?h); (case R => assumption); (case h => rfl))
  | (with_reducible refine' ea_cons ?_ ?_)
  | (with_reducible exact ea_nil)
  | (with_reducible refine' ev_add ?_ ?_)
  | (with_reducible refine' ev_sub ?_ ?_)
  | (with_reducible refine' ev_mul ?_ ?_ ?_)
  | (with_reducible refine' ev_mod ?_ ?_ ?_)
  | (with_reducible refine' ev_div ?_ ?_ ?_)
  | (with_reducible refine' ev_lt ?_ ?_)
  | (with_reducible refine' ev_le ?_ ?_)
  | (with_reducible refine' ev_gt ?_ ?_)
  | (with_reducible refine' ev_ge ?_ ?_)
  | (with_reducible refine' ev_int ?_)
  | (with_reducible refine' ev_not ?_)
  | (with_reducible refine' ev_tup ?_)
  | (with_reducible refine' ev_between ?_ ?_ ?_)
  | (with_reducible refine' et_test ?_)
  | (with_reducible refine' et_B ?_)
  | (with_reducible refine' et_not ?_)))
section
variable {P : Program} {w : World} {K : PySem.W.Frag} {mg : Str → Option Value} {base : Heap} {a : Ad} {f : Addr} {fd : FuncData} {dvs : List V}
abbrev s_Recipe___init__ : Stmt := inClass (top 25) 0
theorem sc_Recipe___init__ : FnScope ["self", "form"] ["self", "form"] (defScope s_Recipe___init__) := ⟨rfl, rfl, rfl, by decide +kernel, rfl, by decide +kernel, by decide +kernel⟩
abbrev recD (C : Addr) (m : Fm) : D := .obj C [("form", m.d)]
def rRecipe : List D → Str → D → Prop := fun ds g d => ∃ m : Fm, m.ok ∧ m.depth ≤ 5 ∧ m.lvs.length ≤ 9 ∧ ds = [m.d] ∧ g = "form" ∧ d = m.d
theorem ok_Rinit (F : FnP K "__init__" "Recipe.__init__" s_Recipe___init__ f fd) (T : Tx K w mg a) (c_is_form : C8.Cal P w K mg base 7 "is_form" (spN K a.FC (rIsForm 5)) [.int 0]) (c_leaves_of : C8.Cal P w K mg base 6 "leaves_of" (spL K a.FC (rLeaves 5)) []) :
    FnOk P w K mg base CX0 8 f fd ["self", "form"] (spI K a.FC a.CR rRecipe) := by
  refine fnI F sc_Recipe___init__ (fun ds g d h => ?_) (fun cdv A outer s H E hr => ⟨_, (pss_cons (ps_if (PW.pt (pw_or (pt_not (pt_val (C8.pe_c c_is_form hr (by omega) (by rfl) (pa_cons (pv 1) pa_nil)))) (pw_or1 (pt_cmpR op_gt (pe_callB (call_lenK (K := K)) (by rfl) T.f_len (by decide +kernel) (pa_cons (C8.pe_c c_leaves_of hr (by omega) (by rfl) (pa_cons (pv 1) pa_nil)) pa_nil)) (C8.pe_gc rfl T.g_MOST) (nomark _))))) (pss_one ps_never) pss_nil)
    (pss_one (ps_fld (pv 0) (pv 1) rfl))), ?_⟩)
  · obtain ⟨m, _, _, _, rfl, _⟩ := h
    rfl
  · rintro p dx ds g d vs Q ⟨m, hok, hdep, hlen, rfl, rfl, rfl⟩ hp R h0 k
    refine st_skipS ((et_or (et_not (et_B (ev_callDd (d := db true) (dvs := [.int 0]) (ea_cons (ev_var R rfl) ea_nil) ⟨m, 0, hok, hdep, by omega, rfl, rfl⟩))) fun _ => et_test (ev_gt (ev_lenL (el_call (ea_cons (ev_var R rfl) ea_nil) ⟨m, hdep, by omega, rfl, rfl⟩).toD) ev_c)).to ?_) fun H1 e1 => ?_
    · have e : decide ((9 : Int) < ((m.lvs.map Lf.d).length : Int)) = false := decide_eq_false (by rw [List.length_map]; omega)
      rw [e]
      rfl
    · exact st_fld h0 (e1 _ _ hp) T.oR.cl T.nRform (by show 0 < 1000; decide) (ev_var (R.mono e1) rfl) fun v H' e r hp' => k v H' (e1.trans e) r m.noL
abbrev s_Recipe_names : Stmt := inClass (top 25) 5
theorem sc_Recipe_names : FnScope ["self", "found", "leaf", "name"] ["self"] (defScope s_Recipe_names) := ⟨rfl, rfl, rfl, by decide +kernel, rfl, by decide +kernel, by decide +kernel⟩
def Lf.isNm : Lf → Bool
  | .num _ => false
  | .nm _ => true
def Lf.nD : Lf → D
  | .num _ => dn
  | .nm x => nmD x
def nmsOf : List Lf → List Nm
  | [] => []
  | .num _ :: r => nmsOf r
  | .nm x :: r => x :: nmsOf r
theorem nmsOf_eq : ∀ l : List Lf, (l.filter Lf.isNm).map Lf.nD = (nmsOf l).map nmD
  | [] => rfl
  | .num i :: r => nmsOf_eq r
  | .nm x :: r => congrArg (nmD x :: ·) (nmsOf_eq r)
theorem mem_nmsOf {x : Nm} : ∀ {l : List Lf}, x ∈ nmsOf l ↔ Lf.nm x ∈ l
  | [] => ⟨fun h => (nomatch h), fun h => (nomatch h)⟩
  | .num i :: r => by
    rw [nmsOf, mem_nmsOf (l := r)]
    exact ⟨fun h => List.mem_cons_of_mem _ h, fun h => by rcases List.mem_cons.mp h with h | h; cases h; exact h⟩
  | .nm y :: r => by
    rw [nmsOf, List.mem_cons, List.mem_cons, mem_nmsOf (l := r)]
    exact ⟨fun h => h.imp (fun e => by rw [e]) id, fun h => h.imp (fun e => by cases e; rfl) id⟩
def setOf (l : List Nm) : List Nm := Nm.all.filter fun x => decide (x ∈ l)
theorem mem_setOf {x : Nm} {l : List Nm} : x ∈ setOf l ↔ x ∈ l := by
  unfold setOf
  rw [List.mem_filter]
  exact ⟨fun h => of_decide_eq_true h.2, fun h => ⟨x.mem_all, decide_eq_true h⟩⟩
theorem setOf_len (l : List Nm) : (setOf l).length ≤ 7 := Nat.le_trans (List.length_filter_le _ _) (by decide)
/-- [name for name in every_name() if name in found] -/
theorem el_filter {FC : Addr → Prop} {ρ : SD} {σ : L2.St} {H : Hp} {te : TE} {tb : TE} {l : List Nm} {n : Nat} (R : RepE K FC H ρ σ) (hn : n < ρ.length) (hi : EvD K FC te σ H (.lst (Nm.all.map nmD)))
    (hb : ∀ ρ' σ' H', Same H H' → RepE K FC H' ρ' σ' → (∀ j d, j ≠ n → ρ[j]? = some (some d) → ρ'[j]? = some (some d)) → EvD K FC tb σ' H' (.lst (l.map nmD)) ∨ EvD K FC tb σ' H' (.tup (l.map nmD))) :
    EvL K FC (tLc (iList K te) (gName n) (tTest (tOp (rIn K false) (tVar n) tb)) (tVar n) [n]) σ H ((setOf l).map nmD) := by
  have hw : (wipeD ρ [n]).length = ρ.length := by show (List.set _ _ _).length = _; rw [List.length_set]; rfl
  refine el_lc (α := Nm) (xs := Nm.all) (dof := nmD) (p := fun x => decide (x ∈ l)) (f := nmD) R (evi_list hi) (fun x _ => bind_name (List.mem_singleton.mpr rfl)) (fun x _ σ' H' e R' => ?_) (fun x _ _ σ' H' e R' => ev_var R' (List.getElem?_set_self (by rw [hw]; exact hn))) (fun _ _ => .at _) (by decide)
  have hx : EvD K FC (tVar n) σ' H' (nmD x) := ev_var R' (List.getElem?_set_self (by rw [hw]; exact hn))
  have hj : ∀ j d, j ≠ n → ρ[j]? = some (some d) → ((wipeD ρ [n]).set n (some (nmD x)))[j]? = some (some d) := fun j d hj h => by
    rw [List.getElem?_set_ne (Ne.symm hj)]
    show (ρ.set n none)[j]? = _
    rw [List.getElem?_set_ne (Ne.symm hj)]
    exact h
  rcases hb _ σ' H' e R' hj with h | h
  · refine (et_test (ev_inL (neg := false) (l := l.map Nm.s) hx (by rw [List.map_map]; exact h))).to ?_
    show decide (x.s ∈ l.map Nm.s) = _
    rw [mem_nms]
  · refine (et_test (ev_inT (neg := false) (l := l.map Nm.s) hx (by rw [List.map_map]; exact h))).to ?_
    show decide (x.s ∈ l.map Nm.s) = _
    rw [mem_nms]
def rRnames (C : Addr) : List D → (D → Prop) → Prop := fun ds Pd => ∃ m : Fm, m.depth ≤ 5 ∧ m.lvs.length ≤ 9 ∧ ds = [recD C m] ∧ Pd = fun d => d = .tup ((setOf (nmsOf m.lvs)).map nmD)
theorem ok_Rnames (F : FnP K "names" "Recipe.names" s_Recipe_names f fd) (T : Tx K w mg a) (c_name_of : C8.Cal P w K mg base 1 "name_of" (spN K a.FC rNameOf) []) (c_leaves_of : C8.Cal P w K mg base 6 "leaves_of" (spL K a.FC (rLeaves 5)) [])
    (c_every_name : C8.Cal P w K mg base 1 "every_name" (spL K a.FC rEvery) []) : FnOk P w K mg base CX0 7 f fd ["self"] (spN K a.FC (rRnames a.CR)) := by
  refine fnN F sc_Recipe_names (fun ds Pd h => ?_) (fun cdv A outer s H E hr => ⟨_, (pss_cons (ps_set (i := 1) sc_Recipe_names.nd rfl (Or.inr rfl) (pe_lc (own := [("leaf", 2)]) rfl sc_Recipe_names.nd (pi_list (C8.pe_c c_leaves_of hr (by omega) (by rfl) (pa_cons (pe_fldK (K := K) (pv 0)) pa_nil))) (blkOk_by (own := [("leaf", 2)]) (N := ["self", "found", "leaf", "name"]) (sc := defScope s_Recipe_names) (by decide +kernel)) (fun _ _ _ _ _ => (pg_name (i := 2) sc_Recipe_names.nd rfl (.inl rfl))) (fun _ _ _ _ _ => (pts_one (pt_cmpR op_ne (pe_ix (ix_tupK (K := K)) (pv 2) pe_int (fun _ _ => rfl)) pe_str (nomark _)))) (fun _ _ _ _ _ => (C8.pe_c c_name_of hr (by omega) (by rfl) (pa_cons (pv 2) pa_nil)))))
    (pss_one (ps_ret (pe_callTy (call_tupK (K := K)) (by rfl) T.f_tuple (by decide +kernel) (pa_cons (pe_lc (own := [("name", 3)]) rfl sc_Recipe_names.nd (pi_list (pe_c0 c_every_name hr (by omega) (by rfl))) (blkOk_by (own := [("name", 3)]) (N := ["self", "found", "leaf", "name"]) (sc := defScope s_Recipe_names) (by decide +kernel)) (fun _ _ _ _ _ => (pg_name (i := 3) sc_Recipe_names.nd rfl (.inl rfl))) (fun _ _ _ _ _ => (pts_one (pt_cmpR (op_inQ (K := K)) (pv 3) (pv 1) (by rfl)))) (fun _ _ _ _ _ => (pv 3))) pa_nil))))), ?_⟩)
  · obtain ⟨m, _, _, rfl, _⟩ := h
    rfl
  · rintro ds Pd vs Q ⟨m, hdep, hlen, rfl, rfl⟩ R k
    have h1 : EvL K a.FC (tLc (iList K (tCall (spL K a.FC (rLeaves 5)) [] C8.E0 (tCons (tFld K (tVar 0) "form") tNil))) (gName 2) (tTest (tOp rNe (tOp (rIxT K) (tVar 2) (tC (.int 0))) (tC (.str "number")))) (tCall (spN K a.FC rNameOf) [] C8.E0 (tCons (tVar 2) tNil)) [2]) (start ["self", "found", "leaf", "name"] vs) H ((m.lvs.filter Lf.isNm).map Lf.nD) := by
      refine el_lc (α := Lf) (xs := m.lvs) (dof := Lf.d) (p := Lf.isNm) (f := Lf.nD) R (evi_list (el_call (ea_cons (ev_fld (ev_var R rfl) T.oR.cl T.nRform rfl) ea_nil) ⟨m, hdep, by omega, rfl, rfl⟩).toD) (fun x _ => bind_name (List.mem_singleton.mpr rfl)) (fun l _ σ' H' e R' => ?_) (fun l _ hl σ' H' e R' => ?_) (fun l _ => ?_) (by omega)
      · cases l with
        | num i => exact (et_test (ev_ne (ev_ixT (ev_var R' rfl) ev_c rfl) ev_c rfl)).to (by show (!decide (V.str "number" = V.str "number")) = false; decide +kernel)
        | nm x => exact (et_test (ev_ne (ev_ixT (ev_var R' rfl) ev_c rfl) ev_c rfl)).to (by cases x <;> decide +kernel)
      · cases l with
        | num i => cases hl
        | nm x => exact ev_callD (ea_cons (ev_var R' rfl) ea_nil) ⟨x, rfl, rfl⟩
      · cases l <;> exact .at _
    rw [nmsOf_eq] at h1
    refine st_seq (st_set R h1.toD fun v H1 e1 r1 R1 => ?_)
    refine st_ret (ev_tupL (el_filter (n := 3) (l := nmsOf m.lvs) R1 (by show 3 < 4; decide) (el_call ea_nil ⟨rfl, rfl⟩).toD fun ρ' σ' H' e R' hj => .inl (ev_var R' (hj 1 _ (by decide) rfl)))) fun v H2 e2 r2 => k _ v H2 rfl (e1.trans e2) r2
abbrev s_Key___init__ : Stmt := inClass (top 29) 0
theorem sc_Key___init__ : FnScope ["self", "names", "name"] ["self", "names"] (defScope s_Key___init__) := ⟨rfl, rfl, rfl, by decide +kernel, rfl, by decide +kernel, by decide +kernel⟩
def rKey : List D → Str → D → Prop := fun ds g d => ∃ l : List Nm, l.length ≤ 10 ∧ ds = [.tup (l.map nmD)] ∧ g = "row" ∧ d = .tup ((setOf l).map nmD)
theorem kit_tupLT : PySem.W.kitAny K (.type "tuple") [.type "list", .type "tuple"] = some true :=
  kitAny_cons (b := false) (kit_ty (by decide +kernel)) (fun _ => kitAny_cons (b := true) (kit_ty (by decide +kernel)) (fun q => nomatch q) fun _ => rfl) (fun q => nomatch q)
theorem ok_Kinit (F : FunD K "__init__" "Key.__init__" (defArgs s_Key___init__) (defBody s_Key___init__) (defScope s_Key___init__) dvs [] f fd) (T : Tx K w mg a) (c_is_name : C8.Cal P w K mg base 2 "is_name" (spN K a.FC rIsName) []) (c_every_name : C8.Cal P w K mg base 1 "every_name" (spL K a.FC rEvery) []) :
    FnOk P w K mg base CX0 3 f fd ["self", "names"] (spI K a.FC a.CK rKey) := by
  refine fnI F sc_Key___init__ (fun ds g d h => ?_) (fun cdv A outer s H E hr => ⟨_, (pss_cons (ps_if (PW.pt (pw_or (pt_not (pt_val (pe_callB (call_isiTK (K := K)) (by rfl) T.f_isinstance (by decide +kernel) (pa_cons (pv 1) (pa_cons (pe_tup (pa_cons (pe_bltn (v := .ty "list") (by rfl) T.f_list (by decide +kernel) rfl) (pa_cons (pe_bltn (v := .ty "tuple") (by rfl) T.f_tuple (by decide +kernel) rfl) pa_nil))) pa_nil))))) (pw_or1 (pt_not (pt_val (pe_callB (cr_allK (K := K) rfl) (by rfl) T.f_all (by decide +kernel) (pa_cons (pe_lc (own := [("name", 2)]) rfl sc_Key___init__.nd (pi_tup (pv 1)) (blkOk_by (own := [("name", 2)]) (N := ["self", "names", "name"]) (sc := defScope s_Key___init__) (by decide +kernel)) (fun _ _ _ _ _ => (pg_name (i := 2) sc_Key___init__.nd rfl (.inl rfl))) (fun _ _ _ _ _ => pts_nil) (fun _ _ _ _ _ => (C8.pe_c c_is_name hr (by omega) (by rfl) (pa_cons (pv 2) pa_nil)))) pa_nil))))))) (pss_one ps_never) pss_nil)
    (pss_one (ps_fld (pv 0) (pe_callTy (call_tupK (K := K)) (by rfl) T.f_tuple (by decide +kernel) (pa_cons (pe_lc (own := [("name", 2)]) rfl sc_Key___init__.nd (pi_list (pe_c0 c_every_name hr (by omega) (by rfl))) (blkOk_by (own := [("name", 2)]) (N := ["self", "names", "name"]) (sc := defScope s_Key___init__) (by decide +kernel)) (fun _ _ _ _ _ => (pg_name (i := 2) sc_Key___init__.nd rfl (.inl rfl))) (fun _ _ _ _ _ => (pts_one (pt_cmpR (op_inQ (K := K)) (pv 2) (pv 1) (by rfl)))) (fun _ _ _ _ _ => (pv 2))) pa_nil)) rfl))), ?_⟩)
  · obtain ⟨m, _, rfl, _⟩ := h
    rfl
  · rintro p dx ds g d vs Q ⟨l, hlen, rfl, rfl, rfl⟩ hp R h0 k
    have h1 : EvL K a.FC (tLc (iTup K (tVar 1)) (gName 2) tYes (tCall (spN K a.FC rIsName) [] C8.E0 (tCons (tVar 2) tNil)) [2]) (start ["self", "names", "name"] vs) H (l.map fun _ => db true) :=
      el_map (α := Nm) (xs := l) (dof := nmD) (f := fun _ => db true) R (evi_tup (ev_var R rfl)) (fun x _ => bind_name (List.mem_singleton.mpr rfl)) (fun x _ σ' H' e R' => ev_callD (ea_cons (ev_var R' rfl) ea_nil) ⟨x, rfl, rfl⟩) (fun _ _ => .at _) (by omega)
    refine st_skipS ((et_or (et_not (et_B (ev_isiT (b := true) (cs := [.ty "list", .ty "tuple"]) (ev_var R rfl) (.tup _) (ea_cons ev_c (ea_cons ev_c ea_nil)) (.cons (.ty "list") (.cons (.ty "tuple") .nil)) kit_tupLT))) fun _ => et_not (et_B (ev_all (bs := l.map fun _ => true) (by rw [List.map_map]; exact h1)))).to (by rw [all_true]; rfl)) fun H1 e1 => ?_
    have R1 := R.mono e1
    refine st_fld h0 (e1 _ _ hp) T.oK.cl T.nKrow (by show 0 < 1000; decide) (ev_tupL (el_filter (n := 2) (l := l) R1 (by show 2 < 3; decide) (el_call ea_nil ⟨rfl, rfl⟩).toD fun ρ' σ' H' e R' hj => .inr (ev_var R' (hj 1 _ (by decide) rfl)))) fun v H' e r hp' => k v H' (e1.trans e) r (.tup (nms_noL _))
abbrev s_Key_names : Stmt := inClass (top 29) 2
theorem sc_Key_names : FnScope ["self"] ["self"] (defScope s_Key_names) := ⟨rfl, rfl, rfl, by decide +kernel, rfl, by decide +kernel, by decide +kernel⟩
abbrev keyD (C : Addr) (l : List Nm) : D := .obj C [("row", .tup (l.map nmD))]
def rKnames (C : Addr) : List D → (D → Prop) → Prop := fun ds Pd => ∃ l : List Nm, ds = [keyD C l] ∧ Pd = fun d => d = .tup (l.map nmD)
theorem ok_Knames (F : FnP K "names" "Key.names" s_Key_names f fd) (T : Tx K w mg a) : FnOk P w K mg base CX0 1 f fd ["self"] (spN K a.FC (rKnames a.CK)) := by
  refine fnN F sc_Key_names (fun ds Pd h => ?_) (fun cdv A outer s H E hr => ⟨_, (pss_one (ps_ret (pe_fldK (K := K) (pv 0)))), ?_⟩)
  · obtain ⟨l, rfl, _⟩ := h
    rfl
  · rintro ds Pd vs Q ⟨l, rfl, rfl⟩ R k
    exact st_ret (ev_fld (ev_var R rfl) T.oK.cl T.nKrow rfl) fun v H1 e1 r1 => k _ v H1 rfl e1 r1
/-! ### rules -/
inductive Rl
  | none | reads | shown
  | key (l : List Nm)
def Rl.d (C : Addr) : Rl → D
  | .none => dn
  | .reads => dz "reads"
  | .shown => dz "shown"
  | .key l => keyD C l
def Rl.ok (ns : List Nm) : Rl → Prop
  | .key l => l.length ≤ 7 ∧ ∀ x ∈ l, x ∈ ns
  | _ => True
theorem Rl.noL (C : Addr) (r : Rl) : NoL (r.d C) := by
  cases r with
  | key l => exact .obj (.cons (.tup (nms_noL _)) .nil)
  | _ => exact .at _
abbrev s_is_rule : Stmt := top 35
theorem sc_is_rule : FnScope ["rule", "names", "name"] ["rule", "names"] (defScope s_is_rule) := ⟨rfl, rfl, rfl, by decide +kernel, rfl, by decide +kernel, by decide +kernel⟩
def rIsRule (C : Addr) : List D → (D → Prop) → Prop := fun ds Pd => ∃ (r : Rl) (ns : List Nm), r.ok ns ∧ ds = [r.d C, .lst (ns.map nmD)] ∧ Pd = fun d => d = db true
theorem ev_isNo {FC : Addr → Prop} {σ : L2.St} {H : Hp} {te : TE} {C : Addr} {fs : List (Str × D)} (ha : EvD K FC te σ H (.obj C fs)) : EvD K FC (tIsN te) σ H (db false) := fun H1 e Q q => ha H1 e _ fun v H2 e2 r => by
  obtain ⟨p, dx, gs, rfl, _⟩ := r.obj_inv
  exact q _ H2 e2 (.at _)
/-- all([name in names for name in xs]) -/
theorem ev_allIn {FC : Addr → Prop} {ρ : SD} {σ : L2.St} {H : Hp} {te tb : TE} {l ns : List Nm} {n : Nat} (R : RepE K FC H ρ σ) (hn : n < ρ.length) (hi : EvD K FC te σ H (.tup (l.map nmD))) (hsub : ∀ x ∈ l, x ∈ ns) (hl : l.length ≤ 100)
    (hb : ∀ ρ' σ' H', Same H H' → RepE K FC H' ρ' σ' → (∀ j d, j ≠ n → ρ[j]? = some (some d) → ρ'[j]? = some (some d)) → EvD K FC tb σ' H' (.lst (ns.map nmD))) :
    EvD K FC (tCB (rAll K) (tCons (tLc (iTup K te) (gName n) tYes (tOp (rIn K false) (tVar n) tb) [n]) tNil)) σ H (db true) := by
  have hw : (wipeD ρ [n]).length = ρ.length := by show (List.set _ _ _).length = _; rw [List.length_set]; rfl
  have h1 : EvL K FC (tLc (iTup K te) (gName n) tYes (tOp (rIn K false) (tVar n) tb) [n]) σ H (l.map fun _ => db true) := by
    refine el_map (α := Nm) (xs := l) (dof := nmD) (f := fun _ => db true) R (evi_tup hi) (fun x _ => bind_name (List.mem_singleton.mpr rfl)) (fun x hx σ' H' e R' => ?_) (fun _ _ => .at _) (by omega)
    have hj : ∀ j d, j ≠ n → ρ[j]? = some (some d) → ((wipeD ρ [n]).set n (some (nmD x)))[j]? = some (some d) := fun j d hj h => by
      rw [List.getElem?_set_ne (Ne.symm hj)]
      show (ρ.set n none)[j]? = _
      rw [List.getElem?_set_ne (Ne.symm hj)]
      exact h
    refine (ev_inL (neg := false) (l := ns.map Nm.s) (ev_var R' (List.getElem?_set_self (by rw [hw]; exact hn))) (by rw [List.map_map]; exact hb _ σ' H' e R' hj)).to ?_
    show db (decide (x.s ∈ ns.map Nm.s)) = _
    rw [mem_nms, decide_eq_true (hsub x hx)]
  exact (ev_all (bs := l.map fun _ => true) (by rw [List.map_map]; exact h1)).to (by rw [all_true])
theorem ok_is_rule (F : FnP K "is_rule" "is_rule" s_is_rule f fd) (T : Tx K w mg a) (p_Knames : Prp P w K mg base 1 a.CK "names" (spN K a.FC (rKnames a.CK))) : FnOk P w K mg base CX0 3 f fd ["rule", "names"] (spN K a.FC (rIsRule a.CK)) := by
  refine fnN F sc_is_rule (fun ds Pd h => ?_) (fun cdv A outer s H E hr => ⟨_, (pss_cons (ps_if (pt_cmp (pc_isN (pv 0)) rfl) (pss_one (ps_ret pe_bl)) pss_nil)
    (pss_cons (ps_if (pt_val (pe_callB (call_isiK1 (K := K)) (by rfl) T.f_isinstance (by decide +kernel) (pa_cons (pv 0) (pa_cons (C8.pe_gc rfl T.c_Key) pa_nil)))) (pss_one (ps_ret (pe_callB (cr_allK (K := K) rfl) (by rfl) T.f_all (by decide +kernel) (pa_cons (pe_lc (own := [("name", 2)]) rfl sc_is_rule.nd (pi_tup (pe_pp p_Knames hr (by omega) (pv 0))) (blkOk_by (own := [("name", 2)]) (N := ["rule", "names", "name"]) (sc := defScope s_is_rule) (by decide +kernel)) (fun _ _ _ _ _ => (pg_name (i := 2) sc_is_rule.nd rfl (.inl rfl))) (fun _ _ _ _ _ => pts_nil) (fun _ _ _ _ _ => (pe_cmpR (op_inQ (K := K)) (pv 2) (pv 1) (by rfl)))) pa_nil)))) pss_nil)
    (pss_one (ps_ret (pe_and (pe_callB (call_isiK1 (K := K)) (by rfl) T.f_isinstance (by decide +kernel) (pa_cons (pv 0) (pa_cons (pe_bltn (v := .ty "str") (by rfl) T.f_str (by decide +kernel) rfl) pa_nil))) (pe_one (pe_cmpR (op_inQ (K := K)) (pv 0) (C8.pe_gc rfl T.g_TRACKED) (by rfl)))))))), ?_⟩)
  · obtain ⟨r, ns, _, rfl, _⟩ := h
    rfl
  · rintro ds Pd vs Q ⟨r, ns, hr, rfl, rfl⟩ R k
    cases r with
    | none => exact st_seq (st_yes (et_B ((ev_isN (ev_var R rfl)).to rfl)) fun H1 e1 => st_ret ev_c fun v H2 e2 r2 => k _ v H2 rfl (e1.trans e2) r2)
    | reads =>
      refine st_skipS (et_B ((ev_isN (ev_var R rfl)).to rfl)) fun H1 e1 => ?_
      refine st_skipS (et_B (ev_isi (ev_var (R.mono e1) rfl) (.str _) ev_c (.own _) T.kSK)) fun H2 e2 => ?_
      have R2 := R.mono (e1.trans e2)
      refine st_ret ((ev_and (b := true) (ev_isi (ev_var R2 rfl) (.str _) ev_c (.ty "str") (kit_ty (by decide +kernel))) fun _ => ev_inT (neg := false) (l := ["reads", "shown"]) (ev_var R2 rfl) (ev_gT T.t_TRACKED)).to (d' := db true) (congrArg db (by decide +kernel))) fun v H3 e3 r3 => k _ v H3 rfl ((e1.trans e2).trans e3) r3
    | shown =>
      refine st_skipS (et_B ((ev_isN (ev_var R rfl)).to rfl)) fun H1 e1 => ?_
      refine st_skipS (et_B (ev_isi (ev_var (R.mono e1) rfl) (.str _) ev_c (.own _) T.kSK)) fun H2 e2 => ?_
      have R2 := R.mono (e1.trans e2)
      refine st_ret ((ev_and (b := true) (ev_isi (ev_var R2 rfl) (.str _) ev_c (.ty "str") (kit_ty (by decide +kernel))) fun _ => ev_inT (neg := false) (l := ["reads", "shown"]) (ev_var R2 rfl) (ev_gT T.t_TRACKED)).to (d' := db true) (congrArg db (by decide +kernel))) fun v H3 e3 r3 => k _ v H3 rfl ((e1.trans e2).trans e3) r3
    | key l =>
      refine st_skipS (et_B (ev_isNo (ev_var R rfl))) fun H1 e1 => ?_
      refine st_seq (st_yes (et_B (ev_isi (ev_var (R.mono e1) rfl) (.obj _ T.oK) ev_c (.own _) T.kKK)) fun H2 e2 => ?_)
      have R2 := R.mono (e1.trans e2)
      exact st_ret (ev_allIn (n := 2) (ns := ns) R2 (by show 2 < 3; decide) (ev_prop (ev_var R2 rfl) ⟨l, rfl, rfl⟩) hr.2 (by have := hr.1; omega) fun ρ' σ' H' e R' hj => ev_var R' (hj 1 _ (by decide) rfl)) fun v H3 e3 r3 => k _ v H3 rfl ((e1.trans e2).trans e3) r3
end
end T34

/-! K34d -/
set_option maxHeartbeats 4000000
/-! Rules of this claim's own: len of an own instance, enumerate and zip over tuples, a tuple times 0, 1 or more, what is never reached. -/
namespace T34
open PySem PySem.Spec PyProof.Rows L2
section
variable {X : Cx}
theorem pe_no {e : Expr} : PE X e (fun _ _ _ => False) := ⟨fun _ _ _ _ _ _ h => h.elim⟩
/-- len(x), x an instance whose class has a len of its own -/
structure LenO (P : Program) (w : World) (K : PySem.W.Frag) (mg : Str → Option Value) (base : Heap) (k : Nat) (C : Addr) (sp : Sp) : Prop where
  ex : ∃ g : Addr, PySem.W.findIn K (.ref C) "__len__" = some (some (.ref g)) ∧ PySem.W.isFn K (.ref g) = true ∧ FnR P w K mg base CX0 k g sp
def rLenO (C : Addr) (sp : Sp) : List V → Hp → VK → Prop := fun xs H Q => ∃ a dx fs, xs = [.ref a] ∧ H a = some (.ins C dx fs) ∧ sp [.ref a] H (fun v H' => ∃ n : Nat, v = .int n ∧ n < 1000000 ∧ Q (.int n) H') C8.E0
theorem call_lenO {k j : Nat} {C : Addr} {sp : Sp} (c : LenO X.prog X.w X.K X.mg X.base k C sp) (hr : Room j X.A) (hk : k + 1 ≤ j) : CallR X (.builtin "len") (rLenO C sp) := by
  intro pins s σ H xs us Q I r h
  obtain ⟨g, h1, h2, F⟩ := c.ex
  obtain ⟨a, dx, fs, rfl, ha, q⟩ := h
  obtain ⟨u, rfl, ru⟩ : ∃ u, us = [u] ∧ RelV (.ref a) u := by
    cases r with
    | cons r rr => cases rr; exact ⟨_, rfl, r⟩
  cases ru
  obtain ⟨ox, od, J, hd⟩ := StX.insC_at I (.inr ⟨dx, fs, ha⟩)
  obtain ⟨m, fr⟩ := I.fr
  refine PySem.W.len_K fr I.ok.mod.kin J h1 h2 (wpAny_call (codeAny_mono (F X.A.in1 X.stack s H [.ref a] [.ref a] _ C8.E0 (hr.mono hk).in1 I.env0.in1 (.cons rfl .nil) q) fun r s' hq => ?_))
  cases r with
  | error e => exact hq.elim
  | ok fl =>
    cases fl with
    | ret u =>
      obtain ⟨v, H', I', rv, n, rfl, hn, q'⟩ := I.after hq
      obtain ⟨t, rfl⟩ := rv
      exact ⟨⟨by omega, by omega⟩, .int n, H', I'.tok _, ⟨_, rfl⟩, q'⟩
    | next => exact hq.elim
    | brk => exact hq.elim
    | cont => exact hq.elim
end
section
variable {K : PySem.W.Frag} {FC : Addr → Prop} {σ : L2.St} {H : Hp} {ta : TE} {d : D} {ds : List D}
/-- .. of an object that never changes -/
theorem ev_lenO {C : Addr} {fs : List (Str × D)} {n : Nat} {R : List D → (D → Prop) → Prop} (ha : EvD K FC ta σ H (.obj C fs)) (hR : R [.obj C fs] (fun x => x = di (n : Int))) (hn : n < 1000000) : EvD K FC (tCB (rLenO C (spN K FC R)) (tCons ta tNil)) σ H (di (n : Int)) := fun H1 e Q q =>
  ha H1 e _ fun x H2 e2 r => by
    obtain ⟨a, dx, gs, rfl, fc, ho, rf⟩ := r.obj_inv
    refine ⟨a, dx, gs, rfl, ho, _, _, hR, .cons r .nil, fun d' v H3 p e3 r3 => ?_⟩
    subst p
    cases r3.at_inv
    exact ⟨n, rfl, hn, q _ H3 (e2.trans e3) (.at _)⟩
end
/-! ### enumerate over a tuple -/
theorem newCall_enum1 (a : Value) : checkBuiltinCall "enumerate.__new__" ⟨[.type "enumerate", a], []⟩ = pure () := by kernel_rfl
set_option maxHeartbeats 1000000 in
theorem meets_enum1 {v : Value} {o : Obj} {H : Heap → Prop} (B : Begins v o H) : Meets (Builtin.«enumerate.__new__» ⟨[.type "enumerate", v], []⟩) (fun _ R s => H s.heap ∧
      R (.ok (.ret (.ref (s.heap.push o).objs.size))) { s with heap := (s.heap.push o).push { cls := .type "enumerate", data := .fields #[.none, .bool false, .ref s.heap.objs.size, rawInt 0, .none, .none] } }) :=
  .of_wp fun prog w A R s h => by
    obtain ⟨hp, g, dr, tk, os⟩ := s; obtain ⟨hB, h⟩ := h
    have sub := sub_enumerate
    have it1 : ∀ {A' : Around} {E : Value → Shared → Prop} {Q : Value → Shared → Prop}, Q (.ref hp.objs.size) ⟨hp.push o, g, dr, tk, os⟩ → wpAny (model prog w) A' (pyIter v) Q E ⟨hp, g, dr, tk, os⟩ :=
      fun q => B.iter prog w _ _ ⟨hp, g, dr, tk, os⟩ _ hB q
    wp_walk using it1
    refine wpAny_stack_any fun stk => wpAny_pure ?_
    split
    · rename_i c _ _ _ _ _
      cases (c == Value.type "enumerate") <;> (wp_walk using it1; exact ⟨_, rfl, h⟩)
    · wp_walk using it1
      exact ⟨_, rfl, h⟩
theorem call_enum1 {prog : Program} {w : World} {A : Around} {E : Value → Shared → Prop} {s : Shared} {v : Value} {o : Obj} {H : Heap → Prop} {Q : Value → Shared → Prop} (B : Begins v o H) (hB : H s.heap)
    (h : ∀ h', IsEnum h' (s.heap.objs.size + 1) s.heap.objs.size 0 .none → h'.get? s.heap.objs.size = some o → (∀ b o, s.heap.get? b = some o → h'.get? b = some o) → Q (.ref (s.heap.objs.size + 1)) { s with heap := h' }) :
    wpAny (model prog w) A (call (.type "enumerate") [v]) Q E s := by
  refine callType_new F.called_enumerate (by decide) (F.typeCall_enumerate_1 _) (newCall_enum1 _) (fun obj => F.args_object_init_2 obj _) F.entry_enumerate_new (meets_enum1 B) ⟨hB, ?_⟩
  have sz : (s.heap.push o).objs.size = s.heap.objs.size + 1 := Heap.size_push ..
  show _ ∧ _
  rw [sz]
  have he : IsEnum ((s.heap.push o).push { cls := .type "enumerate", data := .fields #[.none, .bool false, .ref s.heap.objs.size, rawInt 0, .none, .none] }) (s.heap.objs.size + 1) s.heap.objs.size 0 .none := by
    have e := Heap.get?_push_size (s.heap.push o) (o := { cls := .type "enumerate", data := .fields #[.none, .bool false, .ref s.heap.objs.size, rawInt 0, .none, .none] }) rfl
    rw [sz] at e
    exact e
  exact ⟨⟨_, he, rfl⟩, h _ he (Heap.get?_push_of_some _ (Heap.get?_push_size _ B.free)) fun b o x => Heap.get?_push_of_some _ (Heap.get?_push_of_some _ x)⟩
/-- the tuple at a, each item in a new pair -/
def IteT (K : PySem.W.Frag) (a : Addr) : It :=
  ⟨fun i H => ∃ (xs : List V) (x : V), SqT K H a xs ∧ xs[i]? = some x, fun i H v H' => ∃ T x, v = .ref T ∧ H T = none ∧ H' = upd H T (.tup [.int (i : Nat), x]) ∧ ∀ xs, SqT K H a xs → xs[i]? = some x, fun i H => ∃ xs : List V, SqT K H a xs ∧ xs.length = i⟩
theorem turn_enumT {P : Program} {w : World} {K : PySem.W.Frag} {elts : List Expr} {kk : Nat} {tpos : Pos} (a e it : Addr) :
    Turn P w K (.Tuple elts kk tpos) (IteT K a) [e, it] e (fun i h => (∃ old, IsEnum h e it ((i : Nat) : Int) old) ∧ h.IsTupleIter it a i ∧ e ≠ it ∧ e ≠ a ∧ a ≠ it) where
  mem := by simp
  obj := fun i h st b hb => by
    obtain ⟨⟨old, he⟩, ⟨o, ho, hc, hd⟩, _⟩ := st
    rcases (show b = e ∨ b = it by simpa using hb) with rfl | rfl
    · exact ⟨_, he, fun v q => nomatch q⟩
    · exact ⟨o, ho, fun v q => by rw [hd] at q; cases q⟩
  keep := fun i h h' st k => by
    obtain ⟨⟨old, he⟩, hi, ne⟩ := st
    exact ⟨⟨old, k e (by simp) _ he⟩, hi.at fun o q => k it (by simp) o q, ne⟩
  item := by
    intro X hP hw hK hc i pins s σ H E I hf st hg
    subst hP hw hK
    obtain ⟨⟨old, he⟩, hit, n1, n2, n3⟩ := st
    obtain ⟨xs, x, hq, hx⟩ := hg
    obtain ⟨its, rv, p, hz⟩ := I.tuple hq
    obtain ⟨u, hu, ru⟩ := rv.get hx
    have le : e < s.heap.objs.size := Heap.lt_size he
    have li : it < s.heap.objs.size := by obtain ⟨_, q, _⟩ := hit; exact Heap.lt_size q
    have Dr := Draws.tuple (prog := X.prog) (w := X.w) (A := X.A.in1) (I.ok.hd hc) it a n3 its.toArray
    have hi : i < its.length := (List.getElem?_eq_some_iff.mp hu).1
    refine wpAny_pyNext_enum_itemD Dr he ⟨hit, p⟩ (by simpa using hi) n1 (by simp [n1, n2]) fun y h' tk hy ho st' hT sz hk => ?_
    have ey : y = u := by
      have h1 : its[i]? = some y := by simpa using hy
      rw [hu] at h1
      exact (Option.some.inj h1).symm
    subst ey
    refine ⟨_, rfl, wpAny_letOwnedTupleGo_enum (s := { s with heap := h', toks := tk + 1 }) ho fun h'' he' sb => ?_⟩
    have hT2 : h''.get? s.heap.objs.size = some { cls := .type "tuple", data := .seq #[.int i tk, y] } := (sb.2 _ (Nat.ne_of_gt le)).trans hT
    have nw : ObjOk X.prog X.w (upd H s.heap.objs.size (.tup [.int (i : Nat), x])) h'' s.heap.objs.size (.tup [.int (i : Nat), x]) :=
      ⟨by show 2 ≤ sizeLine; decide, [.int i tk, y], .cons ⟨_, rfl⟩ (.cons ru .nil), ⟨_, hT2, rfl, _, rfl⟩⟩
    have I1 : Inv X pins σ (upd H s.heap.objs.size (.tup [.int (i : Nat), x])) { s with heap := h'', toks := tk + 1 } :=
      I.turnedNew (ch := [e, it]) (fun b ob hb q => (sb.2 b (fun z => hb (by simp [z]))).trans (hk b ob (fun z => hb (by simp [z])) (fun z => hb (by simp [z])) q)) hf (Nat.le_refl _) nw
    refine ⟨.ref s.heap.objs.size, _, I1, rfl, ⟨_, x, rfl, I.hok.fresh (Nat.le_refl _), rfl, fun ys hy => by rw [I.tuple_inj hy hq]; exact hx⟩, ⟨⟨y, ?_⟩, st'.1.at fun o q => (sb.2 it (Ne.symm n1)).trans q, n1, n2, n3⟩, fun b hb => ?_⟩
    · rw [show ((i + 1 : Nat) : Int) = (i : Int) + 1 by omega]
      exact he'
    · have lb : b < s.heap.objs.size := by
        rcases (show b = e ∨ b = it by simpa using hb) with rfl | rfl
        · exact le
        · exact li
      rw [upd_ne (Nat.ne_of_lt lb)]
      exact (hf b hb).1
  done := by
    intro X hP hw hK hc i pins s σ H E I hf st hg
    subst hP hw hK
    obtain ⟨⟨old, he⟩, hit, n1, n2, n3⟩ := st
    obtain ⟨xs, hq, hx⟩ := hg
    obtain ⟨its, rv, p, hz⟩ := I.tuple hq
    obtain ⟨f0, f1, f2, f3, f4, f5⟩ := hf it (by simp)
    have hl := rv.length
    have Dr := Draws.tuple (prog := X.prog) (w := X.w) (A := X.A.in1) (I.ok.hd hc) it a n3 its.toArray
    have ei : i = its.length := by omega
    subst ei
    exact wpAny_pyNext_enum_endD Dr he (by simpa using (⟨hit, p⟩ : s.heap.IsTupleIter it a its.length ∧ s.heap.IsTuple a its.toArray)) fun h' eb => ⟨rfl, I.turned (t' := s.toks) (fun b o hb q => eb b o hb q) f0 f1 f3 f4 f5⟩
  self := fun A i s Q E st h => let ⟨⟨_, he⟩, _⟩ := st; wpAny_pyIter_enum he h

def iEnumT (K : PySem.W.Frag) (ta : TA) : TI := fun σ H R => ta σ H fun vs H1 => ∃ a xs, vs = [.ref a] ∧ SqT K H1 a xs ∧ R (IteT K a) H1
theorem pi_enumT {X : Cx} {K : PySem.W.Frag} {e : Expr} {ta : TA} {p pos tpos : Pos} {elts : List Expr} {kk : Nat} (hg : Gl X "enumerate") (hm : X.mg "enumerate" = none) (ha : PA X [e] ta) (hK : X.K = K := by rfl) (hs : starEach [e] X.env = [(false, eval e X.env)] := by rfl) :
    PI X (.Tuple elts kk tpos) (.Call (.Name "enumerate" p) [e] [] pos) (iEnumT K ta) := by
  subst hK
  refine ⟨fun pins s σ H R I h => ?_⟩
  refine Call_ (ld_blt I hg hm boot_enumerate (PyProof.Rows.callWith_type1 (thn (ha.run pos pins s σ H _ I h) fun us s1 ⟨vs, H1, I1, r1, q1⟩ => ?_) hs rfl))
  obtain ⟨a, xs, ex, hq, q⟩ := q1
  subst ex
  cases r1 with
  | cons r rr =>
    cases rr
    cases r
    obtain ⟨its, rv, pt, hz⟩ := I1.tuple hq
    refine call_enum1 (begins_tuple a its.toArray) pt fun h' he hit hk => wpAny_pyIter_enum he ?_
    have la : a < s1.heap.objs.size := by obtain ⟨_, q, _⟩ := pt; exact Heap.lt_size q
    refine ⟨s1.heap.objs.size + 1, [s1.heap.objs.size + 1, s1.heap.objs.size], _, _, H1, rfl, I1.kept (t' := s1.toks) hk, turn_enumT a (s1.heap.objs.size + 1) s1.heap.objs.size, ⟨⟨.none, he⟩, ⟨_, hit, rfl, rfl⟩, Nat.succ_ne_self _, Nat.ne_of_gt (Nat.lt_succ_of_lt la), Nat.ne_of_lt la⟩, fun b hb => ?_, q⟩
    have le : s1.heap.objs.size ≤ b := by
      rcases (show b = s1.heap.objs.size + 1 ∨ b = s1.heap.objs.size by simpa using hb) with rfl | rfl
      · exact Nat.le_succ _
      · exact Nat.le_refl _
    exact I1.fpOk le (I1.hok.fresh le)
section
variable {K : PySem.W.Frag} {FC : Addr → Prop} {σ : L2.St} {H : Hp} {ds es : List D} {ta tb : TE} {i : Int}
theorem walk_enumT {a : Addr} {xs : List V} : Walk (IteT K a) xs.length (fun H => SqT K H a xs) (YPair (fun i => some (.int (i : Nat))) (fun i => xs[i]?)) :=
  ⟨fun i _ hi q => ⟨xs, xs[i], q, by simp [hi]⟩, fun _ q => ⟨xs, q, rfl⟩, fun i H v H' _ q ⟨T, x, h1, h2, h3, h4⟩ => ⟨T, .int (i : Nat), x, h1, h2, h3, rfl, h4 xs q⟩⟩
abbrev enumD (ds : List D) : List D := (List.range ds.length).map fun (k : Nat) => .tup [di (k : Int), ds.getD k dn]
theorem enum_at {vs : List V} {H0 H H' : Hp} {i : Nat} {x : V} (rr : Reps K FC H0 ds vs) (e : ∀ d v, d ∈ ds → Rep K FC H0 d v → Rep K FC H d v) (hi : i < (enumD ds).length) (y : YPair (fun i => some (.int (i : Nat))) (fun i => vs[i]?) i H x H') :
    Same H H' ∧ ∃ d, (enumD ds)[i]? = some d ∧ Rep K FC H' d x := by
  obtain ⟨T, x1, y1, rfl, hT, rfl, h1, h2⟩ := y
  rw [List.length_map, List.length_range] at hi
  obtain ⟨d, h3, h4⟩ := rr.get' h2
  cases h1
  refine ⟨Same.new hT, .tup [di (i : Int), d], ?_, .tup (SqT.of upd_same) (.cons (.at _) (.cons ((e _ _ (List.mem_of_getElem? h3) h4).mono (Same.new hT)) .nil))⟩
  rw [List.getElem?_map, List.getElem?_range hi]
  simp only [Option.map_some, Option.some.injEq, D.tup.injEq, List.cons.injEq, true_and, and_true]
  rw [List.getD_eq_getElem?_getD, h3]
  rfl
theorem evi_enumT {tr : TA} (h : EvA K FC tr σ H [.tup ds]) : EvI K FC (iEnumT K tr) σ H (enumD ds) := fun H1 e R q => h H1 e _ fun us H2 e2 r => by
  cases r with
  | cons r rr =>
    cases rr
    obtain ⟨a, vs, rfl, hs, rr⟩ := r.tup_inv
    exact ⟨a, vs, rfl, hs, q _ H2 e2 ⟨_, _, by rw [List.length_map, List.length_range, ← rr.length]; exact walk_enumT (xs := vs), hs, fun _ _ e h => Same.sqt e h, fun i H x H' e hi y => enum_at rr (fun _ _ _ r => r.mono e) hi y⟩⟩
theorem evz_enumT {tr : TA} (h : EvA K FC tr σ H [.tup ds]) (n : NoLs ds) : EvZ K FC (iEnumT K tr) σ H (enumD ds) := fun H1 e R q => h H1 e _ fun us H2 e2 r => by
  cases r with
  | cons r rr =>
    cases rr
    obtain ⟨a, vs, rfl, hs, rr⟩ := r.tup_inv
    exact ⟨a, vs, rfl, hs, q _ H2 e2 ⟨_, _, by rw [List.length_map, List.length_range, ← rr.length]; exact walk_enumT (xs := vs), hs, fun _ _ e h => e.sqt h, fun i H x H' e hi y => enum_at rr (fun d _ hd r => r.frz e (n.mem hd)) hi y⟩⟩
/-! ### zip of two tuples -/
abbrev zipD (ds es : List D) : List D := (List.range (min ds.length es.length)).map fun (k : Nat) => .tup [ds.getD k dn, es.getD k dn]
theorem walk_zipT {a b : Addr} {xs ys : List V} : Walk (RZ.ItzT K a b) (min xs.length ys.length) (fun H => SqT K H a xs ∧ SqT K H b ys) (YPair (fun i => xs[i]?) (fun i => ys[i]?)) := by
  constructor
  · intro i H hi q
    have l1 : i < xs.length := by omega
    have l2 : i < ys.length := by omega
    exact ⟨xs, ys, xs[i], ys[i], q.1, q.2, by simp [l1], by simp [l2]⟩
  · intro H q
    exact ⟨xs, ys, q.1, q.2, by omega⟩
  · intro i H v H' _ q y
    obtain ⟨T, x, z, h1, h2, h3, h4, h5⟩ := y
    exact ⟨T, x, z, h1, h2, h3, h4 xs q.1, h5 ys q.2⟩
theorem evi_zipT {tr : TA} (h : EvA K FC tr σ H [.tup ds, .tup es]) : EvI K FC (RZ.iZipA K tr) σ H (zipD ds es) := fun H1 e R q => h H1 e _ fun us H2 e2 r => by
  cases r with
  | cons r rr =>
    cases rr with
    | cons r' rr =>
      cases rr
      obtain ⟨a, vs, rfl, hs, rr⟩ := r.tup_inv
      obtain ⟨b, ws, rfl, ht, rs⟩ := r'.tup_inv
      refine ⟨a, b, vs, ws, rfl, .inr ⟨hs, ht, q _ H2 e2 ⟨fun H => SqT K H a vs ∧ SqT K H b ws, _, by rw [List.length_map, List.length_range, ← rr.length, ← rs.length]; exact walk_zipT (xs := vs) (ys := ws), ⟨hs, ht⟩, fun _ _ e h => ⟨Same.sqt e h.1, Same.sqt e h.2⟩, fun i H x H' e hi y => ?_⟩⟩⟩
      obtain ⟨T, x1, y1, rfl, hT, rfl, h1, h2⟩ := y
      rw [List.length_map, List.length_range] at hi
      obtain ⟨d, h3, h4⟩ := rr.get' h1
      obtain ⟨d', h5, h6⟩ := rs.get' h2
      refine ⟨Same.new hT, .tup [d, d'], ?_, .tup (SqT.of upd_same) (.cons ((h4.mono e).mono (Same.new hT)) (.cons ((h6.mono e).mono (Same.new hT)) .nil))⟩
      rw [List.getElem?_map, List.getElem?_range hi]
      simp only [Option.map_some, Option.some.injEq, D.tup.injEq, List.cons.injEq, and_true]
      exact ⟨by rw [List.getD_eq_getElem?_getD, h3]; rfl, by rw [List.getD_eq_getElem?_getD, h5]; rfl⟩
end
/-! ### a tuple times a count -/
theorem tupmul1 (l : Addr) (items : Array Value) (n : Nat) (dd : Option Addr) (sl : Array (Option Value)) (u : Tok) : Meets (Builtin.«tuple.__mul__» ⟨[.ref l, .int 1 u], []⟩) (fun _ R s => s.heap.get? l = some { cls := .type "tuple", dict := dd, data := .seq items n, slots := sl } ∧ R (.ok (.ret (Value.ref l))) s) :=
  .of_wp fun prog w A R s h => by
    obtain ⟨hp, g, d, tk, os⟩ := s
    obtain ⟨hl, h⟩ := h
    have f1 := AutoSeq1.idx_int
    have c0 : (decide ((1 : Int) < -(2 ^ 63)) || decide ((1 : Int) ≥ 2 ^ 63)) = false := by decide
    have c1 : (items.isEmpty || (1 : Int) == 1) = true := by simp
    wp_walk using AutoSeq1.wpAny_loadPart' hl
    exact ⟨_, rfl, h⟩
theorem tupmul0 (l : Addr) (items : Array Value) (n : Nat) (dd : Option Addr) (sl : Array (Option Value)) (u : Tok) (hne : items.isEmpty = false) : Meets (Builtin.«tuple.__mul__» ⟨[.ref l, .int 0 u], []⟩) (fun _ R s => s.heap.get? l = some { cls := .type "tuple", dict := dd, data := .seq items n, slots := sl } ∧
      R (.ok (.ret (Value.ref s.heap.objs.size))) { s with heap := s.heap.push { cls := Value.type "tuple", data := Data.seq #[] }, toks := s.toks }) :=
  .of_wp fun prog w A R s h => by
    obtain ⟨hp, g, d, tk, os⟩ := s
    obtain ⟨hl, h⟩ := h
    have f1 := AutoSeq1.idx_int
    have c0 : (decide ((0 : Int) < -(2 ^ 63)) || decide ((0 : Int) ≥ 2 ^ 63)) = false := by decide
    have c1 : (items.isEmpty || (0 : Int) == 1) = false := by rw [hne]; rfl
    have c2 : (decide ((0 : Int) ≤ 0) || items.isEmpty) = true := by simp
    wp_walk using AutoSeq1.wpAny_loadPart' hl
    exact ⟨_, rfl, h⟩
theorem reps_rep {K : PySem.W.Frag} {FC : Addr → Prop} {H : Hp} {ds : List D} {vs : List V} (r : Reps K FC H ds vs) : ∀ n : Nat, Reps K FC H (List.replicate n ds).flatten (List.replicate n vs).flatten
  | 0 => .nil
  | n + 1 => by
    rw [List.replicate_succ, List.replicate_succ, List.flatten_cons, List.flatten_cons]
    exact r.append (reps_rep r n)
def rMulT (K : PySem.W.Frag) : R2 := fun x y H Q => ∃ l k xs, x = .ref l ∧ y = .int k ∧ SqT K H l xs ∧ xs ≠ [] ∧ xs.length ≤ 1000 ∧ 0 ≤ k ∧ k ≤ 1000 ∧ (k = 1 → Q (.ref l) H) ∧ (k ≠ 1 → ∀ p, H p = none → Q (.ref p) (upd H p (.tup (List.replicate k.toNat xs).flatten)))
theorem op_mulT {X : Cx} {K : PySem.W.Frag} (hK : X.K = K := by rfl) : OpR X (binaryOp .Mult) (rMulT K) := by
  subst hK
  intro pins s σ H x y v u Q I rx ry h
  obtain ⟨l, k, xs, rfl, rfl, hT, hne, hz, h0, h1, q1, qn⟩ := h
  by_cases e1 : k = 1
  · subst e1
    cases rx
    obtain ⟨t, rfl⟩ := ry
    obtain ⟨its, r, ⟨⟨cls, dd, data, sl⟩, ho, hc, n, hd⟩, hs⟩ := I.tuple hT
    simp only at hc hd
    subst hc hd
    refine wpAny_binaryOp_repeat_ref (T := "tuple") (U := "int") (by decide) ⟨_, ho, rfl⟩ (fun s' => typeIs_int s' 1 t) noFill_tuple_mul F.fills_int_mul F.slot_int_rmul repeat_tuple F.slot_int_index.lookup
      (call_meets F.slot_int_rmul (typeIs_int s 1 t) F.entry_int_rmul (F.args_int_rmul_2 _ _) (int_rmul_tuple 1 t l its.toArray n dd sl)
        ⟨ho, rfl, ⟨_, ho, rfl⟩, call_meets F.slot_tuple_mul ⟨_, ho, rfl⟩ F.entry_tuple_mul (F.args_tuple_mul_2 _ _) (tupmul1 l its.toArray n dd sl t) ⟨ho, ?_⟩⟩)
    exact ⟨.ref l, H, I, rfl, q1 rfl⟩
  · by_cases e0 : k = 0
    · subst e0
      cases rx
      obtain ⟨t, rfl⟩ := ry
      obtain ⟨its, r, ⟨⟨cls, dd, data, sl⟩, ho, hc, n, hd⟩, hs⟩ := I.tuple hT
      simp only at hc hd
      subst hc hd
      have hi : its.toArray.isEmpty = false := by
        have := r.length
        cases its with
        | nil => exact absurd (List.eq_nil_of_length_eq_zero this) hne
        | cons a b => rfl
      refine wpAny_binaryOp_repeat_ref (T := "tuple") (U := "int") (by decide) ⟨_, ho, rfl⟩ (fun s' => typeIs_int s' 0 t) noFill_tuple_mul F.fills_int_mul F.slot_int_rmul repeat_tuple F.slot_int_index.lookup
        (call_meets F.slot_int_rmul (typeIs_int s 0 t) F.entry_int_rmul (F.args_int_rmul_2 _ _) (int_rmul_tuple 0 t l its.toArray n dd sl)
          ⟨ho, rfl, ⟨_, ho, rfl⟩, call_meets F.slot_tuple_mul ⟨_, ho, rfl⟩ F.entry_tuple_mul (F.args_tuple_mul_2 _ _) (tupmul0 l its.toArray n dd sl t hi) ⟨ho, ?_⟩⟩)
      refine ⟨.ref s.heap.objs.size, _, I.laid (t' := s.toks) (o := .tup []) (fun b ob q => Heap.get?_push_of_some _ q) (Nat.le_refl _) ⟨Nat.zero_le _, [], .nil, IsTup.new _ _⟩, rfl, qn (by decide) _ (I.hok.fresh (Nat.le_refl _))⟩
    · exact op_repT (X := X) pins s σ H _ _ v u Q I rx ry ⟨l, k, xs, rfl, rfl, hT, hne, by omega, h1, hz, qn e1⟩
theorem ev_mulT {K : PySem.W.Frag} {FC : Addr → Prop} {σ : L2.St} {H : Hp} {ds : List D} {ta tb : TE} {n : Nat} (ha : EvD K FC ta σ H (.tup ds)) (hb : EvD K FC tb σ H (di (n : Int))) (hne : ds ≠ []) (hl : ds.length ≤ 1000) (hn : n ≤ 1000) : EvD K FC (tOp (rMulT K) ta tb) σ H (.tup (List.replicate n ds).flatten) := fun H1 e Q q =>
  ha H1 e _ fun x H2 e2 r2 => hb H2 (e.trans e2) _ fun y H3 e3 r3 => by
    obtain ⟨a, vs, rfl, hs, rr⟩ := r2.tup_inv
    cases r3.at_inv
    refine ⟨a, n, vs, rfl, rfl, Same.sqt e3 hs, fun z => hne ?_, by rw [rr.length]; exact hl, by omega, by omega, fun h1 => ?_, fun _ p hp => ?_⟩
    · have := rr.length
      rw [z] at this
      exact List.eq_nil_of_length_eq_zero this.symm
    · have : n = 1 := by omega
      subst this
      refine q _ H3 (e2.trans e3) ?_
      have := (Rep.tup hs rr).mono e3
      simpa using this
    · refine q _ _ ((e2.trans e3).trans (Same.new hp)) (.tup (SqT.of upd_same) (Reps.mono (Same.new hp) ?_))
      rw [Int.toNat_natCast]
      exact reps_rep (rr.mono e3) n
/-! ### a loop that only looks -/
section
variable {K : PySem.W.Frag} {FC : Addr → Prop} {ρ : SD} {σ : L2.St} {H : Hp} {wi : TI} {tb : TS} {B : Ends}
theorem RepE.ref {i : Nat} {v : V} (R : RepE K FC H ρ σ) (h : ρ[i]? = some (some (.at v))) : σ[i]? = some (some v) := by
  obtain ⟨u, h1, h2⟩ := R.get i _ h
  rw [h1, h2.at_inv]
theorem RepE.blank {x : Option D} (n : Nat) (R : RepE K FC H (ρ.set n x) σ) : RepE K FC H (ρ.set n none) σ := by
  refine R.weak (by rw [List.length_set, List.length_set]) fun i d h => ?_
  by_cases e : n = i
  · subst e
    have hl : n < ρ.length := by have := (List.getElem?_eq_some_iff.mp h).1; rwa [List.length_set] at this
    rw [List.getElem?_set_self hl] at h
    cases h
  · rw [List.getElem?_set_ne e] at h ⊢
    exact h
theorem RepE.drop0 (n : Nat) (R : RepE K FC H ρ σ) : RepE K FC H (ρ.set n none) σ := by
  refine R.weak (by rw [List.length_set]) fun i d h => ?_
  by_cases e : n = i
  · subst e
    have hl : n < ρ.length := by have := (List.getElem?_eq_some_iff.mp h).1; rwa [List.length_set] at this
    rw [List.getElem?_set_self hl] at h
    cases h
  · rwa [List.getElem?_set_ne e] at h
theorem st_forC {α : Type} {xs : List α} {dof : α → D} {n : Nat} (R : RepE K FC H ρ σ) (hi : EvZ K FC wi σ H (xs.map dof)) (hn : n < ρ.length)
    (hb : ∀ a ∈ xs, ∀ σ' H', Same H H' → RepE K FC H' ((ρ.set n none).set n (some (dof a))) σ' → ∀ nx : L2.St → Hp → Prop, (∀ σ2 H2, Same H' H2 → RepE K FC H2 (ρ.set n none) σ2 → nx σ2 H2) → tb { nx := nx, ct := nx, bk := B.nx, rt := B.rt } σ' H')
    (q : ∀ σ' H', Same H H' → RepE K FC H' (ρ.set n none) σ' → B.nx σ' H') : tFor wi (gName n) tb B σ H := by
  refine st_forZ hi fun H2 e2 => ⟨fun _ σ' H' => Same H2 H' ∧ RepE K FC H' (ρ.set n none) σ', ⟨Same.refl _, (R.mono e2).drop0 n⟩, fun i σ' H' h => Same.frz h.1, fun i d x σ' H' H'' hd h e r => ?_, fun σ' H' h => q σ' H' (e2.trans h.1) h.2⟩
  have hi : i < xs.length := by
    have := (List.getElem?_eq_some_iff.mp hd).1
    rwa [List.length_map] at this
  rw [List.getElem?_map, List.getElem?_eq_getElem hi] at hd
  cases hd
  exact hb _ (List.getElem_mem hi) _ H'' ((e2.trans h.1).trans e) ((h.2.mono e).set r) _ fun σ3 H3 e3 R3 => ⟨(h.1.trans e).trans e3, R3⟩
end
theorem pg_tupK {X : Cx} {K : PySem.W.Frag} {es : List Expr} {k : Nat} {t : TGs} {n : Nat} {pos : Pos} (hc : X.calm = true) (h : PGs X es t) (hK : X.K = K := by rfl)
    (hn : (assignEach es X.env).length = n := by rfl) (hst : (assignEach es X.env).findIdx? (·.1) = none := by rfl) : PG X (.Tuple es k pos) (gTup K n t) := by
  subst hK
  exact pg_tup hc h hn hst
section
variable {K : PySem.W.Frag} {FC : Addr → Prop} {ρ : SD} {σ : L2.St} {H : Hp} {wi : TI} {tb t2 : TS} {B : Ends}
/-- .. with more behind it -/
theorem st_forCS {α : Type} {xs : List α} {dof : α → D} {n : Nat} (R : RepE K FC H ρ σ) (hi : EvZ K FC wi σ H (xs.map dof)) (hn : n < ρ.length)
    (hb : ∀ a ∈ xs, ∀ σ' H', Same H H' → RepE K FC H' ((ρ.set n none).set n (some (dof a))) σ' → ∀ nx bk : L2.St → Hp → Prop, (∀ σ2 H2, Same H' H2 → RepE K FC H2 (ρ.set n none) σ2 → nx σ2 H2) → tb { nx := nx, ct := nx, bk := bk, rt := B.rt } σ' H')
    (q : ∀ σ' H', Same H H' → RepE K FC H' (ρ.set n none) σ' → t2 B σ' H') : tSeq (tFor wi (gName n) tb) t2 B σ H :=
  st_forC (B := { B with nx := t2 B }) R hi hn (fun a ha σ' H' e R' nx q => hb a ha σ' H' e R' nx _ q) q
/-- .. a pair's two names -/
theorem st_forC2 {α : Type} {xs : List α} {dof eof : α → D} {n m : Nat} (R : RepE K FC H ρ σ) (hi : EvZ K FC wi σ H (xs.map fun a => .tup [dof a, eof a])) (hnm : n ≠ m)
    (hb : ∀ a ∈ xs, ∀ σ' H', Same H H' → RepE K FC H' ((((ρ.set n none).set m none).set n (some (dof a))).set m (some (eof a))) σ' → ∀ nx bk : L2.St → Hp → Prop, (∀ σ2 H2, Same H' H2 → RepE K FC H2 ((ρ.set n none).set m none) σ2 → nx σ2 H2) → tb { nx := nx, ct := nx, bk := bk, rt := B.rt } σ' H')
    (q : ∀ σ' H', Same H H' → RepE K FC H' ((ρ.set n none).set m none) σ' → t2 B σ' H') : tSeq (tFor wi (gTup K 2 (gCons (gName n) (gCons (gName m) gNil))) tb) t2 B σ H := by
  refine st_forZ (B := { B with nx := t2 B }) hi fun H2 e2 => ⟨fun _ σ' H' => Same H2 H' ∧ RepE K FC H' ((ρ.set n none).set m none) σ', ⟨Same.refl _, ((R.mono e2).drop0 n).drop0 m⟩, fun i σ' H' h => Same.frz h.1, fun i d x σ' H' H'' hd h e r => ?_, fun σ' H' h => q σ' H' (e2.trans h.1) h.2⟩
  have hi : i < xs.length := by
    have := (List.getElem?_eq_some_iff.mp hd).1
    rwa [List.length_map] at this
  rw [List.getElem?_map, List.getElem?_eq_getElem hi] at hd
  cases hd
  refine bind_pair (vs := [n, m]) (by simp) (by simp) σ' H'' x (h.2.mono e) r _ fun σ3 H3 e3 R3 _ => ?_
  exact hb _ (List.getElem_mem hi) σ3 H3 (((e2.trans h.1).trans e).trans e3) R3 _ _ fun σ4 H4 e4 R4 => ⟨((h.1.trans e).trans e3).trans e4, R4⟩
end
end T34

/-! Kd6 -/
set_option maxHeartbeats 4000000
namespace T34
open PySem PySem.Spec PyProof.Rows L2
local macro_rules | `(tactic| walk_at "ev") => `(tactic| (first
  | (with_reducible exact ev_c)
  | ((with_reducible refine' ev_var ?R ?h); (case R => assumption); (case h => rfl))
  | (with_reducible refine' ea_cons ?_ ?_)
  | (with_reducible exact ea_nil)
  | (with_reducible refine' ev_add ?_ ?_)
  | (with_reducible refine' ev_sub ?_ ?_)
  | (with_reducible refine' ev_mul ?_ ?_ ?_)
  | (with_reducible refine' ev_mod ?_ ?_ ?_)
  | (with_reducible refine' ev_div ?_ ?_ ?_)
  | (with_reducible refine' ev_lt ?_ ?_)
  | (with_reducible refine' ev_le ?_ ?_)
  | (with_reducible refine' ev_gt ?_ ?_)
  | (with_reducible refine' ev_ge ?_ ?_)
  | (with_reducible refine' ev_int ?_)
  | (with_reducible refine' ev_not ?_)
  | (with_reducible refine' ev_tup ?_)
  | (with_reducible refine' ev_between ?_ ?_ ?_)
  | (with_reducible refine' et_test ?_)
  | (with_reducible refine' et_B ?_)
  | (with_reducible refine' et_not ?_)))
section
variable {P : Program} {w : World} {K : PySem.W.Frag} {mg : Str → Option Value} {base : Heap} {a : Ad} {f : Addr} {fd : FuncData}
abbrev placeD (a : Ad) (x : Fm × Rl) : D := .tup [recD a.CR x.1, x.2.d a.CK]
abbrev s_is_place : Stmt := top 36
theorem sc_is_place : FnScope ["thing", "base", "names", "name", "leaf"] ["thing", "base", "names"] (defScope s_is_place) := ⟨rfl, rfl, rfl, by decide +kernel, rfl, by decide +kernel, by decide +kernel⟩
def Lf.below (b : Int) : Lf → Prop
  | .num n => n < b
  | .nm _ => True
def rIsPlace (a : Ad) : List D → (D → Prop) → Prop := fun ds Pd => ∃ (m : Fm) (r : Rl) (b : Int) (ns : List Nm), m.depth ≤ 5 ∧ m.lvs.length ≤ 9 ∧ (∀ l ∈ m.lvs, l.below b) ∧ (∀ x ∈ nmsOf m.lvs, x ∈ ns) ∧ r.ok ns ∧ ds = [placeD a (m, r), di b, .lst (ns.map nmD)] ∧ Pd = fun d => d = db true
theorem ok_is_place (F : FnP K "is_place" "is_place" s_is_place f fd) (T : Tx K w mg a) (p_Rnames : Prp P w K mg base 7 a.CR "names" (spN K a.FC (rRnames a.CR))) (c_is_rule : C8.Cal P w K mg base 3 "is_rule" (spN K a.FC (rIsRule a.CK)) [])
    (c_leaves_of : C8.Cal P w K mg base 6 "leaves_of" (spL K a.FC (rLeaves 5)) []) : FnOk P w K mg base CX0 9 f fd ["thing", "base", "names"] (spN K a.FC (rIsPlace a)) := by
  refine fnN F sc_is_place (fun ds Pd h => ?_) (fun cdv A outer s H E hr => ⟨_, (pss_cons (ps_if (PW.pt (pw_or (pt_not (pt_val (pe_callB (call_isiK1 (K := K)) (by rfl) T.f_isinstance (by decide +kernel) (pa_cons (pv 0) (pa_cons (pe_bltn (v := .ty "tuple") (by rfl) T.f_tuple (by decide +kernel) rfl) pa_nil))))) (pw_or (pt_cmpR op_ne (pe_callB (call_lenK (K := K)) (by rfl) T.f_len (by decide +kernel) (pa_cons (pv 0) pa_nil)) pe_int (nomark _)) (pw_or1 (pt_not (pt_val (pe_callB (call_isiK1 (K := K)) (by rfl) T.f_isinstance (by decide +kernel) (pa_cons (pe_ix (ix_tupK (K := K)) (pv 0) pe_int (fun _ _ => rfl)) (pa_cons (C8.pe_gc rfl T.c_Recipe) pa_nil))))))))) (pss_one (ps_ret pe_bl)) pss_nil)
    (pss_cons (ps_if (PW.pt (pw_or (pt_not (pt_val (pe_callB (cr_allK (K := K) rfl) (by rfl) T.f_all (by decide +kernel) (pa_cons (pe_lc (own := [("name", 3)]) rfl sc_is_place.nd (pi_tup (pe_pp p_Rnames hr (by omega) (pe_ix (ix_tupK (K := K)) (pv 0) pe_int (fun _ _ => rfl)))) (blkOk_by (own := [("name", 3)]) (N := ["thing", "base", "names", "name", "leaf"]) (sc := defScope s_is_place) (by decide +kernel)) (fun _ _ _ _ _ => (pg_name (i := 3) sc_is_place.nd (by rfl) (.inl (by rfl)) (by first | exact .inl rfl | exact .inr rfl))) (fun _ _ _ _ _ => pts_nil) (fun _ _ _ _ _ => (pe_cmpR (op_inQ (K := K)) (pv 3) (pv 2) (by rfl)))) pa_nil)))) (pw_or1 (pt_not (pt_val (C8.pe_c c_is_rule hr (by omega) (by rfl) (pa_cons (pe_ix (ix_tupK (K := K)) (pv 0) pe_int (fun _ _ => rfl)) (pa_cons (pv 2) pa_nil)))))))) (pss_one (ps_ret pe_bl)) pss_nil)
    (pss_one (ps_ret (pe_callB (cr_allK (K := K) rfl) (by rfl) T.f_all (by decide +kernel) (pa_cons (pe_lc (own := [("leaf", 4)]) rfl sc_is_place.nd (pi_list (C8.pe_c c_leaves_of hr (by omega) (by rfl) (pa_cons (pe_fldK (K := K) (pe_ix (ix_tupK (K := K)) (pv 0) pe_int (fun _ _ => rfl))) pa_nil))) (blkOk_by (own := [("leaf", 4)]) (N := ["thing", "base", "names", "name", "leaf"]) (sc := defScope s_is_place) (by decide +kernel)) (fun _ _ _ _ _ => (pg_name (i := 4) sc_is_place.nd (by rfl) (.inl (by rfl)) (by first | exact .inl rfl | exact .inr rfl))) (fun _ _ _ _ _ => pts_nil) (fun _ _ _ _ _ => (pe_or (pe_cmpR op_ne (pe_ix (ix_tupK (K := K)) (pv 4) pe_int (fun _ _ => rfl)) pe_str (nomark _)) (pe_one (pe_cmpR op_lt (pe_ix (ix_tupK (K := K)) (pv 4) pe_int (fun _ _ => rfl)) (pv 1) (nomark _)))))) pa_nil)))))), ?_⟩)
  · obtain ⟨m, r, b, ns, _, _, _, _, _, rfl, _⟩ := h
    rfl
  · rintro ds Pd vs Q ⟨m, r, b, ns, hd, hl, hb, hn, hr', rfl, rfl⟩ R k
    refine st_skipS ((et_or (et_not (et_B (ev_isi (b := true) (ev_var R rfl) (.tup _) ev_c (.ty "tuple") (kit_ty (by decide +kernel))))) fun _ => et_or (et_test (ev_ne (ev_lenT (ev_var R rfl)) ev_c rfl)) fun _ => et_not (et_B (ev_isi (b := true) (ev_ixT (ev_var R rfl) ev_c rfl) (.obj _ T.oR) ev_c (.own _) T.kRR))).to (by show (!true || (!decide (V.int 2 = V.int 2) || !true)) = false; decide +kernel)) fun H1 e1 => ?_
    have R1 := R.mono e1
    refine st_skipS ((et_or (et_not (et_B (ev_allIn (n := 3) (ns := ns) R1 (by show 3 < 5; decide) (ev_prop (ev_ixT (ev_var R1 rfl) ev_c rfl) ⟨m, hd, hl, rfl, rfl⟩) (fun x hx => hn x (mem_setOf.mp hx)) (by have := setOf_len (nmsOf m.lvs); omega) fun ρ' σ' H' e R' hj => ev_var R' (hj 2 _ (by decide) rfl)))) fun _ => et_not (et_B (ev_callD (d := db true) (ea_cons (ev_ixT (ev_var R1 rfl) ev_c rfl) (ea_cons (ev_var R1 rfl) ea_nil)) ⟨r, ns, hr', rfl, rfl⟩))).to rfl) fun H2 e2 => ?_
    have R2 := R1.mono e2
    have h1 : EvL K a.FC (tLc (iList K (tCall (spL K a.FC (rLeaves 5)) [] C8.E0 (tCons (tFld K (tOp (rIxT K) (tVar 0) (tC (.int 0))) "form") tNil))) (gName 4) tYes (tOrV (tOp rNe (tOp (rIxT K) (tVar 4) (tC (.int 0))) (tC (.str "number"))) (tOp (rI0 fun i j => .bl (decide (i < j))) (tOp (rIxT K) (tVar 4) (tC (.int 1))) (tVar 1))) [4]) (start ["thing", "base", "names", "name", "leaf"] vs) H2 (m.lvs.map fun _ => db true) := by
      refine el_map (α := Lf) (xs := m.lvs) (dof := Lf.d) (f := fun _ => db true) R2 (evi_list (el_call (ea_cons (ev_fld (ev_ixT (ev_var R2 rfl) ev_c rfl) T.oR.cl T.nRform rfl) ea_nil) ⟨m, hd, by omega, rfl, rfl⟩).toD) (fun x _ => bind_name (List.mem_singleton.mpr rfl)) (fun l hm σ' H' e R' => ?_) (fun _ _ => .at _) (by omega)
      cases l with
      | num i =>
        have hb : i < b := hb _ hm
        exact (ev_or (b := false) ((ev_ne (ev_ixT (ev_var R' rfl) ev_c rfl) ev_c rfl).to (by show db (!decide (V.str "number" = V.str "number")) = _; rfl)) fun _ => ev_lt (ev_ixT (ev_var R' rfl) ev_c rfl) (ev_var R' rfl)).to (by show db (false || decide (i < b)) = _; rw [decide_eq_true hb]; rfl)
      | nm x => exact (ev_or (b := true) (c := true) ((ev_ne (ev_ixT (ev_var R' rfl) ev_c rfl) ev_c rfl).to (by cases x <;> exact congrArg db (by decide +kernel))) fun h => nomatch h).to rfl
    exact st_ret ((ev_all (bs := m.lvs.map fun _ => true) (by rw [List.map_map]; exact h1)).to (by rw [all_true])) fun v H3 e3 r3 => k _ v H3 rfl ((e1.trans e2).trans e3) r3
/-! ### drops -/
abbrev dropD (l : List Nat) : D := .tup (l.map fun (k : Nat) => di (k : Int))
def Drop (n : Nat) (l : List Nat) : Prop := (∀ k ∈ l, k < n) ∧ (l = [] ∨ l = [0] ∨ l = [1] ∨ l = [0, 1])
theorem drop_pairs {l : List Nat} {n : Nat} (h : Drop n l) : ∃ xs : List (Int × Int), xs.length ≤ 1 ∧ (∀ p ∈ xs, p.1 < p.2) ∧ zipD (l.map fun (k : Nat) => di (k : Int)) (cutD (l.map fun (k : Nat) => di (k : Int)) (some 1) none) = xs.map fun p => .tup [di p.1, di p.2] := by
  rcases h.2 with rfl | rfl | rfl | rfl
  · exact ⟨[], by decide, fun p h => (nomatch h), rfl⟩
  · exact ⟨[], by decide, fun p h => (nomatch h), rfl⟩
  · exact ⟨[], by decide, fun p h => (nomatch h), rfl⟩
  · exact ⟨[(0, 1)], by decide, fun p h => by rw [List.mem_singleton.mp h]; decide, rfl⟩
abbrev s_are_drops : Stmt := top 37
theorem sc_are_drops : FnScope ["drops", "cells", "places", "some", "place", "one", "two"] ["drops", "cells", "places"] (defScope s_are_drops) := ⟨rfl, rfl, rfl, by decide +kernel, rfl, by decide +kernel, by decide +kernel⟩
def rAreDrops : List D → (D → Prop) → Prop := fun ds Pd => ∃ (ls : List (List Nat)) (n : Nat), (∀ l ∈ ls, Drop n l) ∧ ls.length ≤ 2 ∧ ds = [.tup (ls.map dropD), di (ls.length : Int), di (n : Int)] ∧ Pd = fun d => d = db true
theorem dropD_noL (l : List Nat) : NoL (dropD l) := .tup (.of fun d h => by obtain ⟨k, _, rfl⟩ := List.mem_map.mp h; exact .at _)
theorem ok_are_drops (F : FnP K "are_drops" "are_drops" s_are_drops f fd) (T : Tx K w mg a) (c_is_number : C8.Cal P w K mg base 1 "is_number" (spN K a.FC rNumber) []) : FnOk P w K mg base CX0 3 f fd ["drops", "cells", "places"] (spN K a.FC rAreDrops) := by
  refine fnN F sc_are_drops (fun ds Pd h => ?_) (fun cdv A outer s H E hr => ⟨_, (pss_cons (ps_if (PW.pt (pw_or (pt_not (pt_val (pe_callB (call_isiK1 (K := K)) (by rfl) T.f_isinstance (by decide +kernel) (pa_cons (pv 0) (pa_cons (pe_bltn (v := .ty "tuple") (by rfl) T.f_tuple (by decide +kernel) rfl) pa_nil))))) (pw_or1 (pt_cmpR op_ne (pe_callB (call_lenK (K := K)) (by rfl) T.f_len (by decide +kernel) (pa_cons (pv 0) pa_nil)) (pv 1) (nomark _))))) (pss_one (ps_ret pe_bl)) pss_nil)
    (pss_cons (ps_for PassesOwn.never rfl (pi_tup (pv 0)) (pg_name (i := 3) sc_are_drops.nd (by rfl) (.inl (by rfl)) (by first | exact .inl rfl | exact .inr rfl))
      (pss_cons (ps_if (PW.pt (pw_or (pt_not (pt_val (pe_callB (call_isiK1 (K := K)) (by rfl) T.f_isinstance (by decide +kernel) (pa_cons (pv 3) (pa_cons (pe_bltn (v := .ty "tuple") (by rfl) T.f_tuple (by decide +kernel) rfl) pa_nil))))) (pw_or1 (pt_not (pt_val (pe_callB (cr_allK (K := K) rfl) (by rfl) T.f_all (by decide +kernel) (pa_cons (pe_lc (own := [("place", 4)]) rfl sc_are_drops.nd (pi_tup (pv 3)) (blkOk_by (own := [("place", 4)]) (N := ["drops", "cells", "places", "some", "place", "one", "two"]) (sc := defScope s_are_drops) (by decide +kernel)) (fun _ _ _ _ _ => (pg_name (i := 4) sc_are_drops.nd (by rfl) (.inl (by rfl)) (by first | exact .inl rfl | exact .inr rfl))) (fun _ _ _ _ _ => pts_nil) (fun _ _ _ _ _ => (C8.pe_c c_is_number hr (by omega) (by rfl) (pa_cons (pv 4) (pa_cons (pv 2) pa_nil))))) pa_nil))))))) (pss_one (ps_ret pe_bl)) pss_nil)
    (pss_one (ps_if (pt_not (pt_val (pe_callB (cr_allK (K := K) rfl) (by rfl) T.f_all (by decide +kernel) (pa_cons (pe_lc (own := [("one", 5), ("two", 6)]) rfl sc_are_drops.nd (RZ.pi_zipA (by rfl) T.f_zip (pa_cons (pv 3) (pa_cons (pe_slice (sl_tupK (K := K)) (pv 3) (po_some pe_int) po_none) pa_nil))) (blkOk_by (own := [("one", 5), ("two", 6)]) (N := ["drops", "cells", "places", "some", "place", "one", "two"]) (sc := defScope s_are_drops) (by decide +kernel)) (fun _ _ _ _ _ => (pg_tupK (K := K) (n := 2) (by rfl) (pgs_cons (pg_name (i := 5) sc_are_drops.nd (by rfl) (.inl (by rfl)) (by first | exact .inl rfl | exact .inr rfl)) (pgs_cons (pg_name (i := 6) sc_are_drops.nd (by rfl) (.inl (by rfl)) (by first | exact .inl rfl | exact .inr rfl)) pgs_nil)))) (fun _ _ _ _ _ => pts_nil) (fun _ _ _ _ _ => (pe_cmpR op_lt (pv 5) (pv 6) (nomark _)))) pa_nil)))) (pss_one (ps_ret pe_bl)) pss_nil))))
    (pss_one (ps_ret pe_bl)))), ?_⟩)
  · obtain ⟨ls, n, _, _, rfl, _⟩ := h
    rfl
  · rintro ds Pd vs Q ⟨ls, n, hl, hlen, rfl, rfl⟩ R k
    refine st_skipS ((et_or (et_not (et_B (ev_isi (b := true) (ev_var R rfl) (.tup _) ev_c (.ty "tuple") (kit_ty (by decide +kernel))))) fun _ => et_test (ev_ne (ev_lenT (ev_var R rfl)) (ev_var R rfl) rfl)).to (by rw [List.length_map]; simp)) fun H1 e1 => ?_
    have R1 := R.mono e1
    refine st_seq ?_
    refine st_forC (n := 3) (xs := ls) (dof := dropD) R1 (evz_tup (ev_var R1 rfl) (.of fun d h => by obtain ⟨l, _, rfl⟩ := List.mem_map.mp h; exact dropD_noL l)) (by show 3 < 7; decide) (fun l hm σ' H' e R' nx q => ?_) fun σ' H' e R' => ?_
    · have hd := hl l hm
      have hlen : l.length ≤ 2 := by rcases hd.2 with rfl | rfl | rfl | rfl <;> decide
      refine st_skipS (B := { nx := nx, ct := nx, bk := _, rt := Q }) ((et_or (et_not (et_B (ev_isi (b := true) (ev_var R' rfl) (.tup _) ev_c (.ty "tuple") (kit_ty (by decide +kernel))))) fun _ => et_not (et_B (ev_all (bs := l.map fun _ => true) (by
        rw [List.map_map]
        refine el_map (α := Nat) (xs := l) (dof := fun k => di (k : Int)) (f := fun _ => db true) R' (evi_tup (ev_var R' rfl)) (fun x _ => bind_name (List.mem_singleton.mpr rfl)) (fun x hx σ2 H2 e2 R2 => ?_) (fun _ _ => .at _) (by omega)
        have := hd.1 x hx
        exact ev_callD (ea_cons (ev_var R2 rfl) (ea_cons (ev_var R2 rfl) ea_nil)) ⟨x, n, rfl, by rw [decide_eq_true (by omega), decide_eq_true (by omega)]; rfl⟩)))).to (by rw [all_true]; rfl)) fun H2 e2 => ?_
      have R2 := R'.mono e2
      obtain ⟨xs, x1, x2, x3⟩ := drop_pairs hd
      refine st_skip ((et_not (et_B (ev_all (bs := xs.map fun _ => true) (by
        rw [List.map_map]
        refine el_map (α := Int × Int) (xs := xs) (dof := fun p => .tup [di p.1, di p.2]) (f := fun _ => db true) R2 (by rw [← x3]; exact evi_zipT (ea_cons (ev_var R2 rfl) (ea_cons (ev_slT (ev_var R2 rfl) eo_c eo_none) ea_nil))) (fun x _ => bind_pair (by decide) (by decide)) (fun x hx σ3 H3 e3 R3 => ?_) (fun _ _ => .at _) (by omega)
        exact (ev_lt (ev_var R3 rfl) (ev_var R3 rfl)).to (by rw [decide_eq_true (x2 x hx)]))))).to (by rw [all_true]; rfl)) fun H3 e3 => q _ _ (e2.trans e3) ((R2.mono e3).blank 3)
    · dsimp only
      exact st_ret ev_c fun v H2 e2 r2 => k _ v H2 rfl ((e1.trans e).trans e2) r2
end
end T34

/-! Kd7 -/
set_option maxHeartbeats 4000000
namespace T34
open PySem PySem.Spec PyProof.Rows L2
local macro_rules | `(tactic| walk_at "ev") => `(tactic| (first
  | (with_reducible exact ev_c)
  | ((with_reducible refine' ev_var ?R ?h); (case R => assumption); (case h => rfl))
  | (with_reducible refine' ea_cons ?_ ?_)
  | (with_reducible exact ea_nil)
  | (with_reducible refine' ev_add ?_ ?_)
  | (with_reducible refine' ev_sub ?_ ?_)
  | (with_reducible refine' ev_mul ?_ ?_ ?_)
  | (with_reducible refine' ev_mod ?_ ?_ ?_)
  | (with_reducible refine' ev_div ?_ ?_ ?_)
  | (with_reducible refine' ev_lt ?_ ?_)
  | (with_reducible refine' ev_le ?_ ?_)
  | (with_reducible refine' ev_gt ?_ ?_)
  | (with_reducible refine' ev_ge ?_ ?_)
  | (with_reducible refine' ev_int ?_)
  | (with_reducible refine' ev_not ?_)
  | (with_reducible refine' ev_tup ?_)
  | (with_reducible refine' ev_between ?_ ?_ ?_)
  | (with_reducible refine' et_test ?_)
  | (with_reducible refine' et_B ?_)
  | (with_reducible refine' et_not ?_)))
section
variable {P : Program} {w : World} {K : PySem.W.Frag} {mg : Str → Option Value} {base : Heap} {a : Ad} {f : Addr} {fd : FuncData}
/-! ### plans -/
structure Pl where
  (b f c : Nat)
  pls : List (Fm × Rl)
  drs : List (List Nat)
abbrev Pl.plsD (a : Ad) (p : Pl) : D := .tup (p.pls.map (placeD a))
abbrev Pl.drsD (p : Pl) : D := .tup (p.drs.map dropD)
abbrev Pl.partsD (a : Ad) (p : Pl) : D := .tup [di (p.b : Int), di (p.f : Int), di (p.c : Int), p.plsD a, p.drsD]
def Pl.d (a : Ad) (p : Pl) : D := .obj a.CP [("parts", p.partsD a)]
structure PlaceOk (b f c i : Nat) (m : Fm) (r : Rl) : Prop where
  ok : m.ok
  dep : m.depth ≤ 5
  len : m.lvs.length ≤ 9
  bel : ∀ l ∈ m.lvs, l.below (b : Int)
  nms : ∀ x ∈ nmsOf m.lvs, x ∈ nmsFor f c i
  rl : r.ok (nmsFor f c i)
structure Pl.ok (p : Pl) : Prop where
  b2 : 2 ≤ p.b
  b3 : p.b ≤ 3
  f1 : 1 ≤ p.f
  f2 : p.f ≤ 2
  c2 : p.c ≤ 2
  n1 : 1 ≤ p.pls.length
  n2 : p.pls.length ≤ 2
  pl : ∀ (i : Nat) (x : Fm × Rl), p.pls[i]? = some x → PlaceOk p.b p.f p.c i x.1 x.2
  dl : p.drs.length = p.c
  dr : ∀ l ∈ p.drs, Drop p.pls.length l
theorem placeD_noL (a : Ad) (x : Fm × Rl) : NoL (placeD a x) := .tup (.cons (.obj (.cons x.1.noL .nil)) (.cons (x.2.noL _) .nil))
theorem Pl.plsD_noL (a : Ad) (p : Pl) : NoLs (p.pls.map (placeD a)) := .of fun d h => by obtain ⟨x, _, rfl⟩ := List.mem_map.mp h; exact placeD_noL a x
theorem Pl.drsD_noL (p : Pl) : NoLs (p.drs.map dropD) := .of fun d h => by obtain ⟨x, _, rfl⟩ := List.mem_map.mp h; exact dropD_noL x
theorem Pl.partsD_noL (a : Ad) (p : Pl) : NoL (p.partsD a) := .tup (.cons (.at _) (.cons (.at _) (.cons (.at _) (.cons (.tup (p.plsD_noL a)) (.cons (.tup p.drsD_noL) .nil)))))
theorem Pl.noL (a : Ad) (p : Pl) : NoL (p.d a) := .obj (.cons (p.partsD_noL a) .nil)
abbrev s_Plan___init__ : Stmt := inClass (top 38) 0
theorem sc_Plan___init__ : FnScope ["self", "base", "fields", "cells", "places", "drops", "number", "thing"] ["self", "base", "fields", "cells", "places", "drops"] (defScope s_Plan___init__) := ⟨rfl, rfl, rfl, by decide +kernel, rfl, by decide +kernel, by decide +kernel⟩
def rPlan (a : Ad) : List D → Str → D → Prop := fun ds g d => ∃ p : Pl, p.ok ∧ ds = [di (p.b : Int), di (p.f : Int), di (p.c : Int), p.plsD a, p.drsD] ∧ g = "parts" ∧ d = p.partsD a
theorem Tx.fcP (T : Tx K w mg a) : a.FC a.CP := .inr (.inr rfl)
theorem num_ok {n m : Nat} (h : n < m) : db (decide ((0 : Int) ≤ (n : Int)) && decide ((n : Int) < (m : Int))) = db true := by rw [decide_eq_true (by omega), decide_eq_true (by omega)]; rfl
theorem num_fn {i n : Int} (h1 : 0 ≤ i) (h2 : i < n) : (fun d : D => d = db true) = fun x => x = db (decide (0 ≤ i) && decide (i < n)) := by rw [decide_eq_true h1, decide_eq_true h2]; rfl
theorem pow_le : ∀ b n : Nat, b ≤ 3 → n ≤ 4 → (b : Int) ^ n ≤ 81 := by
  intro b n hb hn
  have hB : b = 0 ∨ b = 1 ∨ b = 2 ∨ b = 3 := by omega
  have hN : n = 0 ∨ n = 1 ∨ n = 2 ∨ n = 3 ∨ n = 4 := by omega
  rcases hB with rfl | rfl | rfl | rfl <;> rcases hN with rfl | rfl | rfl | rfl | rfl <;> decide
theorem ev_le2 {FC : Addr → Prop} {σ : L2.St} {H : Hp} {ta tb tc : TE} {i j k : Int} (ha : EvD K FC ta σ H (di i)) (hb : EvD K FC tb σ H (di j)) (hc : EvD K FC tc σ H (di k)) : EvD K FC (tChain (rI0 fun i j => .bl (decide (i ≤ j))) (rI0 fun i j => .bl (decide (i ≤ j))) ta tb tc) σ H (db (decide (i ≤ j) && decide (j ≤ k))) :=
  ev_chain ha hb (fun _ _ _ q => ⟨i, j, rfl, rfl, q⟩) (fun _ => hc) fun _ _ _ _ q => ⟨j, k, rfl, rfl, q⟩
theorem ev_tupNot {FC : Addr → Prop} {σ : L2.St} {H : Hp} {te : TE} {ds : List D} (ha : EvD K FC te σ H (.tup ds)) : EvD K FC (tNotN te) σ H (db true) := fun H1 e Q q => ha H1 e _ fun v H2 e2 r => by
  obtain ⟨p, vs, rfl, _⟩ := r.tup_inv
  exact q _ H2 e2 (.at _)
theorem ev_tupIs {FC : Addr → Prop} {σ : L2.St} {H : Hp} {te : TE} {ds : List D} (ha : EvD K FC te σ H (.tup ds)) : EvD K FC (tIsN te) σ H (db false) := fun H1 e Q q => ha H1 e _ fun v H2 e2 r => by
  obtain ⟨p, vs, rfl, _⟩ := r.tup_inv
  exact q _ H2 e2 (.at _)
theorem ok_Pinit {kw : List (Str × V)} (F : FunD K "__init__" "Plan.__init__" (defArgs s_Plan___init__) (defBody s_Plan___init__) (defScope s_Plan___init__) [] kw f fd) (T : Tx K w mg a) (c_is_number : C8.Cal P w K mg base 1 "is_number" (spN K a.FC rNumber) []) (c_power : C8.Cal P w K mg base 1 "power" (spN K a.FC rPower) [])
    (c_is_place : C8.Cal P w K mg base 9 "is_place" (spN K a.FC (rIsPlace a)) []) (c_names_for : C8.Cal P w K mg base 1 "names_for" (spL K a.FC rNamesFor) []) (c_are_drops : C8.Cal P w K mg base 3 "are_drops" (spN K a.FC rAreDrops) []) :
    FnOk P w K mg base CX0 10 f fd ["self", "base", "fields", "cells", "places", "drops"] (spI K a.FC a.CP (rPlan a)) := by
  refine fnI F sc_Plan___init__ (fun ds g d h => ?_) (fun cdv A outer s H E hr => ⟨_, (pss_cons (ps_if (PW.pt (pw_or (pt_not (pt_val (C8.pe_c c_is_number hr (by omega) (by rfl) (pa_cons (pv 1) (pa_cons pe_int pa_nil))))) (pw_or1 (pt_cmpR op_lt (pv 1) pe_int (nomark _))))) (pss_one ps_never) pss_nil)
    (pss_cons (ps_if (PW.pt (pw_or (pt_not (pt_val (C8.pe_c c_is_number hr (by omega) (by rfl) (pa_cons (pv 2) (pa_cons (pe_op op_add (C8.pe_gc rfl T.g_MOST_FIELDS) pe_int) pa_nil))))) (pw_or1 (pt_cmpR op_lt (pv 2) pe_int (nomark _))))) (pss_one ps_never) pss_nil)
    (pss_cons (ps_if (PW.pt (pw_or (pt_not (pt_val (C8.pe_c c_is_number hr (by omega) (by rfl) (pa_cons (pv 3) (pa_cons (pe_op op_add (C8.pe_gc rfl T.g_MOST_CELLS) pe_int) pa_nil))))) (pw_or1 (pt_cmpR op_gt (C8.pe_c c_power hr (by omega) (by rfl) (pa_cons (pv 1) (pa_cons (pe_op op_add (pv 2) (pv 3)) pa_nil))) (C8.pe_gc rfl T.g_MOST_SITUATIONS) (nomark _))))) (pss_one ps_never) pss_nil)
    (pss_cons (ps_if (PW.pt (pw_or (pt_not (pt_val (pe_callB (call_isiK1 (K := K)) (by rfl) T.f_isinstance (by decide +kernel) (pa_cons (pv 4) (pa_cons (pe_bltn (v := .ty "tuple") (by rfl) T.f_tuple (by decide +kernel) rfl) pa_nil))))) (pw_or1 (pt_not (pt_chain op_le op_le pe_int (pe_callB (call_lenK (K := K)) (by rfl) T.f_len (by decide +kernel) (pa_cons (pv 4) pa_nil)) (C8.pe_gc rfl T.g_MOST_PLACES)))))) (pss_one ps_never) pss_nil)
    (pss_cons (ps_for PassesOwn.never rfl (pi_enumT (K := K) (by rfl) T.f_enumerate (pa_cons (pv 4) pa_nil)) (pg_tupK (K := K) (n := 2) (by rfl) (pgs_cons (pg_name (i := 6) sc_Plan___init__.nd (by rfl) (.inl (by rfl)) (by first | exact .inl rfl | exact .inr rfl)) (pgs_cons (pg_name (i := 7) sc_Plan___init__.nd (by rfl) (.inl (by rfl)) (by first | exact .inl rfl | exact .inr rfl)) pgs_nil)))
      (pss_one (ps_if (pt_not (pt_val (C8.pe_c c_is_place hr (by omega) (by rfl) (pa_cons (pv 7) (pa_cons (pv 1) (pa_cons (C8.pe_c c_names_for hr (by omega) (by rfl) (pa_cons (pv 2) (pa_cons (pv 3) (pa_cons (pv 6) pa_nil)))) pa_nil)))))) (pss_one ps_never) pss_nil)))
    (pss_cons (ps_if (PW.pt (pw_and (pt_cmp (pc_notN (pv 5)) rfl) (pw_and1 (pt_not (pt_val (C8.pe_c c_are_drops hr (by omega) (by rfl) (pa_cons (pv 5) (pa_cons (pv 3) (pa_cons (pe_callB (call_lenK (K := K)) (by rfl) T.f_len (by decide +kernel) (pa_cons (pv 4) pa_nil)) pa_nil))))))))) (pss_one ps_never) pss_nil)
    (pss_one (ps_fld (pv 0) (pe_tup (pa_cons (pv 1) (pa_cons (pv 2) (pa_cons (pv 3) (pa_cons (pv 4) (pa_cons (pe_ifExp (pt_cmp (pc_isN (pv 5)) rfl) pe_no (pv 5)) pa_nil)))))) rfl)))))))), ?_⟩)
  · obtain ⟨p, _, rfl, _⟩ := h
    rfl
  · rintro p dx ds g d vs Q ⟨pl, ok, rfl, rfl, rfl⟩ hp R h0 k
    have b2 := ok.b2
    have b3 := ok.b3
    have f1 := ok.f1
    have f2 := ok.f2
    have c2 := ok.c2
    have n1 := ok.n1
    have n2 := ok.n2
    refine st_skipS ((et_or (et_not (et_B (ev_callD (d := db true) (ea_cons (ev_var R rfl) (ea_cons ev_c ea_nil)) ⟨_, _, rfl, num_fn (by omega) (by omega)⟩))) fun _ => et_test (ev_lt (ev_var R rfl) ev_c)).to (by rw [decide_eq_false (by omega)]; rfl)) fun H1 e1 => ?_
    have R1 := R.mono e1
    refine st_skipS ((et_or (et_not (et_B (ev_callD (d := db true) (ea_cons (ev_var R1 rfl) (ea_cons (ev_add ev_c ev_c) ea_nil)) ⟨_, _, rfl, num_fn (by omega) (by omega)⟩))) fun _ => et_test (ev_lt (ev_var R1 rfl) ev_c)).to (by rw [decide_eq_false (by omega)]; rfl)) fun H2 e2 => ?_
    have R2 := R1.mono e2
    refine st_skipS ((et_or (et_not (et_B (ev_callD (d := db true) (ea_cons (ev_var R2 rfl) (ea_cons (ev_add ev_c ev_c) ea_nil)) ⟨_, _, rfl, num_fn (by omega) (by omega)⟩))) fun _ => et_test (ev_gt (ev_callD (ea_cons (ev_var R2 rfl) (ea_cons (ev_add (ev_var R2 rfl) (ev_var R2 rfl)) ea_nil)) ⟨(pl.b : Int), pl.f + pl.c, by simp, by omega, by omega, by omega, rfl⟩) ev_c)).to (by
      have := pow_le pl.b (pl.f + pl.c) b3 (by omega)
      rw [decide_eq_false (by omega)]; rfl)) fun H3 e3 => ?_
    have R3 := R2.mono e3
    refine st_skipS ((et_or (et_not (et_B (ev_isi (b := true) (ev_var R3 rfl) (.tup _) ev_c (.ty "tuple") (kit_ty (by decide +kernel))))) fun _ => et_not (et_test (ev_le2 ev_c (ev_lenT (ev_var R3 rfl)) ev_c))).to (by rw [List.length_map, decide_eq_true (by omega), decide_eq_true (by omega)]; rfl)) fun H4 e4 => ?_
    have R4 := R3.mono e4
    have e04 := ((e1.trans e2).trans e3).trans e4
    refine st_forC2 (n := 6) (m := 7) (xs := List.range pl.pls.length) (dof := fun k => di (k : Int)) (eof := fun k => (pl.pls.map (placeD a)).getD k dn) R4 (by
      have := evz_enumT (K := K) (FC := a.FC) (tr := tCons (tVar 4) tNil) (ds := pl.pls.map (placeD a)) (ea_cons (ev_var R4 rfl) ea_nil) (pl.plsD_noL a)
      unfold enumD at this
      rwa [List.length_map] at this) (by decide) (fun i hm σ' H' e R' nx bk q => ?_) fun σ' H' e R' => ?_
    · have hi := List.mem_range.mp hm
      have hx : pl.pls[i]? = some pl.pls[i] := List.getElem?_eq_getElem hi
      have hpl := ok.pl i _ hx
      have hd : (pl.pls.map (placeD a)).getD i dn = placeD a pl.pls[i] := by rw [List.getD_eq_getElem?_getD, List.getElem?_map, hx]; rfl
      refine st_skip ((et_not (et_B (ev_callD (d := db true) (ea_cons (ev_var R' rfl) (ea_cons (ev_var R' rfl) (ea_cons (el_call (ea_cons (ev_var R' rfl) (ea_cons (ev_var R' rfl) (ea_cons (ev_var R' rfl) ea_nil))) ⟨pl.f, pl.c, i, by omega, by omega, by omega, rfl, rfl⟩).toD ea_nil))) ⟨pl.pls[i].1, pl.pls[i].2, _, _, hpl.dep, hpl.len, hpl.bel, hpl.nms, hpl.rl, by rw [hd], rfl⟩))).to rfl) fun H5 e5 => q _ _ e5 (((R'.mono e5).blank 7).drop0 6)
    · refine st_skipS ((et_and (b := true) (c := false) (et_B (ev_tupNot (ev_var R' rfl))) fun _ => (et_not (et_B (ev_callD (d := db true) (ea_cons (ev_var R' rfl) (ea_cons (ev_var R' rfl) (ea_cons (ev_lenT (ev_var R' rfl)) ea_nil))) ⟨pl.drs, pl.pls.length, ok.dr, by rw [ok.dl]; omega, by rw [List.length_map, ok.dl], rfl⟩))).to rfl).to rfl) fun H5 e5 => ?_
      have R5 := R'.mono e5
      refine st_fld (R5.ref (i := 0) rfl) (((e04.trans e).trans e5) _ _ hp) T.oP.cl T.nPparts (by show 0 < 1000; decide) (ev_tup (ea_cons (ev_var R5 rfl) (ea_cons (ev_var R5 rfl) (ea_cons (ev_var R5 rfl) (ea_cons (ev_var R5 rfl) (ea_cons ((ev_if (b := false) (d := dn) (et_B (ev_tupIs (ev_var R5 rfl))) (fun h => nomatch h) fun _ => ev_var R5 rfl).to rfl) ea_nil))))) (by show 5 ≤ sizeLine; decide)) fun v H' e6 r hp' => k v H' ((e04.trans e).trans (e5.trans e6)) r (pl.partsD_noL a)
abbrev s_Plan_base : Stmt := inClass (top 38) 1
theorem sc_Plan_base : FnScope ["self"] ["self"] (defScope s_Plan_base) := ⟨rfl, rfl, rfl, by decide +kernel, rfl, by decide +kernel, by decide +kernel⟩
def rPbase (a : Ad) : List D → (D → Prop) → Prop := fun ds Pd => ∃ p : Pl, ds = [p.d a] ∧ Pd = fun d => d = di (p.b : Int)
theorem ok_Pbase (F : FnP K "base" "Plan.base" s_Plan_base f fd) (T : Tx K w mg a) : FnOk P w K mg base CX0 1 f fd ["self"] (spN K a.FC (rPbase a)) := by
  refine fnN F sc_Plan_base (fun ds Pd h => ?_) (fun cdv A outer s H E hr => ⟨_, (pss_one (ps_ret (pe_ix (ix_tupK (K := K)) (pe_fldK (K := K) (pv 0)) pe_int (fun _ _ => rfl)))), ?_⟩)
  · obtain ⟨p, rfl, _⟩ := h
    rfl
  · rintro ds Pd vs Q ⟨p, rfl, rfl⟩ R k
    exact st_ret (ev_ixT (ev_fld (ev_var R rfl) T.oP.cl T.nPparts rfl) ev_c rfl) fun v H1 e1 r1 => k _ v H1 rfl e1 r1
abbrev s_Plan_fields : Stmt := inClass (top 38) 2
theorem sc_Plan_fields : FnScope ["self"] ["self"] (defScope s_Plan_fields) := ⟨rfl, rfl, rfl, by decide +kernel, rfl, by decide +kernel, by decide +kernel⟩
def rPfields (a : Ad) : List D → (D → Prop) → Prop := fun ds Pd => ∃ p : Pl, ds = [p.d a] ∧ Pd = fun d => d = di (p.f : Int)
theorem ok_Pfields (F : FnP K "fields" "Plan.fields" s_Plan_fields f fd) (T : Tx K w mg a) : FnOk P w K mg base CX0 1 f fd ["self"] (spN K a.FC (rPfields a)) := by
  refine fnN F sc_Plan_fields (fun ds Pd h => ?_) (fun cdv A outer s H E hr => ⟨_, (pss_one (ps_ret (pe_ix (ix_tupK (K := K)) (pe_fldK (K := K) (pv 0)) pe_int (fun _ _ => rfl)))), ?_⟩)
  · obtain ⟨p, rfl, _⟩ := h
    rfl
  · rintro ds Pd vs Q ⟨p, rfl, rfl⟩ R k
    exact st_ret (ev_ixT (ev_fld (ev_var R rfl) T.oP.cl T.nPparts rfl) ev_c rfl) fun v H1 e1 r1 => k _ v H1 rfl e1 r1
abbrev s_Plan_cells : Stmt := inClass (top 38) 3
theorem sc_Plan_cells : FnScope ["self"] ["self"] (defScope s_Plan_cells) := ⟨rfl, rfl, rfl, by decide +kernel, rfl, by decide +kernel, by decide +kernel⟩
def rPcells (a : Ad) : List D → (D → Prop) → Prop := fun ds Pd => ∃ p : Pl, ds = [p.d a] ∧ Pd = fun d => d = di (p.c : Int)
theorem ok_Pcells (F : FnP K "cells" "Plan.cells" s_Plan_cells f fd) (T : Tx K w mg a) : FnOk P w K mg base CX0 1 f fd ["self"] (spN K a.FC (rPcells a)) := by
  refine fnN F sc_Plan_cells (fun ds Pd h => ?_) (fun cdv A outer s H E hr => ⟨_, (pss_one (ps_ret (pe_ix (ix_tupK (K := K)) (pe_fldK (K := K) (pv 0)) pe_int (fun _ _ => rfl)))), ?_⟩)
  · obtain ⟨p, rfl, _⟩ := h
    rfl
  · rintro ds Pd vs Q ⟨p, rfl, rfl⟩ R k
    exact st_ret (ev_ixT (ev_fld (ev_var R rfl) T.oP.cl T.nPparts rfl) ev_c rfl) fun v H1 e1 r1 => k _ v H1 rfl e1 r1
abbrev s_Plan_places : Stmt := inClass (top 38) 4
theorem sc_Plan_places : FnScope ["self"] ["self"] (defScope s_Plan_places) := ⟨rfl, rfl, rfl, by decide +kernel, rfl, by decide +kernel, by decide +kernel⟩
def rPplaces (a : Ad) : List D → (D → Prop) → Prop := fun ds Pd => ∃ p : Pl, ds = [p.d a] ∧ Pd = fun d => d = p.plsD a
theorem ok_Pplaces (F : FnP K "places" "Plan.places" s_Plan_places f fd) (T : Tx K w mg a) : FnOk P w K mg base CX0 1 f fd ["self"] (spN K a.FC (rPplaces a)) := by
  refine fnN F sc_Plan_places (fun ds Pd h => ?_) (fun cdv A outer s H E hr => ⟨_, (pss_one (ps_ret (pe_ix (ix_tupK (K := K)) (pe_fldK (K := K) (pv 0)) pe_int (fun _ _ => rfl)))), ?_⟩)
  · obtain ⟨p, rfl, _⟩ := h
    rfl
  · rintro ds Pd vs Q ⟨p, rfl, rfl⟩ R k
    exact st_ret (ev_ixT (ev_fld (ev_var R rfl) T.oP.cl T.nPparts rfl) ev_c rfl) fun v H1 e1 r1 => k _ v H1 rfl e1 r1
abbrev s_Plan_drops : Stmt := inClass (top 38) 5
theorem sc_Plan_drops : FnScope ["self"] ["self"] (defScope s_Plan_drops) := ⟨rfl, rfl, rfl, by decide +kernel, rfl, by decide +kernel, by decide +kernel⟩
def rPdrops (a : Ad) : List D → (D → Prop) → Prop := fun ds Pd => ∃ p : Pl, ds = [p.d a] ∧ Pd = fun d => d = p.drsD
theorem ok_Pdrops (F : FnP K "drops" "Plan.drops" s_Plan_drops f fd) (T : Tx K w mg a) : FnOk P w K mg base CX0 1 f fd ["self"] (spN K a.FC (rPdrops a)) := by
  refine fnN F sc_Plan_drops (fun ds Pd h => ?_) (fun cdv A outer s H E hr => ⟨_, (pss_one (ps_ret (pe_ix (ix_tupK (K := K)) (pe_fldK (K := K) (pv 0)) pe_int (fun _ _ => rfl)))), ?_⟩)
  · obtain ⟨p, rfl, _⟩ := h
    rfl
  · rintro ds Pd vs Q ⟨p, rfl, rfl⟩ R k
    exact st_ret (ev_ixT (ev_fld (ev_var R rfl) T.oP.cl T.nPparts rfl) ev_c rfl) fun v H1 e1 r1 => k _ v H1 rfl e1 r1
abbrev s_Plan___len__ : Stmt := inClass (top 38) 7
theorem sc_Plan___len__ : FnScope ["self"] ["self"] (defScope s_Plan___len__) := ⟨rfl, rfl, rfl, by decide +kernel, rfl, by decide +kernel, by decide +kernel⟩
def rPlen (a : Ad) : List D → (D → Prop) → Prop := fun ds Pd => ∃ p : Pl, ds = [p.d a] ∧ Pd = fun d => d = di (p.pls.length : Int)
theorem ok_Plen (F : FnP K "__len__" "Plan.__len__" s_Plan___len__ f fd) (T : Tx K w mg a) (p_Pplaces : Prp P w K mg base 1 a.CP "places" (spN K a.FC (rPplaces a))) : FnOk P w K mg base CX0 3 f fd ["self"] (spN K a.FC (rPlen a)) := by
  refine fnN F sc_Plan___len__ (fun ds Pd h => ?_) (fun cdv A outer s H E hr => ⟨_, (pss_one (ps_ret (pe_callB (call_lenK (K := K)) (by rfl) T.f_len (by decide +kernel) (pa_cons (pe_pp p_Pplaces hr (by omega) (pv 0)) pa_nil)))), ?_⟩)
  · obtain ⟨p, rfl, _⟩ := h
    rfl
  · rintro ds Pd vs Q ⟨p, rfl, rfl⟩ R k
    exact st_ret ((ev_lenT (ev_prop (ev_var R rfl) ⟨p, rfl, rfl⟩)).to (by rw [List.length_map])) fun v H1 e1 r1 => k _ v H1 rfl e1 r1
end
end T34

/-! Kd8 -/
set_option maxHeartbeats 4000000
namespace T34
open PySem PySem.Spec PyProof.Rows L2
local macro_rules | `(tactic| walk_at "ev") => `(tactic| (first
  | (with_reducible exact ev_c)
  | ((with_reducible refine' ev_var ?R ?h); (case R => assumption); (case h => rfl))
  | (with_reducible refine' ea_cons ?_ ?_)
  | (with_reducible exact ea_nil)
  | (with_reducible refine' ev_add ?_ ?_)
  | (with_reducible refine' ev_sub ?_ ?_)
  | (with_reducible refine' ev_mul ?_ ?_ ?_)
  | (with_reducible refine' ev_mod ?_ ?_ ?_)
  | (with_reducible refine' ev_div ?_ ?_ ?_)
  | (with_reducible refine' ev_lt ?_ ?_)
  | (with_reducible refine' ev_le ?_ ?_)
  | (with_reducible refine' ev_gt ?_ ?_)
  | (with_reducible refine' ev_ge ?_ ?_)
  | (with_reducible refine' ev_int ?_)
  | (with_reducible refine' ev_not ?_)
  | (with_reducible refine' ev_tup ?_)
  | (with_reducible refine' ev_between ?_ ?_ ?_)
  | (with_reducible refine' et_test ?_)
  | (with_reducible refine' et_B ?_)
  | (with_reducible refine' et_not ?_)))
section
variable {P : Program} {w : World} {K : PySem.W.Frag} {mg : Str → Option Value} {base : Heap} {a : Ad} {f : Addr} {fd : FuncData}
abbrev s_check_plan : Stmt := top 39
theorem sc_check_plan : FnScope ["plan"] ["plan"] (defScope s_check_plan) := ⟨rfl, rfl, rfl, by decide +kernel, rfl, by decide +kernel, by decide +kernel⟩
def rCheckPlan (a : Ad) : List D → (D → Prop) → Prop := fun ds Pd => ∃ p : Pl, ds = [p.d a] ∧ Pd = fun d => d = dn
theorem ok_check_plan (F : FnP K "check_plan" "check_plan" s_check_plan f fd) (T : Tx K w mg a) : FnOk P w K mg base CX0 1 f fd ["plan"] (spN K a.FC (rCheckPlan a)) := by
  refine fnN F sc_check_plan (fun ds Pd h => ?_) (fun cdv A outer s H E hr => ⟨_, (pss_one (ps_if (pt_not (pt_val (pe_callB (call_isiK1 (K := K)) (by rfl) T.f_isinstance (by decide +kernel) (pa_cons (pv 0) (pa_cons (C8.pe_gc rfl T.c_Plan) pa_nil))))) (pss_one ps_never) pss_nil)), ?_⟩)
  · obtain ⟨p, rfl, _⟩ := h
    rfl
  · rintro ds Pd vs Q ⟨p, rfl, rfl⟩ R k
    exact st_skip ((et_not (et_B (ev_isi (b := true) (ev_var R rfl) (.obj _ T.oP) ev_c (.own _) T.kPP))).to rfl) fun H1 e1 => k dn .non H1 rfl e1 (.at _)
abbrev LenP (P : Program) (w : World) (K : PySem.W.Frag) (mg : Str → Option Value) (base : Heap) (a : Ad) : Prop := LenO P w K mg base 3 a.CP (spN K a.FC (rPlen a))
abbrev s_check_place : Stmt := top 40
theorem sc_check_place : FnScope ["plan", "place"] ["plan", "place"] (defScope s_check_place) := ⟨rfl, rfl, rfl, by decide +kernel, rfl, by decide +kernel, by decide +kernel⟩
def rCheckPlace (a : Ad) : List D → (D → Prop) → Prop := fun ds Pd => ∃ (p : Pl) (i : Nat), i < p.pls.length ∧ p.pls.length ≤ 2 ∧ ds = [p.d a, di (i : Int)] ∧ Pd = fun d => d = dn
theorem ok_check_place (F : FnP K "check_place" "check_place" s_check_place f fd) (T : Tx K w mg a) (c_check_plan : C8.Cal P w K mg base 1 "check_plan" (spN K a.FC (rCheckPlan a)) []) (c_is_number : C8.Cal P w K mg base 1 "is_number" (spN K a.FC rNumber) []) (c_len : LenP P w K mg base a) :
    FnOk P w K mg base CX0 5 f fd ["plan", "place"] (spN K a.FC (rCheckPlace a)) := by
  refine fnN F sc_check_place (fun ds Pd h => ?_) (fun cdv A outer s H E hr => ⟨_, (pss_cons (ps_expr (C8.pe_c c_check_plan hr (by omega) (by rfl) (pa_cons (pv 0) pa_nil)))
    (pss_one (ps_if (pt_not (pt_val (C8.pe_c c_is_number hr (by omega) (by rfl) (pa_cons (pv 1) (pa_cons (pe_callB (call_lenO c_len hr (by omega)) (by rfl) T.f_len (by decide +kernel) (pa_cons (pv 0) pa_nil)) pa_nil))))) (pss_one ps_never) pss_nil))), ?_⟩)
  · obtain ⟨p, i, _, _, rfl, _⟩ := h
    rfl
  · rintro ds Pd vs Q ⟨p, i, hi, hn, rfl, rfl⟩ R k
    refine st_seq (st_drop (ev_callD (ea_cons (ev_var R rfl) ea_nil) ⟨p, rfl, rfl⟩) fun H1 e1 => ?_)
    have R1 := R.mono e1
    exact st_skip ((et_not (et_B (ev_callD (d := db true) (ea_cons (ev_var R1 rfl) (ea_cons (ev_lenO (n := p.pls.length) (ev_var R1 rfl) ⟨p, rfl, rfl⟩ (by omega)) ea_nil)) ⟨_, _, rfl, num_fn (by omega) (by omega)⟩))).to rfl) fun H2 e2 => k dn .non H2 rfl (e1.trans e2) (.at _)
abbrev s_first_of : Stmt := top 42
theorem sc_first_of : FnScope ["plan"] ["plan"] (defScope s_first_of) := ⟨rfl, rfl, rfl, by decide +kernel, rfl, by decide +kernel, by decide +kernel⟩
abbrev firstD (p : Pl) : D := .tup [.tup (List.replicate p.c (di 0)), .tup (List.replicate p.pls.length (.tup []))]
def rFirst (a : Ad) : List D → (D → Prop) → Prop := fun ds Pd => ∃ p : Pl, p.c ≤ 2 ∧ p.pls.length ≤ 2 ∧ ds = [p.d a] ∧ Pd = fun d => d = firstD p
theorem flat_rep (x : D) : ∀ n : Nat, (List.replicate n [x]).flatten = List.replicate n x
  | 0 => rfl
  | n + 1 => by rw [List.replicate_succ, List.flatten_cons, flat_rep x n, List.replicate_succ]; rfl
theorem ok_first_of (F : FnP K "first_of" "first_of" s_first_of f fd) (T : Tx K w mg a) (p_Pcells : Prp P w K mg base 1 a.CP "cells" (spN K a.FC (rPcells a))) (c_len : LenP P w K mg base a) : FnOk P w K mg base CX0 5 f fd ["plan"] (spN K a.FC (rFirst a)) := by
  refine fnN F sc_first_of (fun ds Pd h => ?_) (fun cdv A outer s H E hr => ⟨_, (pss_one (ps_ret (pe_tup (pa_cons (pe_op (op_mulT (K := K)) (pe_tup (pa_cons pe_int pa_nil)) (pe_pp p_Pcells hr (by omega) (pv 0))) (pa_cons (pe_op (op_mulT (K := K)) (pe_tup (pa_cons (pe_tup pa_nil) pa_nil)) (pe_callB (call_lenO c_len hr (by omega)) (by rfl) T.f_len (by decide +kernel) (pa_cons (pv 0) pa_nil))) pa_nil))))), ?_⟩)
  · obtain ⟨p, _, _, rfl, _⟩ := h
    rfl
  · rintro ds Pd vs Q ⟨p, hc, hn, rfl, rfl⟩ R k
    refine st_ret (ev_tup (ea_cons ((ev_mulT (n := p.c) (ev_tup (ea_cons ev_c ea_nil)) (ev_prop (ev_var R rfl) ⟨p, rfl, rfl⟩) (List.cons_ne_nil _ _) (by decide) (by omega)).to (by rw [flat_rep])) (ea_cons ((ev_mulT (n := p.pls.length) (ev_tup (ea_cons (ev_tup ea_nil) ea_nil)) (ev_lenO (ev_var R rfl) ⟨p, rfl, rfl⟩ (by omega)) (List.cons_ne_nil _ _) (by decide) (by omega)).to (by rw [flat_rep])) ea_nil)) (by show 2 ≤ sizeLine; decide)) fun v H1 e1 r1 => k _ v H1 rfl e1 r1
/-! ### deeds -/
inductive Dd
  | set (c n : Nat)
  | ask (p : Nat) (fs : List Nat)
abbrev natsD (l : List Nat) : D := .tup (l.map fun (k : Nat) => di (k : Int))
def Dd.d : Dd → D
  | .set c n => .tup [dz "set", di (c : Int), di (n : Int)]
  | .ask p fs => .tup [dz "ask", di (p : Int), natsD fs]
def Dd.ok (p : Pl) : Dd → Prop
  | .set c n => c < p.c ∧ n < p.b
  | .ask i fs => i < p.pls.length ∧ fs.length = p.f ∧ ∀ x ∈ fs, x < p.b
theorem natsD_noL (l : List Nat) : NoL (natsD l) := .tup (.of fun d h => by obtain ⟨k, _, rfl⟩ := List.mem_map.mp h; exact .at _)
theorem Dd.noL (x : Dd) : NoL x.d := by
  cases x with
  | set c n => exact .tup (.cons (.at _) (.cons (.at _) (.cons (.at _) .nil)))
  | ask p fs => exact .tup (.cons (.at _) (.cons (.at _) (.cons (natsD_noL _) .nil)))
abbrev s_is_deed : Stmt := top 43
theorem sc_is_deed : FnScope ["plan", "deed", "number"] ["plan", "deed"] (defScope s_is_deed) := ⟨rfl, rfl, rfl, by decide +kernel, rfl, by decide +kernel, by decide +kernel⟩
def rIsDeed (a : Ad) : List D → (D → Prop) → Prop := fun ds Pd => ∃ (p : Pl) (i : Nat) (fs : List Nat), p.ok ∧ Dd.ok p (.ask i fs) ∧ ds = [p.d a, Dd.d (.ask i fs)] ∧ Pd = fun d => d = db true
theorem ok_is_deed (F : FnP K "is_deed" "is_deed" s_is_deed f fd) (T : Tx K w mg a) (p_Pcells : Prp P w K mg base 1 a.CP "cells" (spN K a.FC (rPcells a))) (p_Pbase : Prp P w K mg base 1 a.CP "base" (spN K a.FC (rPbase a))) (p_Pfields : Prp P w K mg base 1 a.CP "fields" (spN K a.FC (rPfields a)))
    (c_is_number : C8.Cal P w K mg base 1 "is_number" (spN K a.FC rNumber) []) (c_len : LenP P w K mg base a) : FnOk P w K mg base CX0 5 f fd ["plan", "deed"] (spN K a.FC (rIsDeed a)) := by
  refine fnN F sc_is_deed (fun ds Pd h => ?_) (fun cdv A outer s H E hr => ⟨_, (pss_cons (ps_if (PW.pt (pw_or (pt_not (pt_val (pe_callB (call_isiK1 (K := K)) (by rfl) T.f_isinstance (by decide +kernel) (pa_cons (pv 1) (pa_cons (pe_bltn (v := .ty "tuple") (by rfl) T.f_tuple (by decide +kernel) rfl) pa_nil))))) (pw_or (pt_cmpR op_ne (pe_callB (call_lenK (K := K)) (by rfl) T.f_len (by decide +kernel) (pa_cons (pv 1) pa_nil)) pe_int (nomark _)) (pw_or1 (pt_not (pt_val (pe_callB (call_isiK1 (K := K)) (by rfl) T.f_isinstance (by decide +kernel) (pa_cons (pe_ix (ix_tupK (K := K)) (pv 1) pe_int (fun _ _ => rfl)) (pa_cons (pe_bltn (v := .ty "str") (by rfl) T.f_str (by decide +kernel) rfl) pa_nil))))))))) (pss_one (ps_ret pe_bl)) pss_nil)
    (pss_cons (ps_if (pt_cmpR op_eq (pe_ix (ix_tupK (K := K)) (pv 1) pe_int (fun _ _ => rfl)) pe_str (nomark _)) (pss_one (ps_ret (pe_and (C8.pe_c c_is_number hr (by omega) (by rfl) (pa_cons (pe_ix (ix_tupK (K := K)) (pv 1) pe_int (fun _ _ => rfl)) (pa_cons (pe_pp p_Pcells hr (by omega) (pv 0)) pa_nil))) (pe_one (C8.pe_c c_is_number hr (by omega) (by rfl) (pa_cons (pe_ix (ix_tupK (K := K)) (pv 1) pe_int (fun _ _ => rfl)) (pa_cons (pe_pp p_Pbase hr (by omega) (pv 0)) pa_nil))))))) pss_nil)
    (pss_cons (ps_if (PW.pt (pw_or (pt_cmpR op_ne (pe_ix (ix_tupK (K := K)) (pv 1) pe_int (fun _ _ => rfl)) pe_str (nomark _)) (pw_or (pt_not (pt_val (C8.pe_c c_is_number hr (by omega) (by rfl) (pa_cons (pe_ix (ix_tupK (K := K)) (pv 1) pe_int (fun _ _ => rfl)) (pa_cons (pe_callB (call_lenO c_len hr (by omega)) (by rfl) T.f_len (by decide +kernel) (pa_cons (pv 0) pa_nil)) pa_nil))))) (pw_or1 (pt_not (pt_val (pe_callB (call_isiK1 (K := K)) (by rfl) T.f_isinstance (by decide +kernel) (pa_cons (pe_ix (ix_tupK (K := K)) (pv 1) pe_int (fun _ _ => rfl)) (pa_cons (pe_bltn (v := .ty "tuple") (by rfl) T.f_tuple (by decide +kernel) rfl) pa_nil))))))))) (pss_one (ps_ret pe_bl)) pss_nil)
    (pss_one (ps_ret (pe_and (pe_cmpR op_eq (pe_callB (call_lenK (K := K)) (by rfl) T.f_len (by decide +kernel) (pa_cons (pe_ix (ix_tupK (K := K)) (pv 1) pe_int (fun _ _ => rfl)) pa_nil)) (pe_pp p_Pfields hr (by omega) (pv 0)) (nomark _)) (pe_one (pe_callB (cr_allK (K := K) rfl) (by rfl) T.f_all (by decide +kernel) (pa_cons (pe_lc (own := [("number", 2)]) rfl sc_is_deed.nd (pi_tup (pe_ix (ix_tupK (K := K)) (pv 1) pe_int (fun _ _ => rfl))) (blkOk_by (own := [("number", 2)]) (N := ["plan", "deed", "number"]) (sc := defScope s_is_deed) (by decide +kernel)) (fun _ _ _ _ _ => (pg_name (i := 2) sc_is_deed.nd (by rfl) (.inl (by rfl)) (by first | exact .inl rfl | exact .inr rfl))) (fun _ _ _ _ _ => pts_nil) (fun _ _ _ _ _ => (C8.pe_c c_is_number hr (by omega) (by rfl) (pa_cons (pv 2) (pa_cons (pe_pp p_Pbase hr (by omega) (pv 0)) pa_nil))))) pa_nil))))))))), ?_⟩)
  · obtain ⟨p, i, fs, _, _, rfl, _⟩ := h
    rfl
  · rintro ds Pd vs Q ⟨p, i, fs, ok, hd, rfl, rfl⟩ R k
    have n2 := ok.n2
    have f2 := ok.f2
    obtain ⟨hi, hl, hb⟩ : i < p.pls.length ∧ fs.length = p.f ∧ ∀ x ∈ fs, x < p.b := hd
    refine st_skipS ((et_or (et_not (et_B (ev_isi (b := true) (ev_var R rfl) (.tup _) ev_c (.ty "tuple") (kit_ty (by decide +kernel))))) fun _ => et_or (et_test (ev_ne (ev_lenT (ev_var R rfl)) ev_c rfl)) fun _ => et_not (et_B (ev_isi (b := true) (ev_ixT (ev_var R rfl) ev_c rfl) (.str _) ev_c (.ty "str") (kit_ty (by decide +kernel))))).to (by show (!true || (!decide (V.int 3 = V.int 3) || !true)) = false; decide +kernel)) fun H1 e1 => ?_
    have R1 := R.mono e1
    refine st_skipS ((et_test (ev_eq (ev_ixT (ev_var R1 rfl) ev_c rfl) ev_c rfl)).to (by decide +kernel)) fun H2 e2 => ?_
    have R2 := R1.mono e2
    refine st_skipS ((et_or ((et_test (ev_ne (ev_ixT (ev_var R2 rfl) ev_c rfl) ev_c rfl)).to (b' := false) (by decide +kernel)) fun _ => et_or (et_not (et_B (ev_callD (d := db true) (ea_cons (ev_ixT (ev_var R2 rfl) ev_c rfl) (ea_cons (ev_lenO (n := p.pls.length) (ev_var R2 rfl) ⟨p, rfl, rfl⟩ (by omega)) ea_nil)) ⟨_, _, rfl, num_fn (by omega) (by omega)⟩))) fun _ => et_not (et_B (ev_isi (b := true) (ev_ixT (ev_var R2 rfl) ev_c rfl) (.tup _) ev_c (.ty "tuple") (kit_ty (by decide +kernel))))).to rfl) fun H3 e3 => ?_
    have R3 := R2.mono e3
    refine st_ret ((ev_and (b := true) ((ev_eq (ev_lenT (ev_ixT (ev_var R3 rfl) ev_c rfl)) (ev_prop (ev_var R3 rfl) ⟨p, rfl, rfl⟩) rfl).to (by rw [List.length_map, hl]; simp)) fun _ => ev_all (bs := fs.map fun _ => true) (by
      rw [List.map_map]
      refine el_map (α := Nat) (xs := fs) (dof := fun k => di (k : Int)) (f := fun _ => db true) R3 (evi_tup (ev_ixT (ev_var R3 rfl) ev_c rfl)) (fun x _ => bind_name (List.mem_singleton.mpr rfl)) (fun x hx σ2 H2 e2 R2 => ?_) (fun _ _ => .at _) (by omega)
      have := hb x hx
      exact ev_callD (ea_cons (ev_var R2 rfl) (ea_cons (ev_prop (ev_var R2 rfl) ⟨p, rfl, rfl⟩) ea_nil)) ⟨_, _, rfl, num_fn (by omega) (by omega)⟩)).to (by rw [all_true]; rfl)) fun v H4 e4 r4 => k _ v H4 rfl (((e1.trans e2).trans e3).trans e4) r4
end
end T34

/-! K34e -/
set_option maxHeartbeats 4000000
/-! Things that stand still are told to a callee, and untold behind it. -/
namespace T34
open PySem PySem.Spec PyProof.Rows L2
/-- an object, known as it stands -/
abbrev pinH (o : Obj) : HO := .frz o (.ext fun _ => True)
abbrev Cs := List (Addr × Obj)
def withC (cs : Cs) (H : Hp) : Hp := fun b => match cs.lookup b with
  | some o => some (pinH o)
  | none => H b
def lessC (cs : Cs) (H : Hp) : Hp := fun b => if (cs.lookup b).isSome then none else H b
def Told (cs : Cs) (H : Hp) : Prop := ∀ b o, cs.lookup b = some o → H b = some (pinH o)
def Untold (cs : Cs) (H : Hp) : Prop := ∀ b o, cs.lookup b = some o → H b = none
section
variable {cs : Cs} {H H' : Hp} {b : Addr} {o : Obj} {u : HO}
theorem with_in (h : cs.lookup b = some o) : withC cs H b = some (pinH o) := by unfold withC; rw [h]
theorem with_out (h : cs.lookup b = none) : withC cs H b = H b := by unfold withC; rw [h]
theorem less_in (h : cs.lookup b = some o) : lessC cs H b = none := by unfold lessC; rw [h]; rfl
theorem less_out (h : cs.lookup b = none) : lessC cs H b = H b := by unfold lessC; rw [h]; rfl
theorem told_with : Told cs (withC cs H) := fun b o h => with_in h
theorem untold_less : Untold cs (lessC cs H) := fun b o h => less_in h
theorem less_with (h : Untold cs H) : lessC cs (withC cs H) = H := by
  funext b
  cases e : cs.lookup b with
  | some o => rw [less_in e, h b o e]
  | none => rw [less_out e, with_out e]
theorem with_less (h : Told cs H) : withC cs (lessC cs H) = H := by
  funext b
  cases e : cs.lookup b with
  | some o => rw [with_in e, h b o e]
  | none => rw [with_out e, less_out e]
theorem less_some (h : lessC cs H b = some u) : cs.lookup b = none ∧ H b = some u := by
  cases e : cs.lookup b with
  | some o => rw [less_in e] at h; cases h
  | none => exact ⟨rfl, by rwa [less_out e] at h⟩
theorem untold_some (h : Untold cs H) (e : H b = some u) : cs.lookup b = none := by
  cases q : cs.lookup b with
  | some o => rw [h b o q] at e; cases e
  | none => rfl
theorem with_some (h : Untold cs H) (e : H b = some u) : withC cs H b = some u := by rw [with_out (untold_some h e)]; exact e
theorem told_not (h : Told cs H) (e : H b = some u) (n : ∀ o, u ≠ pinH o) : cs.lookup b = none := by
  cases q : cs.lookup b with
  | some o => rw [h b o q] at e; cases e; exact absurd rfl (n o)
  | none => rfl
theorem same_with (h : Untold cs H) : Same H (withC cs H) := fun b u e => with_some h e
end
section
variable {P : Program} {w : World} {K : PySem.W.Frag} {mg : Str → Option Value} {base : Heap} {A : Around} {outer : List Env} {s s' : Shared} {H H' : Hp} {cs : Cs} {h h' : Heap}
theorem hok_with (x : HOk P w H h) (u : Untold cs H) (g : ∀ b o, cs.lookup b = some o → h.get? b = some o) : HOk P w (withC cs H) h := fun b o e => by
  cases q : cs.lookup b with
  | some ob =>
    rw [with_in q] at e
    cases e
    exact ⟨g b ob q, trivial, ⟨ob, g b ob q⟩, fun _ _ _ _ => trivial⟩
  | none =>
    rw [with_out q] at e
    exact (x b o e).stay (fun _ _ _ r => r) (fun _ r => with_some u r) fun _ _ r => with_some u r
theorem hok_less (x : HOk P w H h) (t : Told cs H) : HOk P w (lessC cs H) h := fun b o e => by
  obtain ⟨q, e⟩ := less_some e
  exact (x b o e).stay (fun _ _ _ r => r) (fun c r => by rw [less_out (told_not t r fun o z => by cases z)]; exact r) fun c xs r => by rw [less_out (told_not t r fun o z => by cases z)]; exact r
theorem told_get (x : HOk P w H h) (t : Told cs H) : ∀ b o, cs.lookup b = some o → h.get? b = some o := fun b o e => by
  have z := x b _ (t b o e)
  exact z.1
theorem Env0.with (e : Env0 P w K mg base A outer s H) (u : Untold cs H) (g : ∀ b o, cs.lookup b = some o → s.heap.get? b = some o ∧ base.get? b = none ∧ b ∉ frs outer) : Env0 P w K mg base A outer s (withC cs H) := by
  refine ⟨e.frames, e.mod, fun b o q => ⟨(e.bs b o q).1, ?_⟩, e.bsz, e.funs, fun b hb => ?_, hok_with e.hok u fun b o q => (g b o q).1, e.bare⟩
  · have n : cs.lookup b = none := by
      cases z : cs.lookup b with
      | some ob => rw [(g b ob z).2.1] at q; cases q
      | none => rfl
    rw [with_out n]
    exact (e.bs b o q).2
  · have n : cs.lookup b = none := by
      cases z : cs.lookup b with
      | some ob => exact absurd hb (g b ob z).2.2
      | none => rfl
    rw [with_out n]
    exact e.frf b hb
theorem Env0.less (e : Env0 P w K mg base A outer s H) (t : Told cs H) : Env0 P w K mg base A outer s (lessC cs H) := by
  refine ⟨e.frames, e.mod, fun b o q => ⟨(e.bs b o q).1, ?_⟩, e.bsz, e.funs, fun b hb => ?_, hok_less e.hok t, e.bare⟩
  · cases z : cs.lookup b with
    | some ob => exact less_in z
    | none => rw [less_out z]; exact (e.bs b o q).2
  · cases z : cs.lookup b with
    | some ob => exact less_in z
    | none => rw [less_out z]; exact e.frf b hb
/-- behind a callee that was told -/
theorem Un.less {fs : List Addr} (un : Un fs [] (withC cs H) H' h h') (u : Untold cs H) (x : HOk P w H' h') (g : ∀ b o, cs.lookup b = some o → h.get? b = some o) : Told cs H' ∧ Un fs [] H (lessC cs H') h h' := by
  have t : Told cs H' := fun b o e => un.frzs b o _ (with_in e)
  have g' := told_get x t
  refine ⟨t, ⟨fun b o e n hb hx => ?_, fun b o e n hb hx => ?_, fun b o e n hx => ?_, un.there, fun b xs e => ?_, fun b o v e => ?_, fun b ps e => ?_⟩⟩
  · cases z : cs.lookup b with
    | some ob =>
      have q := g b ob z
      rw [e] at q
      cases q
      exact g' b o z
    | none => exact un.keep b o e (by rw [with_out z]; exact n) hb hx
  · cases z : cs.lookup b with
    | some ob =>
      have q := g b ob z
      rw [e] at q
      cases q
      exact ⟨o.slots, g' b o z⟩
    | none => exact un.slot b o e (by rw [with_out z]; exact n) hb hx
  · cases z : cs.lookup b with
    | some ob => exact less_in z
    | none => rw [less_out z]; exact un.free b o e (by rw [with_out z]; exact n) hx
  · rw [less_out (untold_some u e)]
    exact un.tups b xs (with_some u e)
  · rw [less_out (untold_some u e)]
    exact un.frzs b o v (with_some u e)
  · rw [less_out (untold_some u e)]
    exact un.tbls b ps (with_some u e)
theorem CE.less {Q Q2 : VK} {r : Value} (c : CE outer P w (withC cs H) s Q r s') (u : Untold cs H) (g : ∀ b o, cs.lookup b = some o → s.heap.get? b = some o) (q : ∀ v H', Q v H' → Told cs H' → Q2 v (lessC cs H')) : CE outer P w H s Q2 r s' := by
  obtain ⟨v, H', os, ba, un, ho, rv, hq⟩ := c
  obtain ⟨t, un'⟩ := Un.less un u ho g
  exact ⟨v, lessC cs H', os, ba, un', hok_less ho t, rv, q v H' hq t⟩
/-- within: what was told is untold, and told again behind -/
theorem Un.with {fs : List Addr} (un : Un fs [] (lessC cs H) H' h h') (t : Told cs H) (g : ∀ b o, cs.lookup b = some o → h.get? b = some o) (nf : ∀ b o, cs.lookup b = some o → b ∉ fs) : Untold cs H' ∧ (∀ b o, cs.lookup b = some o → h'.get? b = some o) ∧ Un fs [] H (withC cs H') h h' := by
  have u : Untold cs H' := fun b o e => un.free b o (g b o e) (less_in e) (by simp)
  refine ⟨u, fun b o e => un.keep b o (g b o e) (less_in e) (nf b o e) (by simp), ⟨fun b o e n hb hx => ?_, fun b o e n hb hx => ?_, fun b o e n hx => ?_, un.there, fun b xs e => ?_, fun b o v e => ?_, fun b ps e => ?_⟩⟩
  · cases z : cs.lookup b with
    | some ob => rw [t b ob z] at n; cases n
    | none => exact un.keep b o e (by rw [less_out z]; exact n) hb hx
  · cases z : cs.lookup b with
    | some ob => rw [t b ob z] at n; cases n
    | none => exact un.slot b o e (by rw [less_out z]; exact n) hb hx
  · cases z : cs.lookup b with
    | some ob => rw [t b ob z] at n; cases n
    | none => rw [with_out z]; exact un.free b o e (by rw [less_out z]; exact n) hx
  · have z := told_not t e fun o q => by cases q
    exact with_some u (un.tups b xs (by rw [less_out z]; exact e))
  · cases z : cs.lookup b with
    | some ob =>
      rw [t b ob z] at e
      cases e
      exact with_in z
    | none => exact with_some u (un.frzs b o v (by rw [less_out z]; exact e))
  · have z := told_not t e fun o q => by cases q
    obtain ⟨m, hm⟩ := un.tbls b ps (by rw [less_out z]; exact e)
    exact ⟨m, with_some u hm⟩
theorem CE.with {Q Q2 : VK} {r : Value} (c : CE outer P w (lessC cs H) s Q r s') (t : Told cs H) (e0 : Env0 P w K mg base A outer s H) (q : ∀ v H', Q v H' → Untold cs H' → Q2 v (withC cs H')) : CE outer P w H s Q2 r s' := by
  obtain ⟨v, H', os, ba, un, ho, rv, hq⟩ := c
  have nf : ∀ b o, cs.lookup b = some o → b ∉ frs outer := fun b o e hb => by
    have z := e0.frf b hb
    rw [t b o e] at z
    cases z
  obtain ⟨u, g', un'⟩ := Un.with un t (told_get e0.hok t) nf
  exact ⟨v, withC cs H', os, ba, un', hok_with ho u g', rv, q v H' hq u⟩
/-! .. by an exception -/
theorem CX.less {E E2 : XK} {r : Value} (c : L2N.CX P w outer (withC cs H) s E r s') (u : Untold cs H) (g : ∀ b o, cs.lookup b = some o → s.heap.get? b = some o) (q : ∀ cls d H', E cls d H' → Told cs H' → E2 cls d (lessC cs H')) : L2N.CX P w outer H s E2 r s' := by
  obtain ⟨a, B, H', cls, d, rfl, fl, ho, ub, na, os, ba, hE⟩ := c
  have t : Told cs H' := fun b o e => ub.frzs b o _ (with_in e)
  have g' := told_get ho t
  refine ⟨a, B, lessC cs H', cls, d, rfl, fl, hok_less ho t, ⟨fun b o e n hb => ?_, ub.slot, fun b o e n => ?_, ub.there, fun b xs e => ?_, fun b o v e => ?_, fun b ps e => ?_⟩, ?_, os, ba, q cls d H' hE t⟩
  · cases z : cs.lookup b with
    | some ob =>
      have q := g b ob z
      rw [e] at q
      cases q
      exact g' b o z
    | none => exact ub.keep b o e (by rw [with_out z]; exact n) hb
  · cases z : cs.lookup b with
    | some ob => exact less_in z
    | none => rw [less_out z]; exact ub.free b o e (by rw [with_out z]; exact n)
  · rw [less_out (untold_some u e)]
    exact ub.tups b xs (with_some u e)
  · rw [less_out (untold_some u e)]
    exact ub.frzs b o v (with_some u e)
  · rw [less_out (untold_some u e)]
    exact ub.tbls b ps (with_some u e)
  · cases z : cs.lookup a with
    | some ob => exact less_in z
    | none => rw [less_out z]; exact na
theorem CX.with {E E2 : XK} {r : Value} (c : L2N.CX P w outer (lessC cs H) s E r s') (t : Told cs H) (e0 : Env0 P w K mg base A outer s H) (q : ∀ cls d H', E cls d H' → Untold cs H' → E2 cls d (withC cs H')) : L2N.CX P w outer H s E2 r s' := by
  obtain ⟨a, B, H', cls, d, rfl, fl, ho, ub, na, os, ba, hE⟩ := c
  have nf : ∀ b o, cs.lookup b = some o → b ∉ frs outer := fun b o e hb => by
    have z := e0.frf b hb
    rw [t b o e] at z
    cases z
  have g := told_get e0.hok t
  have u : Untold cs H' := fun b o e => ub.free b o (g b o e) (less_in e)
  have gB : ∀ b o, cs.lookup b = some o → B.get? b = some o := fun b o e => ub.keep b o (g b o e) (less_in e) (nf b o e)
  have nB : B.get? a = none := fl.2.1
  refine ⟨a, B, withC cs H', cls, d, rfl, fl, hok_with ho u gB, ⟨fun b o e n hb => ?_, ub.slot, fun b o e n => ?_, ub.there, fun b xs e => ?_, fun b o v e => ?_, fun b ps e => ?_⟩, ?_, os, ba, q cls d H' hE u⟩
  · cases z : cs.lookup b with
    | some ob => rw [t b ob z] at n; cases n
    | none => exact ub.keep b o e (by rw [less_out z]; exact n) hb
  · cases z : cs.lookup b with
    | some ob => rw [t b ob z] at n; cases n
    | none => rw [with_out z]; exact ub.free b o e (by rw [less_out z]; exact n)
  · have z := told_not t e fun o q => by cases q
    exact with_some u (ub.tups b xs (by rw [less_out z]; exact e))
  · cases z : cs.lookup b with
    | some ob =>
      rw [t b ob z] at e
      cases e
      exact with_in z
    | none => exact with_some u (ub.frzs b o v (by rw [less_out z]; exact e))
  · have z := told_not t e fun o q => by cases q
    obtain ⟨m, hm⟩ := ub.tbls b ps (by rw [less_out z]; exact e)
    exact ⟨m, with_some u hm⟩
  · cases z : cs.lookup a with
    | some ob =>
      have q := gB a ob z
      rw [nB] at q
      cases q
    | none => rw [with_out z]; exact na
end
end T34

/-! K34f -/
set_option maxHeartbeats 4000000
/-! A lambda with one parameter: made, handed on, called elsewhere. -/
namespace T34
open PySem PySem.Spec PyProof.Rows L2
abbrev cloEnv (q : Str) (scope : Scope) (L f c' : Addr) (cl : List (Str × Addr)) : Env := PySem.W.envX q scope L f (.ref c') cl
def cloCx (P : Program) (w : World) (K : PySem.W.Frag) (mg : Str → Option Value) (base : Heap) (N : List Str) (q : Str) (scope : Scope) (f c' : Addr) (cl : List (Str × Addr)) (A : Around) (outer : List Env) (s : Shared) (H : Hp) (E : XK) : Cx where
  prog := P
  w := w
  K := K
  mg := mg
  base := base
  A := A.deeper (cloEnv q scope s.heap.objs.size f c' cl)
  N := N
  s_0 := s
  H_0 := H
  env := cloEnv q scope s.heap.objs.size f c' cl
  outer := outer
  stack := cloEnv q scope s.heap.objs.size f c' cl :: outer
  ex := []
  fn := fun _ => false
  calm := true
  pn := []
  xe := fun e s' => wpAny (model P w) (A.deeper (cloEnv q scope s.heap.objs.size f c' cl)) (leaving (cloEnv q scope s.heap.objs.size f c' cl) e) (fun _ s'' => L2N.CX P w outer H s E e s'') (fun e' s'' => L2N.CX P w outer H s E e' s'') s'
/-- the scope of a lambda of one parameter x -/
structure CloS (N : List Str) (x : Str) (scope : Scope) : Prop where
  kind : scope.kind = .function
  co : scope.isCoroutine = false
  gen : scope.isGenerator = false
  nd : N.Nodup
  pre : N[0]? = some x
  par : scope.names.lookup x = some .local
  own : ∀ y ∈ scope.names, y.2 ≠ .cell
  one : ∀ y, scope.names.lookup y = some .local → y = x
/-- its cells, and what stands in them -/
structure CloC (N : List Str) (scope : Scope) (cl : List (Str × Addr)) (cs : Cs) (ws : List V) : Prop where
  inj : ∀ x y c, cl.lookup x = some c → cl.lookup y = some c → x = y
  has : ∀ y, scope.names.lookup y = some .free → ∃ c, cl.lookup y = some c
  cell : ∀ y c, cl.lookup y = some c → ∃ o v, cs.lookup c = some o ∧ o.data = .cell v
  val : ∀ (i : Nat) (y : Str) (v : V), N[i + 1]? = some y → ws[i]? = some v → scope.names.lookup y = some .free → ∃ c u o, cl.lookup y = some c ∧ RelV v u ∧ cs.lookup c = some o ∧ o.data = .cell (some u)
  len : ws.length + 1 = N.length
section
variable {P : Program} {w : World} {K : PySem.W.Frag} {mg : Str → Option Value} {base : Heap} {N : List Str} {q x : Str} {scope : Scope} {f c' : Addr} {cl : List (Str × Addr)} {cs : Cs} {ws : List V}
theorem clo_start {A : Around} {outer : List Env} {s : Shared} {H : Hp} {E : XK} {v : V} {u : Value} {h₁ : Heap} {tk : Nat} (S : CloS N x scope) (C : CloC N scope cl cs ws) (hd : A.handled = none) (e0 : Env0 P w K mg base A outer s H) (un : Untold cs H) (g : ∀ b o, cs.lookup b = some o → s.heap.get? b = some o)
    (rv : RelV v u) (hns : h₁.Ns s.heap.objs.size fun y => ([(x, u)] : List (Str × Value)).reverse.lookup y) (kp : ∀ b o, s.heap.get? b = some o → h₁.get? b = some o) :
    Inv (cloCx P w K mg base N q scope f c' cl A outer s H E) [] (some v :: ws.map some) H { s with heap := h₁, toks := tk } := by
  have noA : ∀ b : Addr, b ∉ (cloCx P w K mg base N q scope f c' cl A outer s H E).ex := fun b z => absurd (show b ∈ ([] : List Addr) from z) (by simp)
  refine ⟨⟨e0.mod, S.kind, rfl, rfl, Nat.le_refl _, C.inj, fun y hy => ?_, fun y c z _ => ?_, fun _ => hd, Around.frames_deeper e0.frames, .inr ⟨rfl, rfl⟩, fun b z => absurd z (noA b), e0.bs, e0.bsz, fun b _ _ => noA b, fun b z => absurd z (noA b), e0.funs, e0.frf⟩,
    rfl, e0.bare, Un.kept kp, ⟨_, hns, fun i y v' e1 e2 e3 => ?_⟩, fun y c e => ?_, e0.hok.fresh (Nat.le_refl _), fun y c e => ?_, fun p hp => absurd (show p ∈ ([] : List (Addr × Obj)) ++ [] from hp) (by simp), e0.hok.kept kp, ?_⟩
  · have hy : scope.names.lookup y = some .cell ∨ scope.names.lookup y = some .free := hy
    rcases hy with hy | hy
    · exact absurd rfl (S.own _ (PySem.mem_of_lookup hy))
    · exact C.has y hy
  · exact absurd (show false = true from z) Bool.false_ne_true
  · have e3 : Vis scope y := e3
    have e1 : N[i]? = some y := e1
    rcases e3 with k | k | k
    · have ey := S.one y k
      subst ey
      have i0 : i = 0 := by
        have h0 := S.pre
        have li : i < N.length := (List.getElem?_eq_some_iff.mp e1).1
        have l0 : 0 < N.length := by omega
        rw [List.getElem?_eq_getElem li] at e1
        rw [List.getElem?_eq_getElem l0] at h0
        exact (List.getElem_inj S.nd).mp ((Option.some.inj e1).trans (Option.some.inj h0).symm)
      subst i0
      cases e2
      exact ⟨u, rv, .inl ⟨k, by show List.lookup y [(y, u)] = some u; rw [List.lookup_cons, beq_self_eq_true]⟩⟩
    · exact absurd rfl (S.own _ (PySem.mem_of_lookup k))
    · cases i with
      | zero =>
        have ey : y = x := Option.some.inj (e1.symm.trans S.pre)
        rw [ey, S.par] at k
        cases k
      | succ i =>
        have e2' : ws[i]? = some v' := by
          have e2 : (ws.map some)[i]? = some (some v') := e2
          rw [List.getElem?_map] at e2
          cases z : ws[i]? with
          | none => rw [z] at e2; cases e2
          | some a => rw [z] at e2; cases e2; rfl
        obtain ⟨c, u', o, h1, h2, h3, h4⟩ := C.val i y v' e1 e2' k
        exact ⟨u', h2, .inr ⟨.inr k, c, h1, o, kp c o (g c o h3), h4⟩⟩
  · obtain ⟨o, v', h1, h2⟩ := C.cell y c e
    exact ⟨v', o, kp c o (g c o h1), h2⟩
  · obtain ⟨o, v', h1, h2⟩ := C.cell y c e
    exact un c o h1
  · show (some v :: ws.map some).length = N.length
    rw [List.length_cons, List.length_map]
    exact C.len
/-- what the code object bears -/
abbrev codeH (c' : Addr) (q : Str) : HO := LamX.CodeO c' q
/-- the function object, called with one value -/
theorem clo_fnR {params : Arguments} {body : Expr} {pm ctv : Value} {k : Nat} {tb : XK → TE} (S : CloS N x scope) (C : CloC N scope cl cs ws) (hf : cs.lookup f = some (PySem.W.kla_obj "<lambda>" q params body scope cl pm c' ctv))
    (hbind : ∀ u : Value, bindArgs (PySem.W.kla_fn "<lambda>" q params body scope cl pm (.ref c') ctv) ⟨[u], []⟩ = pure [(x, u)])
    (hbody : ∀ (A : Around) (outer : List Env) (s : Shared) (H : Hp) (E : XK), Room k (A.deeper (cloEnv q scope s.heap.objs.size f c' cl)) → PE (cloCx P w K mg base N q scope f c' cl A outer s H E) body (tb E)) :
    FnR P w K mg base (L2N.CX P w) (k + 1) f (fun vs H Q E => ∃ v, vs = [v] ∧ Told cs H ∧ H c' = some (codeH c' q) ∧ tb (fun cls d H' => Untold cs H' → E cls d (withC cs H')) (some v :: ws.map some) (lessC cs H) (fun r H' => Untold cs H' → Q r (withC cs H'))) := by
  intro A outer s H us vs Q E hr e0 r hsp
  obtain ⟨v, rfl, t, hc, ht⟩ := hsp
  obtain ⟨u, rfl, rv⟩ : ∃ u, us = [u] ∧ RelV v u := by
    cases r with
    | cons r rr => cases rr; exact ⟨_, rfl, r⟩
  have g := told_get e0.hok t
  obtain ⟨⟨oc, vs, tq, hoc, hdc, hvc⟩, _, _⟩ := e0.hok c' _ hc
  have e1 := Env0.less e0 t
  have main : codeAny (model P w) A (.call (.ref f) ⟨[u], []⟩) (CR (L2N.CX P w) outer P w (lessC cs H) s (fun r H' => Untold cs H' → Q r (withC cs H')) (fun cls d H' => Untold cs H' → E cls d (withC cs H'))) s := by
    refine PySem.W.kla_callFunE hr.depth (g f _ hf) rfl S.co S.gen rfl ⟨c', oc, vs, tq, rfl, hoc, hdc, hvc⟩ ?_
    rw [hbind]
    refine wpAny_pure (wpAny_newFunctionEnv S.own (fun y hy => by rw [List.mem_singleton.mp hy]; exact S.par) (fun h₁ hns hsb => ?_) S.kind)
    have kp : ∀ b o, s.heap.get? b = some o → h₁.get? b = some o := fun b o e => hsb.extBut b o (Nat.ne_of_lt (Heap.lt_size e)) (Heap.get?_push_of_some _ e)
    refine ⟨(e0.mod.nolimit.keeps fun b o e => (e0.bs b o e).1).fresh _ hsb, ?_⟩
    show codeAny _ _ (.expr body (cloEnv q scope s.heap.objs.size f c' cl)) _ _
    have J := clo_start (q := q) (f := f) (c' := c') (E := fun cls d H' => Untold cs H' → E cls d (withC cs H')) (tk := s.toks + ([(x, u)] : List (Str × Value)).length) S C hr.hd e1 untold_less g rv hns kp
    refine PySem.W.kla_codeExpr (wpAny_mono ((hbody A outer s (lessC cs H) _ (hr.deeper _)).run [] _ _ (lessC cs H) _ J ht) (fun v s' hq => ?_) fun e s' hq => hq)
    obtain ⟨v', H', J', rv', hq⟩ := hq
    exact ⟨v', H', J'.os, J'.bare, J'.base, J'.hok, rv', hq⟩
  refine codeAny_mono main fun r s' hq => ?_
  cases r with
  | error e => exact CX.with hq t e0 fun cls d H' h u => h u
  | ok fl =>
    cases fl with
    | ret u => exact CE.with hq t e0 fun v H' h u => h u
    | next => exact hq.elim
    | brk => exact hq.elim
    | cont => exact hq.elim
/-- nothing raised: the plain form -/
theorem fnR_plain {k : Nat} {sp : Sp} (F : FnR P w K mg base (L2N.CX P w) k f sp) : FnR P w K mg base CX0 k f (fun vs H Q _ => sp vs H Q C8.E0) := by
  intro A outer s H us vs Q E hr e0 r hsp
  refine codeAny_mono (F A outer s H us vs Q C8.E0 hr e0 r hsp) fun r s' hq => ?_
  cases r with
  | error e =>
    obtain ⟨_, _, _, _, _, _, _, _, _, _, _, _, z⟩ := hq
    exact z.elim
  | ok fl => cases fl <;> exact hq
end
end T34

/-! K34g -/
set_option maxHeartbeats 4000000
namespace T34
open PySem PySem.Spec PyProof.Rows L2 LamX
section
variable {X : Cx} {pins : List (Addr × Obj)} {σ : L2.St} {H : Hp} {s : Shared}
/-- the lambda is made; its function object is new -/
theorem lam_new {T : List (Addr × Str)} {c P : Addr} {params : Arguments} {body : Expr} {scope : Scope} {pos : Pos} {E : Value → Shared → Prop} {Q : Value → Shared → Prop} (I : Inv X pins σ H s) (TB : TabB X.base X.mg c P) (hcode : X.env.code = .ref c)
    (hm : (P, X.env.qual ++ "<lambda>") ∈ T) (hu : ∀ p ∈ T, p.1 = P → p.2 = X.env.qual ++ "<lambda>") (hT : Tabs T H) (hdef : defaultsOf params X.env = ([], [])) (hfree : ∀ y ∈ scope.names, y.2 = .free → ∃ c, X.env.cells.lookup y.1 = some c)
    (h : ∀ (f c' : Addr) (pm ctv : Value) (H1 : Hp) (s' : Shared), Inv X pins σ H1 s' → ExtN H H1 → Tabs T H1 → s.heap.objs.size ≤ f → H1 f = none → H1 c' = some (codeH c' (X.env.qual ++ "<lambda>")) →
      s'.heap.get? f = some (PySem.W.kla_obj "<lambda>" (X.env.qual ++ "<lambda>") params body scope (cloFrom X.env.cells scope.names []) pm c' ctv) → Q (.ref f) s') :
    wpAny (model X.prog X.w) X.A (eval (.Lambda params body scope pos) X.env) Q E s := by
  obtain ⟨tb, hP, tr, names⟩ := hT _ hm
  have atP : s.heap.get? P = some { cls := .none, data := .fields tb } := I.hok P _ hP
  have free0 : ∀ {a : Addr}, s.heap.objs.size ≤ a → H a = none := fun le => I.hok.fresh le
  refine PySem.W.kla_eval hdef ?_
  cases hc : codeAmong pos tb.toList with
  | some cv =>
    obtain ⟨c', e, hco⟩ := names pos cv hc
    subst e
    exact PySem.W.kla_makeFunctionHit (mg := X.mg) (c := c) (P := P) (ps := tb) (closure_ok hfree) I.ok.glob (I.mod.glob.keeps I.bk) hcode (TB.code.keeps I.bk) atP tr hc (TB.bm.keeps I.bk) fun ctv h' tk kp le =>
      h _ c' ((X.mg "__name__").getD .none) ctv H _ (I.kept (t' := tk) fun b o e => Heap.get?_push_of_some _ (kp b o e)) (ExtN.refl H) hT le (free0 le) hco (Heap.get?_push_size _ rfl)
  | none =>
    refine PySem.W.kla_makeFunction (mg := X.mg) (c := c) (P := P) (ps := tb) (closure_ok hfree) I.ok.glob (I.mod.glob.keeps I.bk) hcode (TB.code.keeps I.bk) atP tr hc TB.gP (TB.bm.keeps I.bk) fun c' ctv h' tk kp le lt rec tabAt => ?_
    obtain ⟨c2, oc, vs, t, e2, hoc, hd, hv⟩ := rec
    cases e2
    have leF : s.heap.objs.size ≤ h'.objs.size := Nat.le_trans le (Nat.le_of_lt lt)
    have nC : H c' = none := free0 le
    have nPc : P ≠ c' := ne_of_none hP nC
    have J := inv_table (t' := tk) (q := X.env.qual ++ "<lambda>") (more := #[rawInt pos.line, rawInt pos.col, .ref c']) (h' := h'.push (PySem.W.kla_obj "<lambda>" (X.env.qual ++ "<lambda>") params body scope (cloFrom X.env.cells scope.names []) ((X.mg "__name__").getD .none) c' ctv)) I hP
      (fun b o ne e => Heap.get?_push_of_some _ (kp b o ne e)) (Heap.get?_push_of_some _ tabAt) le ⟨oc, vs, t, Heap.get?_push_of_some _ hoc, hd, hv⟩
    have ext : ExtN H (upd (upd H P (.tbl (tb ++ #[rawInt pos.line, rawInt pos.col, .ref c']))) c' (codeH c' (X.env.qual ++ "<lambda>"))) := fun b o e nt => by
      have nbP : b ≠ P := fun z => by
        subst z
        exact nt tb (Option.some.inj (e.symm.trans hP))
      rw [upd_ne (ne_of_none e nC), upd_ne nbP, e]
    refine h _ c' ((X.mg "__name__").getD .none) ctv _ _ J ext (fun p hp => ?_) leF ?_ upd_same (Heap.get?_push_size _ rfl)
    · by_cases eP : p.1 = P
      · rw [hu p hp eP, eP]
        have eL : (tb ++ #[rawInt pos.line, rawInt pos.col, .ref c']).toList = tb.toList ++ [rawInt pos.line, rawInt pos.col, .ref c'] := by simp
        refine ⟨_, by rw [upd_ne nPc, upd_same], eL ▸ PySem.TriplesOk_snoc _ _ _ _ tr, fun p' cv hcv => ?_⟩
        rw [eL] at hcv
        rcases among_app _ tr hcv with z | z
        · obtain ⟨c0, a1, a2⟩ := names p' cv z
          exact ⟨c0, a1, ext _ _ a2 codeO_ne⟩
        · exact ⟨c', z, upd_same⟩
      · obtain ⟨tb', a1, a2, a3⟩ := hT p hp
        refine ⟨tb', by rw [upd_ne (ne_of_none a1 nC), upd_ne eP, a1], a2, fun p' cv hcv => ?_⟩
        obtain ⟨c0, b1, b2⟩ := a3 p' cv hcv
        exact ⟨c0, b1, ext _ _ b2 codeO_ne⟩
    · rw [upd_ne (Nat.ne_of_gt lt), upd_ne (Nat.ne_of_gt (Nat.lt_of_lt_of_le (Heap.lt_size atP) leF))]
      exact free0 leF
end

/-! ### its cells as they stand -/
def cellsAt (h : Heap) : List (Str × Addr) → Cs
  | [] => []
  | (_, c) :: r => match h.get? c with
    | some o => (c, o) :: cellsAt h r
    | none => cellsAt h r
theorem cellsAt_get {h : Heap} {c : Addr} {o : Obj} : ∀ {l : List (Str × Addr)}, (cellsAt h l).lookup c = some o → h.get? c = some o ∧ ∃ y, (y, c) ∈ l
  | [], e => by cases e
  | (y, c') :: r, e => by
    unfold cellsAt at e
    cases q : h.get? c' with
    | none =>
      rw [q] at e
      obtain ⟨h1, y', h2⟩ := cellsAt_get e
      exact ⟨h1, y', List.mem_cons_of_mem _ h2⟩
    | some o' =>
      rw [q] at e
      have e : List.lookup c ((c', o') :: cellsAt h r) = some o := e
      rw [List.lookup_cons] at e
      cases z : (c == c') with
      | true =>
        rw [z] at e
        cases e
        obtain rfl := eq_of_beq z
        exact ⟨q, y, List.mem_cons_self⟩
      | false =>
        rw [z] at e
        obtain ⟨h1, y', h2⟩ := cellsAt_get e
        exact ⟨h1, y', List.mem_cons_of_mem _ h2⟩
theorem cellsAt_in {h : Heap} {c : Addr} {o : Obj} {y : Str} (hg : h.get? c = some o) : ∀ {l : List (Str × Addr)}, (y, c) ∈ l → (cellsAt h l).lookup c = some o
  | (y', c') :: r, m => by
    unfold cellsAt
    by_cases z : c = c'
    · subst z
      rw [hg]
      show List.lookup c ((c, o) :: cellsAt h r) = some o
      rw [List.lookup_cons, beq_self_eq_true]
    · have ih : (cellsAt h r).lookup c = some o := by
        rcases List.mem_cons.mp m with e | m
        · cases e
          exact absurd rfl z
        · exact cellsAt_in hg m
      cases q : h.get? c' with
      | none => exact ih
      | some o' =>
        show List.lookup c ((c', o') :: cellsAt h r) = some o
        rw [List.lookup_cons, beq_eq_false_iff_ne.mpr z]
        exact ih
/-- the cells that names reach -/
abbrev ownCells (X : Cx) : List (Str × Addr) := X.env.cells.filter fun p => X.env.cells.lookup p.1 == some p.2
theorem own_in {X : Cx} {y : Str} {c : Addr} (h : X.env.cells.lookup y = some c) : (y, c) ∈ ownCells X := List.mem_filter.mpr ⟨PySem.mem_of_lookup h, by rw [h]; exact beq_self_eq_true _⟩
theorem own_out {X : Cx} {y : Str} {c : Addr} (h : (y, c) ∈ ownCells X) : X.env.cells.lookup y = some c := eq_of_beq (List.mem_filter.mp h).2
def SlotsAt (σ : L2.St) (ixs : List Nat) (ws : List V) : Prop := ws.length = ixs.length ∧ ∀ (i j : Nat) (v : V), ixs[i]? = some j → ws[i]? = some v → σ[j]? = some (some v)
/-- what is looked up of a lambda's names once and for all -/
structure LamOk (X : Cx) (N : List Str) (ixs : List Nat) (x : Str) (scope : Scope) : Prop where
  S : CloS N x scope
  free : ∀ y ∈ scope.names, y.2 = .free → X.env.scope.names.lookup y.1 = some .cell ∨ X.env.scope.names.lookup y.1 = some .free
  slots : ∀ (i : Nat) (y : Str), N[i + 1]? = some y → ∃ j, ixs[i]? = some j ∧ X.N[j]? = some y
  len : ixs.length + 1 = N.length
section
variable {X : Cx} {pins : List (Addr × Obj)} {σ : L2.St} {H : Hp} {s : Shared} {N : List Str} {ixs : List Nat} {x : Str} {scope : Scope} {ws : List V} {f : Addr} {obj : Obj}
theorem LamOk.has (L : LamOk X N ixs x scope) (ok : X.Ok) : ∀ y ∈ scope.names, y.2 = .free → ∃ c, X.env.cells.lookup y.1 = some c := fun y hy e => ok.has _ (L.free y hy e)
theorem cl_lookup (L : LamOk X N ixs x scope) (ok : X.Ok) {y : Str} {c : Addr} (e : (cloFrom X.env.cells scope.names []).lookup y = some c) : X.env.cells.lookup y = some c := by
  rcases cloFrom_mem (PySem.mem_of_lookup e) with m | ⟨h1, h2⟩
  · cases m
  · obtain ⟨c1, hc⟩ := L.has ok _ h1 rfl
    have hc : X.env.cells.lookup y = some c1 := hc
    rw [hc] at h2
    rw [hc, h2]
    rfl
theorem cloC_of (L : LamOk X N ixs x scope) (I : Inv X pins σ H s) (hw : SlotsAt σ ixs ws) (hof : s.heap.get? f = some obj) (nc : ∀ v, obj.data ≠ .cell v) : CloC N scope (cloFrom X.env.cells scope.names []) ((f, obj) :: cellsAt s.heap (ownCells X)) ws := by
  have look : ∀ {c : Addr} {o : Obj} {v : Option Value} {y : Str}, X.env.cells.lookup y = some c → s.heap.get? c = some o → o.data = .cell v → List.lookup c ((f, obj) :: cellsAt s.heap (ownCells X)) = some o := fun {c o v y} e ho hd => by
    have nf : c ≠ f := fun z => by
      rw [z, hof] at ho
      cases ho
      exact nc _ hd
    rw [List.lookup_cons, beq_eq_false_iff_ne.mpr nf]
    exact cellsAt_in ho (own_in e)
  refine ⟨fun y z c h1 h2 => I.ok.inj y z c (cl_lookup L I.ok h1) (cl_lookup L I.ok h2), fun y hl => ?_, fun y c e => ?_, fun i y v h1 h2 h3 => ?_, by rw [hw.1]; exact L.len⟩
  · exact mem_lookup (cloFrom_has (cells := X.env.cells) (acc := []) (PySem.mem_of_lookup hl))
  · obtain ⟨v, o, ho, hd⟩ := I.cell y c (cl_lookup L I.ok e)
    exact ⟨o, v, look (cl_lookup L I.ok e) ho hd, hd⟩
  · obtain ⟨j, hj, hN⟩ := L.slots i y h1
    have hv := hw.2 i j v hj h2
    obtain ⟨c, hc⟩ := mem_lookup (cloFrom_has (cells := X.env.cells) (acc := []) (PySem.mem_of_lookup h3))
    have k := L.free _ (PySem.mem_of_lookup h3) rfl
    obtain ⟨m, hn, hl⟩ := I.loc
    obtain ⟨u, r, q⟩ := hl j y v hN hv (k.elim (fun z => .inr (.inl z)) fun z => .inr (.inr z))
    rcases q with ⟨k', _⟩ | ⟨_, c2, e2, o, ho, hd⟩
    · have k' : X.env.scope.names.lookup y = some .local := k'
      rcases k with z | z <;> rw [show X.env.scope.names.lookup y = _ from z] at k' <;> cases k'
    · have e1 := cl_lookup L I.ok hc
      rw [e1] at e2
      cases e2
      exact ⟨c, u, o, hc, r, look e1 ho hd, hd⟩
/-- what a callee may be told -/
theorem tell_ok (I : Inv X pins σ H s) (hn : H f = none) (hof : s.heap.get? f = some obj) (nb : X.base.get? f = none) (nfr : f ∉ frs X.stack) (cab : ∀ y c, X.env.cells.lookup y = some c → X.s_0.heap.objs.size ≤ c) :
    Untold ((f, obj) :: cellsAt s.heap (ownCells X)) H ∧ ∀ b o, List.lookup b ((f, obj) :: cellsAt s.heap (ownCells X)) = some o → s.heap.get? b = some o ∧ X.base.get? b = none ∧ b ∉ frs X.stack := by
  have key : ∀ b o, List.lookup b ((f, obj) :: cellsAt s.heap (ownCells X)) = some o → (b = f ∧ o = obj) ∨ (s.heap.get? b = some o ∧ ∃ y, (y, b) ∈ ownCells X) := fun b o e => by
    rw [List.lookup_cons] at e
    cases z : (b == f) with
    | true =>
      rw [z] at e
      cases e
      exact .inl ⟨eq_of_beq z, rfl⟩
    | false =>
      rw [z] at e
      exact .inr (cellsAt_get e)
  refine ⟨fun b o e => ?_, fun b o e => ?_⟩
  · rcases key b o e with ⟨rfl, rfl⟩ | ⟨_, y, m⟩
    · exact hn
    · exact I.freeC y b (own_out m)
  · rcases key b o e with ⟨rfl, rfl⟩ | ⟨g, y, m⟩
    · exact ⟨hof, nb, nfr⟩
    · have h := own_out m
      have le := cab y b h
      refine ⟨g, Heap.get?_none_of_le (Nat.le_trans I.ok.bsz le), fun z => ?_⟩
      rcases List.mem_cons.mp (I.stkSub b z) with e | z
      · exact I.cne y b h e
      · obtain ⟨_, o', ho, _⟩ := I.ok.funs.mem z
        exact absurd (Nat.lt_of_lt_of_le (Heap.lt_size ho) le) (Nat.lt_irrefl _)
end

/-! ### arguments that end in a lambda; the calls -/
abbrev TLA := L2.St → Hp → (List V → Hp → Addr → Addr → Prop) → Prop
/-- what holds of the function object f with its code object c' in the state behind the arguments -/
def FnNew (X : Cx) (N : List Str) (x : Str) (q : Str) (params : Arguments) (body : Expr) (scope : Scope) (H : Hp) (f c' : Addr) (s : Shared) : Prop :=
  ∃ (pm ctv : Value), X.base.get? f = none ∧ f ∉ frs X.stack ∧ H f = none ∧ H c' = some (codeH c' q) ∧ s.heap.get? f = some (PySem.W.kla_obj "<lambda>" q params body scope (cloFrom X.env.cells scope.names []) pm c' ctv)
structure PAl (X : Cx) (N : List Str) (x : Str) (q : Str) (params : Arguments) (body : Expr) (scope : Scope) (es : List Expr) (t : TLA) : Prop where
  run : ∀ (pos : Pos) (pins : List (Addr × Obj)) (s : Shared) (σ : L2.St) (H : Hp) (Q : List V → Hp → Addr → Addr → Prop), Inv X pins σ H s → t σ H Q → wpAny (model X.prog X.w) X.A (spliced (backTo pos (starEach es X.env)))
    (fun us s' => ∃ vs us0 H1 f c', us = us0 ++ [.ref f] ∧ Vals vs us0 ∧ Inv X pins σ H1 s' ∧ FnNew X N x q params body scope H1 f c' s' ∧ Q vs H1 f c') X.xe s
def tLam1 (T : List (Addr × Str)) (q : Str) : TLA := fun _ H Q => Tabs T H ∧ ∀ H1 f c', ExtN H H1 → Tabs T H1 → H1 c' = some (codeH c' q) → Q [] H1 f c'
def tConsL (te : TE) (t : TLA) : TLA := fun σ H Q => te σ H fun v H1 => t σ H1 fun vs H2 f c' => Q (v :: vs) H2 f c'
section
variable {X : Cx} {N : List Str} {ixs : List Nat} {x : Str} {q : Str} {params : Arguments} {body : Expr} {scope : Scope}
theorem pal_lam {T : List (Addr × Str)} {c P : Addr} {lpos : Pos} (L : LamOk X N ixs x scope) (TB : TabB X.base X.mg c P) (hcode : X.env.code = .ref c) (hm : (P, X.env.qual ++ "<lambda>") ∈ T) (hu : ∀ p ∈ T, p.1 = P → p.2 = X.env.qual ++ "<lambda>") (hq : q = X.env.qual ++ "<lambda>")
    (hdef : defaultsOf params X.env = ([], []) := by rfl) (hs : starEach [.Lambda params body scope lpos] X.env = [(false, eval (.Lambda params body scope lpos) X.env)] := by rfl) : PAl X N x q params body scope [.Lambda params body scope lpos] (tLam1 T q) := by
  subst hq
  refine ⟨fun pos pins s σ H Q I h => ?_⟩
  rw [hs]
  show wpAny _ _ (spliced [(false, eval (.Lambda params body scope lpos) X.env)]) _ _ s
  refine Calls.spliced_cons (lam_new I TB hcode hm hu h.1 hdef (L.has I.ok) fun f c' pm ctv H1 s' I1 eN T1 le hf hc hof => ?_)
  refine Calls.spliced_nil ⟨[], [], H1, f, c', rfl, .nil, I1, ⟨pm, ctv, ?_, fun z => ?_, hf, hc, hof⟩, h.2 H1 f c' eN T1 hc⟩
  · cases e : X.base.get? f with
    | none => rfl
    | some o => exact absurd (Nat.lt_of_lt_of_le (Heap.lt_size (I.bk f o e)) le) (Nat.lt_irrefl _)
  · have lt : f < s.heap.objs.size := by
      rcases List.mem_cons.mp (I.stkSub f z) with e | z
      · rw [e]
        exact I.lt
      · obtain ⟨_, o', ho, _⟩ := I.ok.funs.mem z
        exact Nat.lt_of_lt_of_le (Heap.lt_size ho) I.sz
    exact absurd (Nat.lt_of_lt_of_le lt le) (Nat.lt_irrefl _)
theorem pal_cons {e : Expr} {es : List Expr} {te : TE} {t : TLA} (he : PE X e te) (hr : PAl X N x q params body scope es t) (hs : starEach (e :: es) X.env = (false, eval e X.env) :: starEach es X.env := by rfl) : PAl X N x q params body scope (e :: es) (tConsL te t) := by
  refine ⟨fun pos pins s σ H Q I h => ?_⟩
  rw [hs]
  show wpAny _ _ (spliced ((false, eval e X.env) :: backTo pos (starEach es X.env))) _ _ s
  refine Calls.spliced_cons (thn (he.run pins s σ H _ I h) fun u s1 ⟨v, H1, I1, r1, q1⟩ => ?_)
  exact thn (hr.run pos pins s1 σ H1 _ I1 q1) fun us s2 ⟨vs, us0, H2, f, c', e, r2, I2, fn, q2⟩ => ⟨v :: vs, u :: us0, H2, f, c', by rw [e]; rfl, .cons r1 r2, I2, fn, q2⟩
/-- the promise of the function object, its cells told -/
abbrev spClo (q : Str) (c' : Addr) (cs : Cs) (ws : List V) (tb : XK → TE) : Sp := fun vs H Q E => ∃ v, vs = [v] ∧ Told cs H ∧ H c' = some (codeH c' q) ∧ tb (fun cls d H' => Untold cs H' → E cls d (withC cs H')) (some v :: ws.map some) (lessC cs H) (fun r H' => Untold cs H' → Q r (withC cs H'))
/-- f is told as a function object -/
def FnTold (cs : Cs) (f : Addr) : Prop := ∃ oc od fd sl, cs.lookup f = some ⟨oc, od, .func fd, sl⟩
def tCallL (X : Cx) (kc : Nat) (q : Str) (ixs : List Nat) (tb : XK → TE) (sp : Sp) (E : XK) (t : TLA) : TE := fun σ H Q => t σ H fun vs H1 f c' => ∃ ws, SlotsAt σ ixs ws ∧ ∀ cs, Untold cs H1 → FnTold cs f → FnR X.prog X.w X.K X.mg X.base (L2N.CX X.prog X.w) (kc + 1) f (spClo q c' cs ws tb) →
  sp (vs ++ [.ref f]) (withC cs H1) (fun r H' => Told cs H' → Q r (lessC cs H')) (fun cls d H' => Told cs H' → E cls d (lessC cs H'))
theorem run_callL {pins : List (Addr × Obj)} {σ : L2.St} {H : Hp} {s : Shared} {Q : VK} {kc : Nat} {tb : XK → TE} {CX : CXT} {k : Nat} {g f c' : Addr} {fd : FuncData} {ps : List Str} {sp : Sp} {E : XK} {us : List Value} {vs : List V}
    (hCX : CX = CX0 ∨ CX = L2N.CX X.prog X.w) (L : LamOk X N ixs x scope) (hfn : X.fn = fun _ => true) (hbind : ∀ (cl : List (Str × Addr)) (pm cv ctv u : Value), bindArgs (PySem.W.kla_fn "<lambda>" q params body scope cl pm cv ctv) ⟨[u], []⟩ = pure [(x, u)])
    (hbody : ∀ (f c' : Addr) (cl : List (Str × Addr)) (A : Around) (outer : List Env) (s : Shared) (H : Hp) (E : XK), Room kc (A.deeper (cloEnv q scope s.heap.objs.size f c' cl)) → PE (cloCx X.prog X.w X.K X.mg X.base N q scope f c' cl A outer s H E) body (tb E))
    (F : FnOk X.prog X.w X.K X.mg X.base CX k g fd ps sp) (hr : Room k X.A) (hb : Binds X.K fd ps []) (hx : PassesAt CX X σ E) (I : Inv X pins σ H s) (r : Vals vs us) (fn : FnNew X N x q params body scope H f c' s)
    (h : ∃ ws, SlotsAt σ ixs ws ∧ ∀ cs, Untold cs H → FnTold cs f → FnR X.prog X.w X.K X.mg X.base (L2N.CX X.prog X.w) (kc + 1) f (spClo q c' cs ws tb) → sp (vs ++ [.ref f]) (withC cs H) (fun r H' => Told cs H' → Q r (lessC cs H')) (fun cls d H' => Told cs H' → E cls d (lessC cs H'))) :
    wpAny (model X.prog X.w) X.A (call (.ref g) (us ++ [.ref f])) (EP X pins σ Q) X.xe s := by
  obtain ⟨pm, ctv, nb, nfr, hfH, hc, hof⟩ := fn
  obtain ⟨ws, hw, h⟩ := h
  have C := cloC_of L I hw hof fun v z => by cases z
  obtain ⟨un, gs⟩ := tell_ok I hfH hof nb nfr fun y c e => I.ok.cab y c (by rw [hfn]) e
  have fr := clo_fnR (P := X.prog) (w := X.w) (K := X.K) (mg := X.mg) (base := X.base) (tb := tb) (k := kc) (pm := pm) (ctv := ctv) (params := params) (body := body) (c' := c') (q := q) (f := f) L.S C (by rw [List.lookup_cons, beq_self_eq_true]) (hbind _ _ _ _) (hbody f c' _)
  have hq := h _ un ⟨_, _, _, _, by rw [List.lookup_cons, beq_self_eq_true]⟩ fr
  have hl : (us ++ [Value.ref f]).length = ps.length := by
    have := F.len _ _ _ _ hq
    rw [List.length_append] at this ⊢
    rw [← this, r.length]
    rfl
  have rr : Vals (vs ++ [.ref f]) (us ++ [Value.ref f]) := r.append (.cons rfl .nil)
  have rb := hb s (us ++ [.ref f]) I.kIn (by rw [List.append_nil]; exact hl)
  rw [List.append_nil] at rb
  refine wpAny_call (codeAny_mono (F.run X.A X.stack s _ ⟨us ++ [.ref f], []⟩ (us ++ [.ref f]) (vs ++ [.ref f]) _ _ hr (Env0.with I.env0 un gs) rb rr hq) fun r s' hq => ?_)
  have g := fun b o e => (gs b o e).1
  cases r with
  | error e =>
    rcases hCX with rfl | rfl
    · exact hq.elim
    · exact hx pins H s e s' I (CX.less hq un g fun cls d H' h t => h t)
  | ok fl =>
    cases fl with
    | ret u => exact I.after (CE.less hq un g fun v H' h t => h t)
    | next => exact hq.elim
    | brk => exact hq.elim
    | cont => exact hq.elim
/-- g(e, .., lambda x: body) -/
theorem pe_callL {g : Str} {kc k j : Nat} {tb : XK → TE} {sp : Sp} {e : Expr} {es : List Expr} {t : TLA} {p pos : Pos} (c : C8.Cal X.prog X.w X.K X.mg X.base k g sp []) (hr : Room j X.A) (hk : k ≤ j) (hg : Gl X g) (L : LamOk X N ixs x scope) (hfn : X.fn = fun _ => true)
    (hbind : ∀ (cl : List (Str × Addr)) (pm cv ctv u : Value), bindArgs (PySem.W.kla_fn "<lambda>" q params body scope cl pm cv ctv) ⟨[u], []⟩ = pure [(x, u)])
    (hbody : ∀ (f c' : Addr) (cl : List (Str × Addr)) (A : Around) (outer : List Env) (s : Shared) (H : Hp) (E : XK), Room kc (A.deeper (cloEnv q scope s.heap.objs.size f c' cl)) → PE (cloCx X.prog X.w X.K X.mg X.base N q scope f c' cl A outer s H E) body (tb E))
    (ha : PAl X N x q params body scope (e :: es) t) (hdb : (g == ("__debug__" : Str)) = false := by decide) (he : starEach (e :: es) X.env = (false, eval e X.env) :: starEach es X.env := by rfl) (hpl : (backTo pos (starEach es X.env)).any (·.1) = false := by rfl) :
    PE X (.Call (.Name g p) (e :: es) [] pos) (tCallL X kc q ixs tb sp C8.E0 t) := by
  obtain ⟨fg, fd, ps, ds, F, hm, kp, b, d⟩ := c.ex
  cases d
  refine ⟨fun pins s σ H Q I h => ?_⟩
  refine wpAny_Call_Name_kw (ld_glob I hg hm ?_ hdb)
  refine PySem.W.callWith_K (h₀ := X.base) I.ok.mod.kin kp (thn (ha.run pos pins s σ H _ I h) fun us s1 ⟨vs, us0, H1, f, c', e, r, I1, fn, q1⟩ => ⟨I1.kIn, ?_⟩) he hpl
  subst e
  exact run_callL (.inl rfl) L hfn hbind hbody F (hr.mono hk) b (fun pins H s e s' I c => C8.pass0 (E := C8.E0) pins σ H s e s' I c) I1 r fn q1
def tMethL (X : Cx) (C : Addr) (m : Str) (kc : Nat) (q : Str) (ixs : List Nat) (tb : XK → TE) (sp : Sp) (E : L2.St → XK) (ta : TE) (t : TLA) : TE := fun σ H Q => ta σ H fun y H0 => ∃ a dx fs, y = .ref a ∧ H0 a = some (.ins C dx fs) ∧ fs.lookup m = none ∧ t σ H0 fun vs H1 f c' => ∃ ws, SlotsAt σ ixs ws ∧
  ∀ cs, Untold cs H1 → FnTold cs f → FnR X.prog X.w X.K X.mg X.base (L2N.CX X.prog X.w) (kc + 1) f (spClo q c' cs ws tb) → sp ((.ref a :: vs) ++ [.ref f]) (withC cs H1) (fun r H' => Told cs H' → Q r (lessC cs H')) (fun cls d H' => Told cs H' → E σ cls d (lessC cs H'))
/-- o.m(e, .., lambda x: body) -/
theorem pe_methL {pl : Sem Bool} {m : Str} {C g : Addr} {fd : FuncData} {ps : List Str} {kc k : Nat} {tb : XK → TE} {sp : Sp} {E : L2.St → XK} {o e : Expr} {es : List Expr} {ta : TE} {t : TLA} {apos pos : Pos} (ho : PE X o ta) (c : Cls X.K C) (hm : Meth X.K C m g) (F : FnOk X.prog X.w X.K X.mg X.base (L2N.CX X.prog X.w) k g fd ps sp) (hr : Room k X.A) (hb : Binds X.K fd ps []) (hx : ∀ σ, PassesAt (L2N.CX X.prog X.w) X σ (E σ))
    (L : LamOk X N ixs x scope) (hfn : X.fn = fun _ => true) (hbind : ∀ (cl : List (Str × Addr)) (pm cv ctv u : Value), bindArgs (PySem.W.kla_fn "<lambda>" q params body scope cl pm cv ctv) ⟨[u], []⟩ = pure [(x, u)])
    (hbody : ∀ (f c' : Addr) (cl : List (Str × Addr)) (A : Around) (outer : List Env) (s : Shared) (H : Hp) (E : XK), Room kc (A.deeper (cloEnv q scope s.heap.objs.size f c' cl)) → PE (cloCx X.prog X.w X.K X.mg X.base N q scope f c' cl A outer s H E) body (tb E))
    (ha : PAl X N x q params body scope (e :: es) t) (hst : starEach (e :: es) X.env = (false, eval e X.env) :: starEach es X.env := by rfl) (hpl : (backTo pos (starEach es X.env)).any (·.1) = false := by rfl)
    (ht : eval (.Call (.Attribute o m apos) (e :: es) [] pos) X.env = (do
      let ov ← eval o X.env
      standAt apos.atName
      let (f, first) ← holding [ov] (getMethod ov m pl)
      callWith pos f first (backTo pos (starEach (e :: es) X.env)) (backToKw pos (keywordEach [] X.env))) := by rfl) :
    PE X (.Call (.Attribute o m apos) (e :: es) [] pos) (tMethL X C m kc q ixs tb sp E ta t) := by
  refine ⟨fun pins s σ H Q I h => ?_⟩
  refine PySem.W.methodCall_KW (pl := pl) (thn (ho.run pins s σ H _ I h) fun u s1 ⟨y, H0, I0, ry, a, dx, fs, ey, ea, l, q0⟩ => ?_) ht
  subst ey
  obtain rfl : u = Value.ref a := ry
  refine getmeth_ok I0 ea c hm l ?_
  refine PySem.W.callWith_K (first := [.ref a]) (h₀ := X.base) I0.ok.mod.kin hm.kp (thn (ha.run pos pins s1 σ H0 _ I0 q0) fun us s2 ⟨vs, us0, H1, f, c', e, r, I1, fn, q1⟩ => ⟨I1.kIn, ?_⟩) hst hpl
  subst e
  exact run_callL (us := .ref a :: us0) (vs := .ref a :: vs) (.inr rfl) L hfn hbind hbody F hr hb (hx σ) I1 (.cons rfl r) fn q1
end
end T34

/-! K34h -/
set_option maxHeartbeats 4000000
namespace T34
open PySem PySem.Spec PyProof.Rows L2
/-- a function object that is known as it stands -/
def FnPin (H : Hp) (f : Addr) : Prop := ∃ oc od fd sl, H f = some (pinH ⟨oc, od, .func fd, sl⟩)
theorem FnPin.same {H H' : Hp} {f : Addr} (e : Same H H') (h : FnPin H f) : FnPin H' f := by
  obtain ⟨oc, od, fd, sl, h⟩ := h
  exact ⟨oc, od, fd, sl, e _ _ h⟩
/-- the call of a name that holds a function object -/
def tCallV (X : Cx) (CX : CXT) (kc i : Nat) (E : XK) (t : TA) : TE := fun σ H Q => ∃ f, σ[i]? = some (some (.ref f)) ∧ FnPin H f ∧ t σ H fun vs H1 => FnPin H1 f ∧ ∃ sp, FnR X.prog X.w X.K X.mg X.base CX kc f sp ∧ sp vs H1 Q E
section
variable {X : Cx}
theorem fnPin_at {pins : List (Addr × Obj)} {σ : L2.St} {H : Hp} {s : Shared} {f : Addr} (I : Inv X pins σ H s) (h : FnPin H f) : PySem.W.FnAt f s.heap := by
  obtain ⟨oc, od, fd, sl, h⟩ := h
  have z := I.hok f _ h
  exact ⟨oc, od, fd, sl, z.1⟩
theorem pe_callV {CX : CXT} {kc j i : Nat} {E : XK} {a : Str} {e : Expr} {es : List Expr} {t : TA} {p pos : Pos} (hr : Room j X.A) (hk : kc ≤ j) (hx : Passes CX X E) (hN : X.N[i]? = some a) (hv : Vis X.env.scope a) (ha : PA X (e :: es) t)
    (hd : (a == ("__debug__" : Str)) = false := by decide) (hcd : (a == ("__classdict__" : Str)) = false := by decide) (he : starEach (e :: es) X.env = (false, eval e X.env) :: starEach es X.env := by rfl) (hpl : (backTo pos (starEach es X.env)).any (·.1) = false := by rfl) :
    PE X (.Call (.Name a p) (e :: es) [] pos) (tCallV X CX kc i E t) := by
  refine ⟨fun pins s σ H Q I h => ?_⟩
  obtain ⟨f, hs, hp, h⟩ := h
  refine wpAny_Call_Name_kw (thn ((pe_var (pos := p) hN hv hd hcd).run pins s σ H (fun v H1 => v = .ref f ∧ H1 = H) I ⟨.ref f, hs, rfl, rfl⟩) fun u s1 ⟨v, H1, I1, r1, q1⟩ => ?_)
  obtain ⟨rfl, rfl⟩ := q1
  obtain rfl : u = Value.ref f := r1
  refine PySem.W.callWith_F (fnPin_at I1 hp) (thn (ha.run pos pins s1 σ _ _ I1 h) fun us s2 ⟨vs, H2, I2, r, hp2, sp, F, q⟩ => ⟨fnPin_at I2 hp2, ?_⟩) he hpl
  exact wpAny_call (run_fnR F (hr.mono hk) hx I2 r q)
end
section
variable {K : PySem.W.Frag} {FC : Addr → Prop} {σ : L2.St} {H : Hp} {te : TE} {ta : TA} {d : D} {ds : List D}
theorem EvD.go {Q : VK} (h : EvD K FC te σ H d) (q : ∀ v H', Same H H' → Rep K FC H' d v → Q v H') : te σ H Q := h H (Same.refl H) Q q
theorem EvA.go {Q : List V → Hp → Prop} (h : EvA K FC ta σ H ds) (q : ∀ vs H', Same H H' → Reps K FC H' ds vs → Q vs H') : ta σ H Q := h H (Same.refl H) Q q
theorem EvL.go {Q : VK} (h : EvL K FC te σ H ds) (q : ∀ p vs H', H p = none → Same H H' → H' p = some (.lst vs) → Reps K FC H' ds vs → Q (.ref p) H') : te σ H Q := h H (Same.refl H) Q q
theorem EvT.go {t : TT} {b : Bool} {Q : Bool → Hp → Prop} (h : EvT t σ H b) (q : ∀ H', Same H H' → Q b H') : t σ H Q := h H (Same.refl H) Q q
end
section
variable {P : Program} {w : World} {K : PySem.W.Frag} {mg : Str → Option Value} {base : Heap}
/-- any promise, by the body -/
theorem fnG {CX : CXT} {x qual : Str} {params : Arguments} {body : List Stmt} {scope : Scope} {dvs : List V} {kws : List (Str × V)} {f : Addr} {fd : FuncData} {N ps : List Str} {k : Nat} {sp : Sp} (F : FunD K x qual params body scope dvs kws f fd) (S : FnScope N ps scope)
    (hl : ∀ vs H Q E, sp vs H Q E → vs.length = ps.length)
    (hbody : ∀ (cdv : Value) (A : Around) (outer : List Env) (s : Shared) (H : Hp) (E : XK), Room k (A.deeper (envOfC qual scope s.heap.objs.size f cdv)) →
      ∃ t, PSs (cxOf CX P w K mg base N qual scope f cdv A outer s H E) body t ∧ ∀ vs (Q : VK), sp vs H Q E → t { nx := fun _ H' => Q .non H', rt := Q } (start N vs) H) :
    FnOk P w K mg base CX (k + 1) f fd ps sp := by
  refine F.ok S hl (fun cdv A outer s H vs Q E hr h => ?_)
  obtain ⟨t, ht, q⟩ := hbody cdv A outer s H E hr
  exact ⟨t, ht, q vs Q h⟩
/-- .. that raises nothing -/
theorem fnG0 {x qual : Str} {params : Arguments} {body : List Stmt} {scope : Scope} {dvs : List V} {kws : List (Str × V)} {f : Addr} {fd : FuncData} {N ps : List Str} {k : Nat} {sp : Sp} (F : FunD K x qual params body scope dvs kws f fd) (S : FnScope N ps scope)
    (hl : ∀ vs H Q E, sp vs H Q E → vs.length = ps.length)
    (hbody : ∀ (cdv : Value) (A : Around) (outer : List Env) (s : Shared) (H : Hp) (E : XK), Room k (A.deeper (envOfC qual scope s.heap.objs.size f cdv)) →
      ∃ t, PSs (cxOf CX0 P w K mg base N qual scope f cdv A outer s H E).nox body t ∧ ∀ vs (Q : VK), sp vs H Q E → t { nx := fun _ H' => Q .non H', rt := Q } (start N vs) H) :
    FnOk P w K mg base CX0 (k + 1) f fd ps sp := fnG F S hl fun cdv A outer s H E hr => let ⟨t, ht, q⟩ := hbody cdv A outer s H E hr; ⟨t, ht.nox, q⟩
end
end T34

/-! Kd9 -/
set_option maxHeartbeats 4000000
namespace T34
open PySem PySem.Spec PyProof.Rows L2
local macro_rules | `(tactic| walk_at "ev") => `(tactic| (first
  | (with_reducible exact ev_c)
  | ((with_reducible refine' ev_var ?R ?h); (case R => assumption); (case h => rfl))
  | (with_reducible refine' ea_cons ?_ ?_)
  | (with_reducible exact ea_nil)
  | (with_reducible refine' ev_add ?_ ?_)
  | (with_reducible refine' ev_sub ?_ ?_)
  | (with_reducible refine' ev_mul ?_ ?_ ?_)
  | (with_reducible refine' ev_mod ?_ ?_ ?_)
  | (with_reducible refine' ev_div ?_ ?_ ?_)
  | (with_reducible refine' ev_lt ?_ ?_)
  | (with_reducible refine' ev_le ?_ ?_)
  | (with_reducible refine' ev_gt ?_ ?_)
  | (with_reducible refine' ev_ge ?_ ?_)
  | (with_reducible refine' ev_int ?_)
  | (with_reducible refine' ev_not ?_)
  | (with_reducible refine' ev_tup ?_)
  | (with_reducible refine' ev_between ?_ ?_ ?_)
  | (with_reducible refine' et_test ?_)
  | (with_reducible refine' et_B ?_)
  | (with_reducible refine' et_not ?_)))
section
variable {P : Program} {w : World} {K : PySem.W.Frag} {mg : Str → Option Value} {base : Heap} {a : Ad} {f : Addr} {fd : FuncData}
abbrev s_reckoned : Stmt := top 23
theorem sc_reckoned : FnScope ["form", "base", "ask", "chosen", "one"] ["form", "base", "ask"] (defScope s_reckoned) := ⟨rfl, rfl, rfl, by decide +kernel, rfl, by decide +kernel, by decide +kernel⟩
/-- what is promised of the ask that is handed on: I by how many asks are left -/
structure AskP (P : Program) (w : World) (K : PySem.W.Frag) (mg : Str → Option Value) (base : Heap) (FC : Addr → Prop) (kc : Nat) (H0 : Hp) (b : Int) (f : Addr) (ns : List Nm) (I : Nat → Hp → Prop) : Prop where
  fn : FnR P w K mg base CX0 kc f (fun us H1 Q1 _ => ∃ x k, x ∈ ns ∧ us = [.str x.s] ∧ I (k + 1) H1 ∧ ∀ (z : Int) H2, 0 ≤ z → z < b → I k H2 → Q1 (.int z) H2)
  frz : ∀ k H1, I k H1 → Frz FC H0 H1
  same : ∀ k H1 H2, I k H1 → Same H1 H2 → I k H2
  less : ∀ k H1, I (k + 1) H1 → I k H1
  pin : ∀ k H1, I k H1 → FnPin H1 f
theorem AskP.mono {FC : Addr → Prop} {kc : Nat} {H0 : Hp} {b : Int} {ns : List Nm} {I : Nat → Hp → Prop} (A : AskP P w K mg base FC kc H0 b f ns I) : ∀ {k j : Nat} {H1 : Hp}, I (k + j) H1 → I k H1
  | _, 0, _, h => h
  | k, j + 1, _, h => A.mono (j := j) (A.less _ _ h)
structure FmOk (b : Int) (ns : List Nm) (m : Fm) : Prop where
  ok : ∀ l ∈ m.lvs, l.ok
  bel : ∀ l ∈ m.lvs, l.below b
  nms : ∀ x ∈ nmsOf m.lvs, x ∈ ns
def spReck (P : Program) (w : World) (K : PySem.W.Frag) (mg : Str → Option Value) (base : Heap) (FC : Addr → Prop) (kc n : Nat) : Sp := fun vs H Q _ => ∃ (m : Fm) (b : Int) (f : Addr) (vf : V) (ns : List Nm) (I : Nat → Hp → Prop) (j : Nat) (H0 : Hp),
  vs = [vf, .int b, .ref f] ∧ Rep K FC H0 m.d vf ∧ m.depth ≤ n ∧ 2 ≤ b ∧ b ≤ 3 ∧ FmOk b ns m ∧ AskP P w K mg base FC kc H0 b f ns I ∧ I (j + m.lvs.length) H ∧ ∀ (z : Int) H', 0 ≤ z → z < b → I j H' → Q (.int z) H'
theorem FmOk.sub {b : Int} {ns : List Nm} {m m' : Fm} (h : FmOk b ns m) (hs : ∀ l ∈ m'.lvs, l ∈ m.lvs) : FmOk b ns m' := ⟨fun l hl => h.ok l (hs l hl), fun l hl => h.bel l (hs l hl), fun x hx => h.nms x (mem_nmsOf.mpr (hs _ (mem_nmsOf.mp hx)))⟩
theorem ok_reckoned (F : FnP K "reckoned" "reckoned" s_reckoned f fd) (T : Tx K w mg a) (mgf : mg "reckoned" = some (.ref f)) (b : Binds K fd ["form", "base", "ask"] []) (c_name_of : C8.Cal P w K mg base 1 "name_of" (spN K a.FC rNameOf) []) (c_joined : C8.Cal P w K mg base 1 "joined" (spN K a.FC rJoined) []) (kc : Nat) :
    ∀ n, FnOk P w K mg base CX0 (kc + n + 2) f fd ["form", "base", "ask"] (spReck P w K mg base a.FC kc n)
  | n => by
    have c_reckoned : C8.Cal P w K mg base (kc + n + 1) "reckoned" (fun vs H Q E => ∃ n', n' < n ∧ spReck P w K mg base a.FC kc n' vs H Q E) [] := by
      cases n with
      | zero =>
        refine ⟨f, fd, ["form", "base", "ask"], [], ⟨fun vs H Q E h => ?_, fun A outer s H args us vs Q E _ _ _ _ h => ?_⟩, mgf, F.kp, b, .nil⟩
        · obtain ⟨n', h, _⟩ := h
          omega
        · obtain ⟨n', h, _⟩ := h
          omega
      | succ n => exact ⟨f, fd, ["form", "base", "ask"], [], (ok_reckoned F T mgf b c_name_of c_joined kc n).imp fun vs H Q E ⟨n', h, m, b, f, vf, ns, I, j, H0, h1, h2, h3, h4⟩ => ⟨m, b, f, vf, ns, I, j, H0, h1, h2, by omega, h4⟩, mgf, F.kp, b, .nil⟩
    refine fnG0 F sc_reckoned (fun vs H Q E h => ?_) (fun cdv A outer s H E hr => ⟨_, (pss_cons (ps_if (pt_cmpR op_eq (pe_ix (ix_tupK (K := K)) (pv 0) pe_int (fun _ _ => rfl)) pe_str (nomark _)) (pss_one (ps_ret (pe_ix (ix_tupK (K := K)) (pv 0) pe_int (fun _ _ => rfl)))) pss_nil)
    (pss_cons (ps_if (pt_cmpR (op_inKK (K := K) (w := w) T.d_LEAVES) (pe_ix (ix_tupK (K := K)) (pv 0) pe_int (fun _ _ => rfl)) (C8.pe_gc rfl T.g_LEAVES) (by rfl)) (pss_one (ps_ret (pe_callV (CX := CX0) (kc := kc) (i := 2) (E := C8.E0) hr (by omega) C8.pass0 (by rfl) (by first | exact .inl rfl | exact .inr (.inl rfl)) (pa_cons (C8.pe_c c_name_of hr (by omega) (by rfl) (pa_cons (pv 0) pa_nil)) pa_nil)))) pss_nil)
    (pss_cons (ps_if (pt_cmpR op_eq (pe_ix (ix_tupK (K := K)) (pv 0) pe_int (fun _ _ => rfl)) pe_str (nomark _)) (pss_cons (ps_set (i := 3) sc_reckoned.nd rfl (Or.inl rfl) (pe_ifExp (pt_cmpR op_ne (C8.pe_c c_reckoned hr (by omega) (by rfl) (pa_cons (pe_ix (ix_tupK (K := K)) (pv 0) pe_int (fun _ _ => rfl)) (pa_cons (pv 1) (pa_cons (pv 2) pa_nil)))) pe_int (nomark _)) (pe_ix (ix_tupK (K := K)) (pv 0) pe_int (fun _ _ => rfl)) (pe_ix (ix_tupK (K := K)) (pv 0) pe_int (fun _ _ => rfl))))
    (pss_one (ps_ret (C8.pe_c c_reckoned hr (by omega) (by rfl) (pa_cons (pv 3) (pa_cons (pv 1) (pa_cons (pv 2) pa_nil))))))) pss_nil)
    (pss_cons (ps_set (i := 4) sc_reckoned.nd rfl (Or.inl rfl) (C8.pe_c c_reckoned hr (by omega) (by rfl) (pa_cons (pe_ix (ix_tupK (K := K)) (pv 0) pe_int (fun _ _ => rfl)) (pa_cons (pv 1) (pa_cons (pv 2) pa_nil)))))
    (pss_one (ps_ret (C8.pe_c c_joined hr (by omega) (by rfl) (pa_cons (pe_ix (ix_tupK (K := K)) (pv 0) pe_int (fun _ _ => rfl)) (pa_cons (pv 4) (pa_cons (C8.pe_c c_reckoned hr (by omega) (by rfl) (pa_cons (pe_ix (ix_tupK (K := K)) (pv 0) pe_int (fun _ _ => rfl)) (pa_cons (pv 1) (pa_cons (pv 2) pa_nil)))) (pa_cons (pv 1) pa_nil))))))))))), ?_⟩)
    · obtain ⟨m, b, f, vf, ns, I, j, H0, rfl, _⟩ := h
      rfl
    · rintro vs Q ⟨m, bb, ff, vf, ns, I, j, H0, rfl, rep, hd, b2, b3, ok, A, hI, q⟩
      have R0 : RepE K a.FC H0 (startD ["form", "base", "ask", "chosen", "one"] [m.d, di bb, .at (.ref ff)]) (start ["form", "base", "ask", "chosen", "one"] [vf, .int bb, .ref ff]) := RepE.start (.cons rep (.cons (.at _) (.cons (.at _) .nil)))
      have nol : ∀ d, some d ∈ startD ["form", "base", "ask", "chosen", "one"] [m.d, di bb, .at (.ref ff)] → NoL d := fun d h => by
        have h : some d ∈ ([some m.d, some (di bb), some (.at (.ref ff)), none, none] : SD) := h
        simp at h
        rcases h with rfl | rfl | rfl
        · exact m.noL
        · exact .at _
        · exact .at _
      have RR : ∀ {k H1}, I k H1 → RepE K a.FC H1 _ _ := fun h => R0.frz (A.frz _ _ h) nol
      have ix : ∀ {H : Hp} {σ : L2.St} {n : Nat} {a0 : Addr} {xs : List V} {i : Int} {v : V} {Q : VK}, σ[n]? = some (some (.ref a0)) → SqT K H a0 xs → atI xs i = some v → Q v H → tOp (rIxT K) (tVar n) (tC (.int i)) σ H Q := fun h1 h2 h3 h4 => ⟨_, h1, _, _, _, _, rfl, rfl, h2, h3, h4⟩
      have R := RR hI
      cases m with
      | leaf l =>
        have hI : I (j + 1) H := hI
        cases l with
        | num i =>
          refine st_seq (st_yes ((et_test (ev_eq (ev_ixT (ev_var R rfl) ev_c rfl) ev_c rfl)).to (by decide +kernel)) fun H1 e1 => ?_)
          refine st_ret (ev_ixT (ev_var (R.mono e1) rfl) ev_c rfl) fun v H2 e2 r => ?_
          cases r.at_inv
          have h1 := ok.ok _ (List.mem_singleton.mpr rfl)
          have h2 : i < bb := ok.bel _ (List.mem_singleton.mpr rfl)
          exact q i H2 (Lf.in_lim h1).1 h2 (A.same _ _ _ (A.less _ _ hI) (e1.trans e2))
        | nm x =>
          refine st_skipS ((et_test (ev_eq (ev_ixT (ev_var R rfl) ev_c rfl) ev_c rfl)).to (by cases x <;> decide +kernel)) fun H1 e1 => ?_
          have R1 := R.mono e1
          refine st_seq (st_yes (et_test (ev_isLeaf T (.nm x) R1 rfl)) fun H2 e2 => ?_)
          have hI2 := A.same _ _ _ hI (e1.trans e2)
          refine ⟨ff, rfl, A.pin _ _ hI2, (ea_cons (ev_callD (ea_cons (ev_var (R1.mono e2) rfl) ea_nil) ⟨x, rfl, rfl⟩) ea_nil).go fun vs H3 e3 r3 => ?_⟩
          have hI3 := A.same _ _ _ hI2 e3
          have ev : vs = [.str x.s] := Reps.ats_inv (vs := [.str x.s]) r3
          exact ⟨A.pin _ _ hI3, _, A.fn, x, j, ok.nms x (by exact List.mem_cons_self), ev, hI3, fun z H4 h0 h1 h4 => q z H4 h0 h1 h4⟩
      | bin o x y =>
        have hd : max x.depth y.depth + 1 ≤ n := hd
        obtain ⟨a0, vs0, rfl, hs0, rr0⟩ := rep.tup_inv
        obtain ⟨v0, v1, v2, rfl, rp0, rp1, rp2⟩ : ∃ v0 v1 v2, vs0 = [v0, v1, v2] ∧ Rep K a.FC H0 (dz o.s) v0 ∧ Rep K a.FC H0 x.d v1 ∧ Rep K a.FC H0 y.d v2 := by
          cases rr0 with
          | cons r0 rr =>
            cases rr with
            | cons r1 rr =>
              cases rr with
              | cons r2 rr => cases rr; exact ⟨_, _, _, rfl, r0, r1, r2⟩
        cases rp0.at_inv
        have hI : I ((j + y.lvs.length) + x.lvs.length) H := by
          have : j + (x.lvs ++ y.lvs).length = (j + y.lvs.length) + x.lvs.length := by rw [List.length_append]; omega
          rw [← this]
          exact hI
        have SQ : ∀ {k H1}, I k H1 → SqT K H1 a0 [.str o.s, v1, v2] := fun h => (A.frz _ _ h).sqt hs0
        refine st_skipS ((et_test (ev_eq (ev_ixT (ev_var R rfl) ev_c rfl) ev_c rfl)).to (by cases o <;> decide +kernel)) fun H1 e1 => ?_
        have R1 := R.mono e1
        refine st_skipS (et_test (ev_noLeaf T R1 rfl (Bw.s_in o))) fun H2 e2 => ?_
        have R2 := R1.mono e2
        refine st_skipS ((et_test (ev_eq (ev_ixT (ev_var R2 rfl) ev_c rfl) ev_c rfl)).to (by cases o <;> decide +kernel)) fun H3 e3 => ?_
        have hI3 := A.same _ _ _ hI ((e1.trans e2).trans e3)
        refine st_seq (ix rfl (SQ hI3) (v := v1) rfl ⟨_, rfl, _, rfl, x.depth, by omega, x, bb, ff, v1, ns, I, j + y.lvs.length, H0, rfl, rp1, Nat.le_refl _, b2, b3, ok.sub fun l hl => List.mem_append_left _ hl, A, hI3, fun z1 H4 z10 z1b hI4 => ?_⟩)
        refine ix rfl (SQ hI4) (v := .str o.s) rfl ⟨_, rfl, ix rfl (SQ hI4) (v := v2) rfl ⟨_, rfl, _, rfl, y.depth, by omega, y, bb, ff, v2, ns, I, j, H0, rfl, rp2, Nat.le_refl _, b2, b3, ok.sub fun l hl => List.mem_append_right _ hl, A, hI4, fun z2 H5 z20 z2b hI5 => ?_⟩⟩
        refine ⟨_, rfl, [dz o.s, di z1, di z2, di bb], _, ⟨o, z1, z2, bb, rfl, b2, z10, by omega, rfl⟩, .cons (.at _) (.cons (.at _) (.cons (.at _) (.cons (.at _) .nil))), fun d v H6 p e6 r6 => ?_⟩
        obtain ⟨z, rfl, h0, h1⟩ := p
        cases r6.at_inv
        exact q z H6 h0 h1 (A.same _ _ _ hI5 e6)
      | whn t x y =>
        have hd : max t.depth (max x.depth y.depth) + 1 ≤ n := hd
        obtain ⟨a0, vs0, rfl, hs0, rr0⟩ := rep.tup_inv
        obtain ⟨v0, v1, v2, v3, rfl, rp0, rp1, rp2, rp3⟩ : ∃ v0 v1 v2 v3, vs0 = [v0, v1, v2, v3] ∧ Rep K a.FC H0 (dz "when") v0 ∧ Rep K a.FC H0 t.d v1 ∧ Rep K a.FC H0 x.d v2 ∧ Rep K a.FC H0 y.d v3 := by
          cases rr0 with
          | cons r0 rr =>
            cases rr with
            | cons r1 rr =>
              cases rr with
              | cons r2 rr =>
                cases rr with
                | cons r3 rr => cases rr; exact ⟨_, _, _, _, rfl, r0, r1, r2, r3⟩
        cases rp0.at_inv
        have hI : I ((j + y.lvs.length + x.lvs.length) + t.lvs.length) H := by
          have : j + (t.lvs ++ (x.lvs ++ y.lvs)).length = (j + y.lvs.length + x.lvs.length) + t.lvs.length := by rw [List.length_append, List.length_append]; omega
          rw [← this]
          exact hI
        have SQ : ∀ {k H1}, I k H1 → SqT K H1 a0 [.str "when", v1, v2, v3] := fun h => (A.frz _ _ h).sqt hs0
        refine st_skipS ((et_test (ev_eq (ev_ixT (ev_var R rfl) ev_c rfl) ev_c rfl)).to (by decide +kernel)) fun H1 e1 => ?_
        have R1 := R.mono e1
        refine st_skipS (et_test (ev_noLeaf T R1 rfl (by simp))) fun H2 e2 => ?_
        have R2 := R1.mono e2
        refine st_seq (st_yes ((et_test (ev_eq (ev_ixT (ev_var R2 rfl) ev_c rfl) ev_c rfl)).to (by decide +kernel)) fun H3 e3 => ?_)
        have hI3 := A.same _ _ _ hI ((e1.trans e2).trans e3)
        refine st_seq (ix rfl (SQ hI3) (v := v1) rfl ⟨_, rfl, _, rfl, t.depth, by omega, t, bb, ff, v1, ns, I, j + y.lvs.length + x.lvs.length, H0, rfl, rp1, Nat.le_refl _, b2, b3, ok.sub fun l hl => List.mem_append_left _ hl, A, hI3, fun z1 H4 z10 z1b hI4 => ⟨rfl, _, rfl, ?_⟩⟩)
        cases hz : (!decide (V.int z1 = V.int 0)) with
        | true =>
          refine ix rfl (SQ hI4) (v := v2) rfl ?_
          refine ⟨_, rfl, _, rfl, _, rfl, x.depth, by omega, x, bb, ff, v2, ns, I, j + y.lvs.length, H0, rfl, rp2, Nat.le_refl _, b2, b3, ok.sub fun l hl => List.mem_append_right _ (List.mem_append_left _ hl), A, hI4, fun z H5 h0 h1 hI5 => q z H5 h0 h1 (A.mono hI5)⟩
        | false =>
          refine ix rfl (SQ hI4) (v := v3) rfl ?_
          refine ⟨_, rfl, _, rfl, _, rfl, y.depth, by omega, y, bb, ff, v3, ns, I, j + x.lvs.length, H0, rfl, rp3, Nat.le_refl _, b2, b3, ok.sub fun l hl => List.mem_append_right _ (List.mem_append_right _ hl), A, ?_, fun z H5 h0 h1 hI5 => q z H5 h0 h1 (A.mono hI5)⟩
          have : j + x.lvs.length + y.lvs.length = j + y.lvs.length + x.lvs.length := by omega
          rw [this]
          exact hI4
end
end T34

/-! K34i -/
set_option maxHeartbeats 4000000
/-! An ask that goes on: its state. -/
namespace T34
open PySem PySem.Spec PyProof.Rows L2
/-- all stays but what L tells, and tables -/
def KeepX (L : List Addr) (H H' : Hp) : Prop := ∀ x o, H x = some o → x ∉ L → (∀ ps, o ≠ .tbl ps) → H' x = some o
section
variable {L M : List Addr} {H H1 H2 : Hp} {x : Addr} {o : HO} {FC : Addr → Prop}
theorem KeepX.refl : KeepX L H H := fun _ _ h _ _ => h
theorem KeepX.of (e : Same H H1) : KeepX L H H1 := fun _ _ h _ _ => e _ _ h
theorem KeepX.trans (a : KeepX L H H1) (b : KeepX L H1 H2) : KeepX L H H2 := fun x o h n t => b x o (a x o h n t) n t
theorem KeepX.mono (a : KeepX L H H1) (h : ∀ x ∈ L, x ∈ M) : KeepX M H H1 := fun x o e n t => a x o e (fun z => n (h x z)) t
theorem KeepX.upd (h : x ∈ L) : KeepX L H (upd H x o) := fun y u e n _ => by
  rw [upd_ne fun z => n (by rw [z]; exact h)]
  exact e
/-- what may change: lists, dicts, instances of no class of FC -/
def MutO (FC : Addr → Prop) (H : Hp) (x : Addr) : Prop := (∃ us, H x = some (.lst us)) ∨ (∃ ks, H x = some (.dK ks)) ∨ ∃ C dx gs, H x = some (.ins C dx gs) ∧ ¬ FC C
theorem KeepX.frz (a : KeepX L H H1) (h : ∀ x ∈ L, MutO FC H x) : Frz FC H H1 := by
  refine ⟨fun x xs e => a x _ e (fun z => ?_) (fun _ q => by cases q), fun x o u e => a x _ e (fun z => ?_) (fun _ q => by cases q), fun x C dx gs f n e => a x _ e (fun z => ?_) (fun _ q => by cases q)⟩
  · rcases h x z with ⟨_, q⟩ | ⟨_, q⟩ | ⟨_, _, _, q, _⟩ <;> rw [e] at q <;> cases q
  · rcases h x z with ⟨_, q⟩ | ⟨_, q⟩ | ⟨_, _, _, q, _⟩ <;> rw [e] at q <;> cases q
  · rcases h x z with ⟨_, q⟩ | ⟨_, q⟩ | ⟨_, _, _, q, nf⟩
    · rw [e] at q; cases q
    · rw [e] at q; cases q
    · rw [e] at q; cases q; exact nf f
theorem tabs_same {T : List (Addr × Str)} (t : LamX.Tabs T H) (e : Same H H1) : LamX.Tabs T H1 := t.ext fun _ _ h => e _ _ h
/-- a write to what is no table and no code object -/
theorem tabs_upd {T : List (Addr × Str)} (t : LamX.Tabs T H) (h : MutO FC H x) : LamX.Tabs T (upd H x o) := fun p hp => by
  obtain ⟨ps, h1, h2, h3⟩ := t p hp
  have ne : ∀ {b : Addr} {u : HO}, H b = some u → (∀ us, u ≠ .lst us) → (∀ ks, u ≠ .dK ks) → (∀ C dx gs, u ≠ .ins C dx gs) → b ≠ x := fun {b u} e a1 a2 a3 z => by
    subst z
    rcases h with ⟨_, q⟩ | ⟨_, q⟩ | ⟨_, _, _, q, _⟩ <;> rw [e] at q <;> cases q
    · exact a1 _ rfl
    · exact a2 _ rfl
    · exact a3 _ _ _ rfl
  refine ⟨ps, by rw [upd_ne (ne h1 (fun _ z => by cases z) (fun _ z => by cases z) (fun _ _ _ z => by cases z))]; exact h1, h2, fun pos cv hc => ?_⟩
  obtain ⟨c, e1, e2⟩ := h3 pos cv hc
  exact ⟨c, e1, by rw [upd_ne (ne e2 (fun _ z => by cases z) (fun _ z => by cases z) (fun _ _ _ z => by cases z))]; exact e2⟩
end
/-! ### rows, stocks -/
structure Row where
  marks : List (Nm × Int)
  n : Int
abbrev markD (m : Nm × Int) : D := .tup [nmD m.1, di m.2]
abbrev marksD (l : List (Nm × Int)) : D := .tup (l.map markD)
abbrev rowD (r : Row) : D := .tup [marksD r.marks, di r.n]
theorem marksD_noL (l : List (Nm × Int)) : NoL (marksD l) := .tup (.of fun d h => by obtain ⟨x, _, rfl⟩ := List.mem_map.mp h; exact .tup (.cons (.at _) (.cons (.at _) .nil)))
theorem rowD_noL (r : Row) : NoL (rowD r) := .tup (.cons (marksD_noL _) (.cons (.at _) .nil))
theorem rowsD_noL (rs : List Row) : NoLs (rs.map rowD) := .of fun d h => by obtain ⟨x, _, rfl⟩ := List.mem_map.mp h; exact rowD_noL x
structure RowOk (pl : Pl) (i : Nat) (r : Row) : Prop where
  nms : ∀ m ∈ r.marks, m.1 ∈ nmsFor pl.f pl.c i
  len : r.marks.length ≤ 7
  n0 : 0 ≤ r.n
  nb : r.n < pl.b
abbrev keptD (k : List (List Row)) : D := .tup (k.map fun rs => .tup (rs.map rowD))
def TrOk (d : D) : Prop := ∃ (p : Int) (x : Str) (z : Int), d = .tup [di p, dz x, di z]
theorem TrOk.noL {d : D} (h : TrOk d) : NoL d := by
  obtain ⟨p, x, z, rfl⟩ := h
  exact .tup (.cons (.at _) (.cons (.at _) (.cons (.at _) .nil)))
/-! ### an ask's state -/
structure Asks where
  (p dx la lt : Addr)
  ls : List Addr
  (vo vs : V)
abbrev Asks.L (A : Asks) : List Addr := A.lt :: A.ls
structure AskC (pl : Pl) (fs cells : List Nat) (A : Asks) : Prop where
  ok : pl.ok
  fl : fs.length = pl.f
  fb : ∀ x ∈ fs, x < pl.b
  cl : cells.length = pl.c
  cb : ∀ x ∈ cells, x < pl.b
  ln : A.ls.length = pl.pls.length
  nd : A.ls.Nodup
  tl : A.lt ∉ A.ls
  al : A.la ∉ A.ls
  at_ : A.la ≠ A.lt
def most : Nat := 50000
structure AskI (K : PySem.W.Frag) (a : Ad) (pl : Pl) (fs cells : List Nat) (A : Asks) (b1 k : Nat) (H : Hp) : Prop where
  ob : H A.p = some (.ins a.CA A.dx [("owner", A.vo), ("situation", A.vs), ("held", .ref A.la), ("trace", .ref A.lt)])
  ow : Rep K a.FC H (pl.d a) A.vo
  si : Rep K a.FC H (.tup [natsD fs, natsD cells]) A.vs
  he : H A.la = some (.lst (A.ls.map V.ref))
  rows : ∀ (i : Nat) (l : Addr), A.ls[i]? = some l → ∃ (rs : List Row) (us : List V), H l = some (.lst us) ∧ Reps K a.FC H (rs.map rowD) us ∧ (∀ r ∈ rs, RowOk pl i r) ∧ (i = 0 → rs.length + k ≤ most) ∧ (0 < i → rs.length ≤ b1)
  tr : ∃ (ts : List D) (us : List V), H A.lt = some (.lst us) ∧ Reps K a.FC H ts us ∧ (∀ d ∈ ts, TrOk d) ∧ ts.length + k ≤ most
section
variable {K : PySem.W.Frag} {a : Ad} {pl : Pl} {fs cells : List Nat} {A : Asks} {b1 k : Nat} {H H' : Hp}
theorem AskI.mut (I : AskI K a pl fs cells A b1 k H) : ∀ x ∈ A.L, MutO a.FC H x := fun x hx => by
  rcases List.mem_cons.mp hx with rfl | hx
  · obtain ⟨_, us, h, _⟩ := I.tr
    exact .inl ⟨us, h⟩
  · obtain ⟨i, hi⟩ := List.getElem?_of_mem hx
    obtain ⟨_, us, h, _⟩ := I.rows i x hi
    exact .inl ⟨us, h⟩
theorem sit_noL (fs cells : List Nat) : NoL (.tup [natsD fs, natsD cells]) := .tup (.cons (natsD_noL _) (.cons (natsD_noL _) .nil))
theorem AskI.pL (I : AskI K a pl fs cells A b1 k H) : A.p ∉ A.L := fun h => by
  rcases I.mut _ h with ⟨_, q⟩ | ⟨_, q⟩ | ⟨_, _, _, q, _⟩
  · rw [I.ob] at q; cases q
  · rw [I.ob] at q; cases q
  · rcases List.mem_cons.mp h with z | z
    · obtain ⟨_, us, h, _⟩ := I.tr
      rw [← z, I.ob] at h
      cases h
    · obtain ⟨i, hi⟩ := List.getElem?_of_mem z
      obtain ⟨_, us, h, _⟩ := I.rows i _ hi
      rw [I.ob] at h
      cases h
/-- nothing of it changes -/
theorem AskI.off {M : List Addr} (I : AskI K a pl fs cells A b1 k H) (e : KeepX M H H') (z : Frz a.FC H H') (hM : ∀ x ∈ M, x ≠ A.p ∧ x ≠ A.la ∧ x ∉ A.L) : AskI K a pl fs cells A b1 k H' := by
  refine ⟨e _ _ I.ob (fun h => (hM _ h).1 rfl) (fun _ q => by cases q), I.ow.frz z (pl.noL a), I.si.frz z (sit_noL _ _), e _ _ I.he (fun h => (hM _ h).2.1 rfl) (fun _ q => by cases q), fun i l hl => ?_, ?_⟩
  · obtain ⟨rs, us, h1, h2, h3⟩ := I.rows i l hl
    exact ⟨rs, us, e _ _ h1 (fun h => (hM _ h).2.2 (List.mem_cons_of_mem _ (List.mem_of_getElem? hl))) (fun _ q => by cases q), h2.frz z (rowsD_noL _), h3⟩
  · obtain ⟨ts, us, h1, h2, h3, h4⟩ := I.tr
    exact ⟨ts, us, e _ _ h1 (fun h => (hM _ h).2.2 List.mem_cons_self) (fun _ q => by cases q), h2.frz z (.of fun d hd => (h3 d hd).noL), h3, h4⟩
theorem AskI.same (I : AskI K a pl fs cells A b1 k H) (e : Same H H') : AskI K a pl fs cells A b1 k H' := I.off (M := []) (KeepX.of e) (Same.frz e) fun _ h => (nomatch h)
theorem AskI.less (I : AskI K a pl fs cells A b1 (k + 1) H) : AskI K a pl fs cells A b1 k H := by
  refine ⟨I.ob, I.ow, I.si, I.he, fun i l hl => ?_, ?_⟩
  · obtain ⟨rs, us, h1, h2, h3, h4, h5⟩ := I.rows i l hl
    exact ⟨rs, us, h1, h2, h3, fun z => by have := h4 z; omega, h5⟩
  · obtain ⟨ts, us, h1, h2, h3, h4⟩ := I.tr
    exact ⟨ts, us, h1, h2, h3, by omega⟩
theorem AskI.down : ∀ (j : Nat), AskI K a pl fs cells A b1 (k + j) H → AskI K a pl fs cells A b1 k H
  | 0, I => I
  | j + 1, I => AskI.down j (AskI.less I)
/-- a thing is told of what happened -/
theorem AskI.addTr (C : AskC pl fs cells A) (I : AskI K a pl fs cells A b1 (k + 1) H) {us : List V} {d : D} {v : V} (ht : H A.lt = some (.lst us)) (r : Rep K a.FC H d v) (hd : TrOk d) : AskI K a pl fs cells A b1 k (upd H A.lt (.lst (us ++ [v]))) := by
  have z : Frz a.FC H (upd H A.lt (.lst (us ++ [v]))) := Frz.upd_lst ht
  have pn : A.p ≠ A.lt := fun q => I.pL (by rw [q]; exact List.mem_cons_self)
  refine ⟨by rw [upd_ne pn]; exact I.ob, I.ow.frz z (pl.noL a), I.si.frz z (sit_noL _ _), by rw [upd_ne C.at_]; exact I.he, fun i l hl => ?_, ?_⟩
  · obtain ⟨rs, ws, h1, h2, h3, h4, h5⟩ := I.rows i l hl
    have ne : l ≠ A.lt := fun q => C.tl (by rw [← q]; exact List.mem_of_getElem? hl)
    exact ⟨rs, ws, by rw [upd_ne ne]; exact h1, h2.frz z (rowsD_noL _), h3, fun q => by have := h4 q; omega, h5⟩
  · obtain ⟨ts, ws, h1, h2, h3, h4⟩ := I.tr
    rw [ht] at h1
    cases h1
    refine ⟨ts ++ [d], us ++ [v], upd_same, (h2.append (.cons r .nil)).frz z (.of fun e he => ?_), fun e he => ?_, by rw [List.length_append]; exact Nat.le_trans (by show ts.length + 1 + k ≤ ts.length + (k + 1); omega) h4⟩
    all_goals
      rcases List.mem_append.mp he with he | he
      · first | exact (h3 e he).noL | exact h3 e he
      · rw [List.mem_singleton.mp he]
        first | exact hd.noL | exact hd
/-- a row more -/
theorem AskI.addRow (C : AskC pl fs cells A) {b2 : Nat} (I : AskI K a pl fs cells A b1 (k + 1) H) {i : Nat} {l : Addr} {us : List V} {r : Row} {v : V} (hi : A.ls[i]? = some l) (hl : H l = some (.lst us)) (rr : Rep K a.FC H (rowD r) v) (hr : RowOk pl i r) (hb : b1 ≤ b2) (hb1 : 0 < i → b1 + 1 ≤ b2) :
    AskI K a pl fs cells A b2 k (upd H l (.lst (us ++ [v]))) := by
  have z : Frz a.FC H (upd H l (.lst (us ++ [v]))) := Frz.upd_lst hl
  have lm : l ∈ A.ls := List.mem_of_getElem? hi
  have pn : A.p ≠ l := fun q => I.pL (by rw [q]; exact List.mem_cons_of_mem _ lm)
  have an : A.la ≠ l := fun q => C.al (by rw [q]; exact lm)
  have tn : A.lt ≠ l := fun q => C.tl (by rw [q]; exact lm)
  refine ⟨by rw [upd_ne pn]; exact I.ob, I.ow.frz z (pl.noL a), I.si.frz z (sit_noL _ _), by rw [upd_ne an]; exact I.he, fun j l' hl' => ?_, ?_⟩
  · obtain ⟨rs, ws, h1, h2, h3, h4, h5⟩ := I.rows j l' hl'
    by_cases e : l' = l
    · subst e
      have ij : i = j := by
        have li := (List.getElem?_eq_some_iff.mp hi).1
        have lj := (List.getElem?_eq_some_iff.mp hl').1
        have ei := (List.getElem?_eq_some_iff.mp hi).2
        have ej := (List.getElem?_eq_some_iff.mp hl').2
        exact (List.getElem_inj C.nd).mp (ei.trans ej.symm)
      subst ij
      rw [hl] at h1
      cases h1
      refine ⟨rs ++ [r], us ++ [v], upd_same, ?_, fun q hq => ?_, fun q => ?_, fun q => ?_⟩
      · rw [List.map_append]
        exact (h2.append (.cons rr .nil)).frz z (.append (rowsD_noL _) (.cons (rowD_noL r) .nil))
      · rcases List.mem_append.mp hq with hq | hq
        · exact h3 q hq
        · rw [List.mem_singleton.mp hq]
          exact hr
      · have := h4 q
        rw [List.length_append]
        show rs.length + 1 + k ≤ most
        omega
      · have := h5 q
        have := hb1 q
        rw [List.length_append]
        show rs.length + 1 ≤ b2
        omega
    · exact ⟨rs, ws, by rw [upd_ne e]; exact h1, h2.frz z (rowsD_noL _), h3, fun q => by have := h4 q; omega, fun q => Nat.le_trans (h5 q) hb⟩
  · obtain ⟨ts, ws, h1, h2, h3, h4⟩ := I.tr
    exact ⟨ts, ws, by rw [upd_ne tn]; exact h1, h2.frz z (.of fun d hd => (h3 d hd).noL), h3, by omega⟩
end
end T34

/-! Kd10 -/
set_option maxHeartbeats 4000000
namespace T34
open PySem PySem.Spec PyProof.Rows L2
local macro_rules | `(tactic| walk_at "ev") => `(tactic| (first
  | (with_reducible exact ev_c)
  | ((with_reducible refine' ev_var ?R ?h); (case R => assumption); (case h => rfl))
  | (with_reducible refine' ea_cons ?_ ?_)
  | (with_reducible exact ea_nil)
  | (with_reducible refine' ev_add ?_ ?_)
  | (with_reducible refine' ev_sub ?_ ?_)
  | (with_reducible refine' ev_mul ?_ ?_ ?_)
  | (with_reducible refine' ev_mod ?_ ?_ ?_)
  | (with_reducible refine' ev_div ?_ ?_ ?_)
  | (with_reducible refine' ev_lt ?_ ?_)
  | (with_reducible refine' ev_le ?_ ?_)
  | (with_reducible refine' ev_gt ?_ ?_)
  | (with_reducible refine' ev_ge ?_ ?_)
  | (with_reducible refine' ev_int ?_)
  | (with_reducible refine' ev_not ?_)
  | (with_reducible refine' ev_tup ?_)
  | (with_reducible refine' ev_between ?_ ?_ ?_)
  | (with_reducible refine' et_test ?_)
  | (with_reducible refine' et_B ?_)
  | (with_reducible refine' et_not ?_)))
section
variable {P : Program} {w : World} {K : PySem.W.Frag} {mg : Str → Option Value} {base : Heap} {a : Ad} {TT : List (Addr × Str)} {f : Addr} {fd : FuncData}
open LamX (Tabs)
/-- what an ask's step leaves -/
structure AskR (K : PySem.W.Frag) (a : Ad) (TT : List (Addr × Str)) (pl : Pl) (fs cells : List Nat) (A : Asks) (b1 k : Nat) (H H' : Hp) : Prop where
  st : AskI K a pl fs cells A b1 k H'
  kp : KeepX A.L H H'
  tb : Tabs TT H'
def costA (i b1 : Nat) : Nat := i * (14 * b1 + 32) + 2
def spNow (K : PySem.W.Frag) (a : Ad) (TT : List (Addr × Str)) (i : Nat) : Sp := fun vs H Q _ => ∃ (pl : Pl) (fs cells : List Nat) (A : Asks) (b1 k : Nat) (x : Nm), AskC pl fs cells A ∧ x ∈ nmsFor pl.f pl.c i ∧ vs = [.ref A.p, .str x.s] ∧ AskI K a pl fs cells A b1 (k + 2 * i) H ∧ Tabs TT H ∧
  ∀ (z : Int) H', 0 ≤ z → z < pl.b → AskR K a TT pl fs cells A b1 k H H' → Q (.int z) H'
def spAsked (K : PySem.W.Frag) (a : Ad) (TT : List (Addr × Str)) (i : Nat) : Sp := fun vs H Q _ => ∃ (pl : Pl) (fs cells : List Nat) (A : Asks) (b1 k : Nat), AskC pl fs cells A ∧ i < pl.pls.length ∧ vs = [.ref A.p, .int (i : Int)] ∧ AskI K a pl fs cells A b1 (k + costA i b1) H ∧ Tabs TT H ∧
  ∀ (z : Int) H', 0 ≤ z → z < pl.b → AskR K a TT pl fs cells A (if i = 0 then b1 else b1 + 1) k H H' → Q (.int z) H'
/-- .. asked of a lower place -/
def spLow (K : PySem.W.Frag) (a : Ad) (TT : List (Addr × Str)) (i : Nat) : Sp := fun vs H Q E => i = 1 ∧ spAsked K a TT 0 vs H Q E
theorem nm_case {x : Nm} {f c i : Nat} (hf : f ≤ 2) (hc : c ≤ 2) (hi : i ≤ 1) (h : x ∈ nmsFor f c i) : (x.let = "f" ∧ 0 ≤ x.ix ∧ x.ix < (f : Int)) ∨ (x.let = "c" ∧ 0 ≤ x.ix ∧ x.ix < (c : Int)) ∨ (x = .p0 ∧ i = 1) := by
  have f3 : f = 0 ∨ f = 1 ∨ f = 2 := by omega
  have c3 : c = 0 ∨ c = 1 ∨ c = 2 := by omega
  have i2 : i = 0 ∨ i = 1 := by omega
  rcases f3 with rfl | rfl | rfl <;> rcases c3 with rfl | rfl | rfl <;> rcases i2 with rfl | rfl <;> cases x <;> simp [nmsFor, Nm.let, Nm.ix] at h ⊢
abbrev s_Ask_number_now : Stmt := inClass (top 44) 1
theorem sc_Ask_number_now : FnScope ["self", "name", "at"] ["self", "name"] (defScope s_Ask_number_now) := ⟨rfl, rfl, rfl, by decide +kernel, rfl, by decide +kernel, by decide +kernel⟩
theorem Nm.at1 (x : Nm) : ∃ c : Nat, atI x.s.cps.toList 1 = some c ∧ PySem.intText? (⟨#[c]⟩ : Str) = some x.ix := by
  cases x
  · exact ⟨48, by decide +kernel, by decide +kernel⟩
  · exact ⟨49, by decide +kernel, by decide +kernel⟩
  · exact ⟨50, by decide +kernel, by decide +kernel⟩
  · exact ⟨48, by decide +kernel, by decide +kernel⟩
  · exact ⟨49, by decide +kernel, by decide +kernel⟩
  · exact ⟨48, by decide +kernel, by decide +kernel⟩
  · exact ⟨49, by decide +kernel, by decide +kernel⟩
theorem Nm.at0 (x : Nm) : ∃ c : Nat, atI x.s.cps.toList 0 = some c ∧ (⟨#[c]⟩ : Str) = x.let := by
  cases x
  · exact ⟨102, by decide +kernel, by decide +kernel⟩
  · exact ⟨102, by decide +kernel, by decide +kernel⟩
  · exact ⟨102, by decide +kernel, by decide +kernel⟩
  · exact ⟨99, by decide +kernel, by decide +kernel⟩
  · exact ⟨99, by decide +kernel, by decide +kernel⟩
  · exact ⟨112, by decide +kernel, by decide +kernel⟩
  · exact ⟨112, by decide +kernel, by decide +kernel⟩
theorem Nm.len_s (x : Nm) : x.s.length ≤ sizeLine := by cases x <;> decide +kernel
theorem nats_at {l : List Nat} {i : Int} (h0 : 0 ≤ i) (h1 : i < (l.length : Int)) : ∃ n, n ∈ l ∧ atI (l.map fun (k : Nat) => di (k : Int)) i = some (di (n : Int)) := by
  obtain ⟨j, rfl⟩ : ∃ j : Nat, i = (j : Int) := ⟨i.toNat, by omega⟩
  have hl : j < l.length := by omega
  refine ⟨l[j], List.getElem_mem hl, atI_nat ?_⟩
  rw [List.getElem?_map, List.getElem?_eq_getElem hl]
  rfl
theorem ok_number_now {kA i : Nat} (hi1 : i ≤ 1) (F : FnP K "number_now" "Ask.number_now" s_Ask_number_now f fd) (T : Tx K w mg a) (m_asked : C8.Met P w K mg base kA a.CA "asked" (spLow K a TT i) []) : FnOk P w K mg base CX0 (kA + 1) f fd ["self", "name"] (spNow K a TT i) := by
  refine fnG0 F sc_Ask_number_now (fun vs H Q E h => ?_) (fun cdv Ar outer s H E hr => ⟨_, (pss_cons (ps_set (i := 2) sc_Ask_number_now.nd rfl (Or.inl rfl) (pe_callTy call_int_str (by rfl) T.f_int (by decide +kernel) (pa_cons (pe_ix ix_str (pv 1) pe_int (fun _ _ => rfl)) pa_nil)))
    (pss_cons (ps_if (pt_cmpR op_eq (pe_ix ix_str (pv 1) pe_int (fun _ _ => rfl)) pe_str (nomark _)) (pss_one (ps_ret (C8.pe_mt m_asked hr (by omega) (pv 0) (pa_cons (pv 2) pa_nil)))) pss_nil)
    (pss_one (ps_ret (pe_ifExp (pt_cmpR op_eq (pe_ix ix_str (pv 1) pe_int (fun _ _ => rfl)) pe_str (nomark _)) (pe_ix (ix_tupK (K := K)) (pe_ix (ix_tupK (K := K)) (pe_fldK (K := K) (pv 0)) pe_int (fun _ _ => rfl)) (pv 2) (fun _ _ => rfl)) (pe_ix (ix_tupK (K := K)) (pe_ix (ix_tupK (K := K)) (pe_fldK (K := K) (pv 0)) pe_int (fun _ _ => rfl)) (pv 2) (fun _ _ => rfl))))))), ?_⟩)
  · obtain ⟨pl, fs, cells, A, b1, k, x, _, _, rfl, _⟩ := h
    rfl
  · rintro vs Q ⟨pl, fs, cells, A, b1, k, x, C, hx, rfl, I, tb, q⟩
    have R : RepE K a.FC H (startD ["self", "name", "at"] [.at (.ref A.p), nmD x]) (start ["self", "name", "at"] [.ref A.p, .str x.s]) := RepE.start (.cons (.at _) (.cons (.at _) .nil))
    obtain ⟨c1, h1, h2⟩ := x.at1
    obtain ⟨c0, h3, h4⟩ := x.at0
    refine st_seq (st_set R (ev_intS (ev_ixS (ev_var R rfl) ev_c x.len_s h1) h2 (by show 1 ≤ 640; decide)) fun v H1 e1 r1 R1 => ?_)
    have I1 := I.same e1
    have ltr : ∀ {H σ}, RepE K a.FC H ((startD ["self", "name", "at"] [.at (.ref A.p), nmD x]).set 2 (some (di x.ix))) σ → EvD K a.FC (tOp rIxS (tVar 1) (tC (.int 0))) σ H (dz x.let) := fun R => (ev_ixS (ev_var R rfl) ev_c x.len_s h3).to (by rw [h4])
    have sit : ∀ {H σ}, AskI K a pl fs cells A b1 (k + 2 * i) H → RepE K a.FC H ((startD ["self", "name", "at"] [.at (.ref A.p), nmD x]).set 2 (some (di x.ix))) σ → EvD K a.FC (tFld K (tVar 0) "situation") σ H (.tup [natsD fs, natsD cells]) := fun I R => ev_fldM (ev_var R rfl) I.ob T.oA.cl T.nAsit rfl I.si
    rcases nm_case C.ok.f2 C.ok.c2 hi1 hx with ⟨e, g0, g1⟩ | ⟨e, g0, g1⟩ | ⟨rfl, rfl⟩
    · refine st_skipS ((et_test (ev_eq (ltr R1) ev_c rfl)).to (by rw [e]; decide +kernel)) fun H2 e2 => ?_
      have R2 := R1.mono e2
      have I2 := I1.same e2
      obtain ⟨n, hn, ha⟩ := nats_at (l := fs) g0 (by rw [C.fl]; exact g1)
      refine st_ret ((ev_if (b := true) (e := dn) ((et_test (ev_eq (ltr R2) ev_c rfl)).to (by rw [e]; decide +kernel)) (fun _ => ev_ixT (ev_ixT (sit I2 R2) ev_c rfl) (ev_var R2 rfl) ha) fun h => nomatch h).to rfl) fun v H3 e3 r3 => ?_
      cases r3.at_inv
      have := C.fb n hn
      exact q _ H3 (by omega) (by omega) ⟨(I2.same e3).down _, KeepX.of ((e1.trans e2).trans e3), tabs_same tb ((e1.trans e2).trans e3)⟩
    · refine st_skipS ((et_test (ev_eq (ltr R1) ev_c rfl)).to (by rw [e]; decide +kernel)) fun H2 e2 => ?_
      have R2 := R1.mono e2
      have I2 := I1.same e2
      obtain ⟨n, hn, ha⟩ := nats_at (l := cells) g0 (by rw [C.cl]; exact g1)
      refine st_ret ((ev_if (b := false) (d := dn) ((et_test (ev_eq (ltr R2) ev_c rfl)).to (by rw [e]; decide +kernel)) (fun h => nomatch h) fun _ => ev_ixT (ev_ixT (sit I2 R2) ev_c rfl) (ev_var R2 rfl) ha).to rfl) fun v H3 e3 r3 => ?_
      cases r3.at_inv
      have := C.cb n hn
      exact q _ H3 (by omega) (by omega) ⟨(I2.same e3).down _, KeepX.of ((e1.trans e2).trans e3), tabs_same tb ((e1.trans e2).trans e3)⟩
    · refine st_seq (st_yes ((et_test (ev_eq (ltr R1) ev_c rfl)).to (by decide +kernel)) fun H2 e2 => ?_)
      have I2 := I1.same e2
      have s0 : L2.St := [some (.ref A.p)]
      refine ⟨.ref A.p, rfl, A.p, A.dx, _, rfl, I2.ob, rfl, v, ?_, ?_⟩
      · rfl
      · cases r1.at_inv
        refine ⟨rfl, pl, fs, cells, A, b1, k, C, by have := C.ok.n1; omega, rfl, ?_, tabs_same tb (e1.trans e2), fun z H3 h0 h1 r => q z H3 h0 h1 ⟨r.st, (KeepX.of (e1.trans e2)).trans r.kp, r.tb⟩⟩
        have e : k + costA 0 b1 = k + 2 * 1 := by unfold costA; omega
        rw [e]
        exact I2
abbrev s_Ask_fits : Stmt := inClass (top 44) 2
theorem sc_Ask_fits : FnScope ["self", "marks", "name", "number"] ["self", "marks"] (defScope s_Ask_fits) := ⟨rfl, rfl, rfl, by decide +kernel, rfl, by decide +kernel, by decide +kernel⟩
def spFits (K : PySem.W.Frag) (a : Ad) (TT : List (Addr × Str)) (i : Nat) : Sp := fun vs H Q _ => ∃ (pl : Pl) (fs cells : List Nat) (A : Asks) (b1 k : Nat) (ms : List (Nm × Int)) (vm : V), AskC pl fs cells A ∧ (∀ m ∈ ms, m.1 ∈ nmsFor pl.f pl.c i) ∧ ms.length ≤ 7 ∧ vs = [.ref A.p, vm] ∧ Rep K a.FC H (marksD ms) vm ∧ AskI K a pl fs cells A b1 (k + 14 * i) H ∧ Tabs TT H ∧
  ∀ (b : Bool) H', AskR K a TT pl fs cells A b1 k H H' → Q (.bl b) H'
theorem ok_fits {kA i : Nat} (F : FnP K "fits" "Ask.fits" s_Ask_fits f fd) (T : Tx K w mg a) (m_number_now : C8.Met P w K mg base kA a.CA "number_now" (spNow K a TT i) []) : FnOk P w K mg base CX0 (kA + 1) f fd ["self", "marks"] (spFits K a TT i) := by
  refine fnG0 F sc_Ask_fits (fun vs H Q E h => ?_) (fun cdv Ar outer s H E hr => ⟨_, (pss_cons (ps_for PassesOwn.never rfl (pi_tup (pv 1)) (pg_tupK (K := K) (n := 2) (by rfl) (pgs_cons (pg_name (i := 2) sc_Ask_fits.nd (by rfl) (.inl (by rfl)) (by first | exact .inl rfl | exact .inr rfl)) (pgs_cons (pg_name (i := 3) sc_Ask_fits.nd (by rfl) (.inl (by rfl)) (by first | exact .inl rfl | exact .inr rfl)) pgs_nil)))
      (pss_one (ps_if (pt_cmpR op_ne (C8.pe_mt m_number_now hr (by omega) (pv 0) (pa_cons (pv 2) pa_nil)) (pv 3) (nomark _)) (pss_one (ps_ret pe_bl)) pss_nil)))
    (pss_one (ps_ret pe_bl))), ?_⟩)
  · obtain ⟨pl, fs, cells, A, b1, k, ms, vm, _, _, _, rfl, _⟩ := h
    rfl
  · rintro vs Q ⟨pl, fs, cells, A, b1, k, ms, vm, C, hm, hl, rfl, rep, I, tb, q⟩
    have R : RepE K a.FC H (startD ["self", "marks", "name", "number"] [.at (.ref A.p), marksD ms]) (start ["self", "marks", "name", "number"] [.ref A.p, vm]) := RepE.start (.cons (.at _) (.cons rep .nil))
    have nol : ∀ d, some d ∈ startD ["self", "marks", "name", "number"] [.at (.ref A.p), marksD ms] → NoL d := fun d h => by
      have h : some d ∈ ([some (.at (.ref A.p)), some (marksD ms), none, none] : SD) := h
      simp at h
      rcases h with rfl | rfl
      · exact .at _
      · exact marksD_noL _
    refine st_seq (st_forZ (B := { nx := _, rt := Q }) (evz_tup (ev_var R rfl) (marksD_noL ms).tup_inv) fun H2 e2 => ⟨fun j σ' H' => j ≤ ms.length ∧ AskI K a pl fs cells A b1 (k + 2 * i * (7 - j)) H' ∧ KeepX A.L H2 H' ∧ Tabs TT H' ∧ RepE K a.FC H' (startD ["self", "marks", "name", "number"] [.at (.ref A.p), marksD ms]) σ', ?_, ?_, ?_, ?_⟩)
    · refine ⟨Nat.zero_le _, ?_, KeepX.refl, tabs_same tb e2, R.mono e2⟩
      have e : k + 2 * i * (7 - 0) = k + 14 * i := by omega
      rw [e]
      exact I.same e2
    · rintro j σ' H' ⟨_, _, kp, _⟩
      exact kp.frz (I.same e2).mut
    · rintro j d x σ' H' H'' hd ⟨hj, IJ, kp, tj, RJ⟩ e r
      have hlt : j < ms.length := by
        have := (List.getElem?_eq_some_iff.mp hd).1
        rwa [List.length_map] at this
      rw [List.getElem?_map, List.getElem?_eq_getElem hlt] at hd
      cases hd
      refine bind_pair (vs := [2, 3]) (by decide) (by decide) σ' H'' x (RJ.mono e) r _ fun σ3 H3 e3 R3 _ => ?_
      have e03 := e.trans e3
      have IJ3 := IJ.same e03
      obtain ⟨v0, g0, g0'⟩ := R3.get 0 (.at (.ref A.p)) rfl
      cases g0'.at_inv
      obtain ⟨v2, g2, g2'⟩ := R3.get 2 (nmD ms[j].1) rfl
      cases g2'.at_inv
      obtain ⟨v3, g3, g3'⟩ := R3.get 3 (di ms[j].2) rfl
      cases g3'.at_inv
      refine ⟨.ref A.p, g0, A.p, A.dx, _, rfl, IJ3.ob, rfl, _, g2, pl, fs, cells, A, b1, k + 2 * i * (7 - (j + 1)), ms[j].1, C, hm _ (List.getElem_mem hlt), rfl, ?_, tabs_same tj e03, fun z H4 z0 z1 r4 => ⟨_, g3, rfl, _, rfl, ?_⟩⟩
      · have e : k + 2 * i * (7 - (j + 1)) + 2 * i = k + 2 * i * (7 - j) := by
          have : 7 - j = (7 - (j + 1)) + 1 := by omega
          rw [this, Nat.mul_add]
          omega
        rw [e]
        exact IJ3
      · have kp4 := (kp.trans (KeepX.of e03)).trans r4.kp
        cases (!decide (V.int z = V.int ms[j].2)) with
        | true => exact q false H4 ⟨r4.st.down _, (KeepX.of e2).trans kp4, r4.tb⟩
        | false =>
          refine ⟨by omega, r4.st, kp4, r4.tb, ?_⟩
          have fz : Frz a.FC H3 H4 := r4.kp.frz IJ3.mut
          refine RepE.weak (R3.frz fz fun d h => ?_) rfl fun i' d' h' => ?_
          · have h : some d ∈ ([some (.at (.ref A.p)), some (marksD ms), some (nmD ms[j].1), some (di ms[j].2)] : SD) := h
            simp at h
            rcases h with rfl | rfl | rfl | rfl
            · exact .at _
            · exact marksD_noL _
            · exact .at _
            · exact .at _
          · have h' : ([some (.at (.ref A.p)), some (marksD ms), none, none] : SD)[i']? = some (some d') := h'
            show ([some (.at (.ref A.p)), some (marksD ms), some (nmD ms[j].1), some (di ms[j].2)] : SD)[i']? = some (some d')
            match i', h' with
            | 0, h' => exact h'
            | 1, h' => exact h'
            | 2, h' => cases h'
            | 3, h' => cases h'
    · rintro σ' H' ⟨_, IJ, kp, tj, _⟩
      rw [List.length_map] at IJ
      exact q true H' ⟨IJ.down _, (KeepX.of e2).trans kp, tj⟩
end
end T34

/-! Kd11 -/
set_option maxHeartbeats 4000000
namespace T34
open PySem PySem.Spec PyProof.Rows L2
local macro_rules | `(tactic| walk_at "ev") => `(tactic| (first
  | (with_reducible exact ev_c)
  | ((with_reducible refine' ev_var ?R ?h); (case R => assumption); (case h => rfl))
  | (with_reducible refine' ea_cons ?_ ?_)
  | (with_reducible exact ea_nil)
  | (with_reducible refine' ev_add ?_ ?_)
  | (with_reducible refine' ev_sub ?_ ?_)
  | (with_reducible refine' ev_mul ?_ ?_ ?_)
  | (with_reducible refine' ev_mod ?_ ?_ ?_)
  | (with_reducible refine' ev_div ?_ ?_ ?_)
  | (with_reducible refine' ev_lt ?_ ?_)
  | (with_reducible refine' ev_le ?_ ?_)
  | (with_reducible refine' ev_gt ?_ ?_)
  | (with_reducible refine' ev_ge ?_ ?_)
  | (with_reducible refine' ev_int ?_)
  | (with_reducible refine' ev_not ?_)
  | (with_reducible refine' ev_tup ?_)
  | (with_reducible refine' ev_between ?_ ?_ ?_)
  | (with_reducible refine' et_test ?_)
  | (with_reducible refine' et_B ?_)
  | (with_reducible refine' et_not ?_)))
section
variable {P : Program} {w : World} {K : PySem.W.Frag} {mg : Str → Option Value} {base : Heap} {a : Ad} {TT : List (Addr × Str)} {f : Addr} {fd : FuncData}
open LamX (Tabs)
/-! ### what is read -/
abbrev kvOf (es : List (Nm × Int)) : List (L2.Key × V) := es.map fun e => (Sum.inr e.1.s, V.int e.2)
structure EsOk (pl : Pl) (i : Nat) (es : List (Nm × Int)) : Prop where
  nm : ∀ e ∈ es, e.1 ∈ nmsFor pl.f pl.c i
  nd : (es.map (·.1)).Nodup
  n0 : ∀ e ∈ es, 0 ≤ e.2 ∧ e.2 < pl.b
theorem nms_count : ∀ l : List Nm, l.length = l.count .f0 + (l.count .f1 + (l.count .f2 + (l.count .c0 + (l.count .c1 + (l.count .p0 + l.count .p1)))))
  | [] => rfl
  | x :: l => by
    have ih := nms_count l
    simp only [List.length_cons, List.count_cons]
    cases x <;> simp <;> omega
theorem nodup_count {x : Nm} : ∀ {l : List Nm}, l.Nodup → l.count x ≤ 1
  | [], _ => Nat.zero_le _
  | y :: l, h => by
    have h := List.nodup_cons.mp h
    rw [List.count_cons]
    by_cases e : y = x
    · subst e
      rw [List.count_eq_zero.mpr h.1]
      simp
    · rw [if_neg (by simp [e])]
      exact nodup_count h.2
theorem nms_len {l : List Nm} (h : l.Nodup) : l.length ≤ 7 := by
  rw [nms_count]
  have h1 := nodup_count (x := .f0) h
  have h2 := nodup_count (x := .f1) h
  have h3 := nodup_count (x := .f2) h
  have h4 := nodup_count (x := .c0) h
  have h5 := nodup_count (x := .c1) h
  have h6 := nodup_count (x := .p0) h
  have h7 := nodup_count (x := .p1) h
  omega
theorem EsOk.len {pl : Pl} {i : Nat} {es : List (Nm × Int)} (h : EsOk pl i es) : es.length ≤ 7 := by
  have := nms_len h.nd
  rwa [List.length_map] at this
theorem val_kv (x : Nm) : ∀ es : List (Nm × Int), (valV (kvOf es) (Sum.inr x.s) = none ∧ x ∉ es.map (·.1)) ∨ ∃ z, (x, z) ∈ es ∧ valV (kvOf es) (Sum.inr x.s) = some (.int z)
  | [] => .inl ⟨rfl, fun h => (nomatch h)⟩
  | (y, z) :: es => by
    by_cases e : y = x
    · subst e
      exact .inr ⟨z, List.mem_cons_self, valV_pos (p := (Sum.inr y.s, V.int z)) rfl⟩
    · have ne : ¬ (Sum.inr y.s : L2.Key) = Sum.inr x.s := fun q => e (Nm.s_inj (Sum.inr.inj q))
      rcases val_kv x es with ⟨h1, h2⟩ | ⟨z', h1, h2⟩
      · refine .inl ⟨(valV_neg (p := (Sum.inr y.s, V.int z)) ne).trans h1, fun h => ?_⟩
        rcases List.mem_cons.mp h with h | h
        · exact e h.symm
        · exact h2 h
      · exact .inr ⟨z', List.mem_cons_of_mem _ h1, (valV_neg (p := (Sum.inr y.s, V.int z)) ne).trans h2⟩
abbrev s_Ask_read : Stmt := inClass (top 44) 5
theorem sc_Ask_read : FnScope ["self", "reads", "name"] ["self", "reads", "name"] (defScope s_Ask_read) := ⟨rfl, rfl, rfl, by decide +kernel, rfl, by decide +kernel, by decide +kernel⟩
def spRead (K : PySem.W.Frag) (a : Ad) (TT : List (Addr × Str)) (i : Nat) : Sp := fun vs H Q _ => ∃ (pl : Pl) (fs cells : List Nat) (A : Asks) (b1 k : Nat) (x : Nm) (dr : Addr) (es : List (Nm × Int)), AskC pl fs cells A ∧ x ∈ nmsFor pl.f pl.c i ∧ vs = [.ref A.p, .ref dr, .str x.s] ∧ H dr = some (.dK (kvOf es)) ∧ EsOk pl i es ∧
  AskI K a pl fs cells A b1 (k + 2 * i) H ∧ Tabs TT H ∧ ∀ (z : Int) es' H', 0 ≤ z → z < pl.b → EsOk pl i es' → H' dr = some (.dK (kvOf es')) → AskI K a pl fs cells A b1 k H' → KeepX (dr :: A.L) H H' → Tabs TT H' → Q (.int z) H'
/-- a dict is none of an ask's lists -/
theorem AskI.dict {pl : Pl} {fs cells : List Nat} {A : Asks} {b1 k : Nat} {H : Hp} {dr : Addr} {kvs : List (L2.Key × V)} (I : AskI K a pl fs cells A b1 k H) (h : H dr = some (.dK kvs)) : dr ≠ A.p ∧ dr ≠ A.la ∧ dr ∉ A.L := by
  refine ⟨fun z => ?_, fun z => ?_, fun z => ?_⟩
  · rw [z, I.ob] at h; cases h
  · rw [z, I.he] at h; cases h
  · rcases List.mem_cons.mp z with z | z
    · obtain ⟨_, us, h1, _⟩ := I.tr
      rw [← z, h] at h1
      cases h1
    · obtain ⟨i, hi⟩ := List.getElem?_of_mem z
      obtain ⟨_, us, h1, _⟩ := I.rows i _ hi
      rw [h] at h1
      cases h1
theorem AskI.fresh {pl : Pl} {fs cells : List Nat} {A : Asks} {b1 k : Nat} {H : Hp} {p : Addr} (I : AskI K a pl fs cells A b1 k H) (h : H p = none) : p ∉ A.L := fun m => by
  rcases I.mut _ m with ⟨_, q⟩ | ⟨_, q⟩ | ⟨_, _, _, q, _⟩ <;> rw [h] at q <;> cases q
theorem ok_read {kA i : Nat} (F : FnP K "read" "Ask.read" s_Ask_read f fd) (T : Tx K w mg a) (m_number_now : C8.Met P w K mg base kA a.CA "number_now" (spNow K a TT i) []) : FnOk P w K mg base CX0 (kA + 1) f fd ["self", "reads", "name"] (spRead K a TT i) := by
  refine fnG0 F sc_Ask_read (fun vs H Q E h => ?_) (fun cdv Ar outer s H E hr => ⟨_, (pss_cons (ps_if (pt_cmp (pc_dnotin (hu_of hr) (pv 2) (pv 1)) rfl) (pss_one (ps_dput (hu_of hr) (pv 1) (pv 2) (C8.pe_mt m_number_now hr (by omega) (pv 0) (pa_cons (pv 2) pa_nil)) rfl)) pss_nil)
    (pss_one (ps_ret (pe_dget (hu_of hr) (pv 1) (pv 2) (fun _ _ => rfl))))), ?_⟩)
  · obtain ⟨pl, fs, cells, A, b1, k, x, dr, es, _, _, rfl, _⟩ := h
    rfl
  · rintro vs Q ⟨pl, fs, cells, A, b1, k, x, dr, es, C, hx, rfl, hd, ok, I, tb, q⟩
    rcases val_kv x es with ⟨h1, h2⟩ | ⟨z, h1, h2⟩
    · refine st_seq ⟨_, rfl, _, rfl, dr, _, rfl, DGet.k (k := Sum.inr x.s) hd, _, rfl, ?_⟩
      rw [h1]
      refine ⟨.ref A.p, rfl, A.p, A.dx, _, rfl, I.ob, rfl, _, rfl, pl, fs, cells, A, b1, k, x, C, hx, rfl, I, tb, fun z H1 z0 z1 r1 => ?_⟩
      have dn := I.dict hd
      have hd1 : H1 dr = some (.dK (kvOf es)) := r1.kp _ _ hd dn.2.2 fun _ q => by cases q
      have l7 := ok.len
      refine ⟨_, rfl, _, rfl, dr, _, rfl, DPut.k (k := Sum.inr x.s) hd1 (by rw [List.length_map]; exact Nat.lt_of_le_of_lt l7 (by decide)), ?_⟩
      rw [putK_new _ h1]
      have hu : upd H1 dr (.dK (kvOf es ++ [(Sum.inr x.s, V.int z)])) dr = some (.dK (kvOf (es ++ [(x, z)]))) := by rw [upd_same]; unfold kvOf; rw [List.map_append]; rfl
      have mu : MutO a.FC H1 dr := .inr (.inl ⟨_, hd1⟩)
      have ok' : EsOk pl i (es ++ [(x, z)]) := by
        refine ⟨fun e he => ?_, ?_, fun e he => ?_⟩
        · rcases List.mem_append.mp he with he | he
          · exact ok.nm e he
          · rw [List.mem_singleton.mp he]; exact hx
        · rw [List.map_append]
          refine List.nodup_append.mpr ⟨ok.nd, by simp, fun y hy z' hz => ?_⟩
          have : z' = x := by simpa using hz
          subst this
          exact fun q => h2 (q ▸ hy)
        · rcases List.mem_append.mp he with he | he
          · exact ok.n0 e he
          · rw [List.mem_singleton.mp he]; exact ⟨z0, z1⟩
      have kd : KeepX [dr] H1 (upd H1 dr (.dK (kvOf es ++ [(Sum.inr x.s, V.int z)]))) := KeepX.upd (by simp)
      have I2 := r1.st.off kd (Frz.upd_dK hd1) fun y hy => by rw [List.mem_singleton.mp hy]; exact dn
      refine ⟨_, rfl, _, rfl, dr, .int z, rfl, ?_, ?_⟩
      · have g := DGet.k (k := Sum.inr x.s) hu
        rcases val_kv x (es ++ [(x, z)]) with ⟨_, h3⟩ | ⟨z', h3, h4⟩
        · exact absurd (by rw [List.map_append]; simp) h3
        · have ez : z' = z := by
            rcases List.mem_append.mp h3 with h3 | h3
            · exact absurd (List.mem_map.mpr ⟨_, h3, rfl⟩) h2
            · have := List.mem_singleton.mp h3
              cases this
              rfl
          rw [h4, ez] at g
          exact g
      · exact q z _ _ z0 z1 ok' hu I2 ((r1.kp.mono fun y hy => List.mem_cons_of_mem _ hy).trans (kd.mono fun y hy => by rw [List.mem_singleton.mp hy]; exact List.mem_cons_self)) (tabs_upd r1.tb mu)
    · refine st_seq ⟨_, rfl, _, rfl, dr, _, rfl, DGet.k (k := Sum.inr x.s) hd, _, rfl, ?_⟩
      rw [h2]
      have g := DGet.k (k := Sum.inr x.s) hd
      rw [h2] at g
      refine ⟨_, rfl, _, rfl, dr, .int z, rfl, g, ?_⟩
      have zb := ok.n0 _ h1
      exact q z es H zb.1 zb.2 ok hd (I.down _) KeepX.refl tb
/-! ### a loop over a new list -/
theorem st_forL {FC : Addr → Prop} {σ : L2.St} {H : Hp} {tl : TE} {g : TG} {tb : TS} {B : Ends} {ds : List D} (h : EvL K FC tl σ H ds)
    (q : ∀ p us H2, H p = none → Same H H2 → H2 p = some (.lst us) → Reps K FC H2 ds us → ∃ Pv : Nat → L2.St → Hp → Prop, Pv 0 σ H2 ∧ (∀ i σ' H', Pv i σ' H' → H' p = some (.lst us)) ∧
      (∀ i v σ' H', us[i]? = some v → Pv i σ' H' → g v σ' H' fun σ2 H3 => tb { B with nx := Pv (i + 1), ct := Pv (i + 1), bk := B.nx } σ2 H3) ∧ ∀ σ' H', Pv us.length σ' H' → B.nx σ' H') : tFor (iList K tl) g tb B σ H :=
  h H (Same.refl H) _ fun p us H2 hp e hl r => by
    obtain ⟨Pv, h0, hk, hs, hd⟩ := q p us H2 hp e hl r
    refine ⟨p, rfl, ⟨us, SqL.of hl⟩, for_it walk_list Pv h0 (fun i σ' H' _ h => SqL.of (hk i σ' H' h)) (fun i x σ' H' H'' hlt h y => ?_) hd⟩
    obtain ⟨rfl, y⟩ := y
    exact hs i x σ' _ y h
/-- self.held[i] -/
theorem ev_held {pl : Pl} {fs cells : List Nat} {A : Asks} {b1 k i n : Nat} {H : Hp} {σ : L2.St} {ρ : SD} {l : Addr} {tb : TE} (T : Tx K w mg a) (I : AskI K a pl fs cells A b1 k H) (R : RepE K a.FC H ρ σ) (h0 : ρ[n]? = some (some (.at (.ref A.p)))) (hb : EvD K a.FC tb σ H (di (i : Int))) (hl : A.ls[i]? = some l) :
    EvD K a.FC (tOp (rIxL K) (tFld K (tVar n) "held") tb) σ H (.at (.ref l)) := by
  have h1 : EvD K a.FC (tFld K (tVar n) "held") σ H (.lst (A.ls.map fun l => .at (.ref l))) := ev_fldM (ev_var R h0) I.ob T.oA.cl T.nAheld rfl (.lst (SqL.of I.he) (by
    have := Reps.ats (K := K) (FC := a.FC) (H := H) (A.ls.map V.ref)
    rwa [List.map_map] at this))
  refine ev_ixL h1 hb (atI_nat ?_)
  rw [List.getElem?_map, hl]
  rfl
theorem el_lstR {FC : Addr → Prop} {σ : L2.St} {H : Hp} {te : TE} {l : Addr} {us : List V} {ds : List D} (h : EvD K FC te σ H (.at (.ref l))) (hl : H l = some (.lst us)) (r : Reps K FC H ds us) : EvL K FC (tCB (rLstS K) (tCons te tNil)) σ H ds := fun H1 e Q q => h H1 e _ fun v H2 e2 rv => by
  cases rv.at_inv
  exact ⟨l, us, rfl, .inl (SqL.of ((e.trans e2) _ _ hl)), fun p hp => q p us _ (fresh_back e2 hp) (e2.trans (Same.new hp)) upd_same ((r.mono (e.trans e2)).mono (Same.new hp))⟩
abbrev s_Ask_first_that_fits : Stmt := inClass (top 44) 4
theorem sc_Ask_first_that_fits : FnScope ["self", "place", "row"] ["self", "place"] (defScope s_Ask_first_that_fits) := ⟨rfl, rfl, rfl, by decide +kernel, rfl, by decide +kernel, by decide +kernel⟩
def spFirst (K : PySem.W.Frag) (a : Ad) (TT : List (Addr × Str)) (i : Nat) : Sp := fun vs H Q _ => ∃ (pl : Pl) (fs cells : List Nat) (A : Asks) (b1 k : Nat), AskC pl fs cells A ∧ i < pl.pls.length ∧ vs = [.ref A.p, .int (i : Int)] ∧ AskI K a pl fs cells A b1 (k + i * (14 * b1)) H ∧ Tabs TT H ∧
  ∀ p us H', p ∉ A.L → H' p = some (.lst us) → (us = [] ∨ ∃ r v, us = [v] ∧ Rep K a.FC H' (rowD r) v ∧ RowOk pl i r) → AskR K a TT pl fs cells A b1 k H H' → Q (.ref p) H'
theorem ok_first {kA i : Nat} (F : FnP K "first_that_fits" "Ask.first_that_fits" s_Ask_first_that_fits f fd) (T : Tx K w mg a) (m_fits : C8.Met P w K mg base kA a.CA "fits" (spFits K a TT i) []) : FnOk P w K mg base CX0 (kA + 1) f fd ["self", "place"] (spFirst K a TT i) := by
  refine fnG0 F sc_Ask_first_that_fits (fun vs H Q E h => ?_) (fun cdv Ar outer s H E hr => ⟨_, (pss_cons (ps_for PassesOwn.never rfl (pi_list (pe_callTy (call_lstK (K := K)) (by rfl) T.f_list (by decide +kernel) (pa_cons (pe_ix (ix_listK (K := K)) (pe_fldK (K := K) (pv 0)) (pv 1) (fun _ _ => rfl)) pa_nil))) (pg_name (i := 2) sc_Ask_first_that_fits.nd (by rfl) (.inl (by rfl)) (by first | exact .inl rfl | exact .inr rfl))
      (pss_one (ps_if (pt_val (C8.pe_mt m_fits hr (by omega) (pv 0) (pa_cons (pe_ix (ix_tupK (K := K)) (pv 2) pe_int (fun _ _ => rfl)) pa_nil))) (pss_one (ps_ret (pe_lst (pa_cons (pv 2) pa_nil)))) pss_nil)))
    (pss_one (ps_ret (pe_lst pa_nil)))), ?_⟩)
  · obtain ⟨pl, fs, cells, A, b1, k, _, _, rfl, _⟩ := h
    rfl
  · rintro vs Q ⟨pl, fs, cells, A, b1, k, C, hi, rfl, I, tb, q⟩
    have R : RepE K a.FC H (startD ["self", "place", "row"] [.at (.ref A.p), di (i : Int)]) (start ["self", "place", "row"] [.ref A.p, .int (i : Int)]) := RepE.start (.cons (.at _) (.cons (.at _) .nil))
    have hil : i < A.ls.length := by rw [C.ln]; exact hi
    have hl : A.ls[i]? = some A.ls[i] := List.getElem?_eq_getElem hil
    obtain ⟨rs, us, h1, h2, h3, h4, h5⟩ := I.rows i _ hl
    have hrl : i * rs.length ≤ i * b1 := by
      cases i with
      | zero => simp
      | succ i => exact Nat.mul_le_mul_left _ (h5 (Nat.succ_pos _))
    refine st_seq (st_forL (el_lstR (ev_held T I R rfl (ev_var R rfl) hl) h1 h2) fun p us' H2 hp e2 hp2 r2 => ⟨fun j σ' H' => j ≤ rs.length ∧ AskI K a pl fs cells A b1 (k + i * (14 * (rs.length - j))) H' ∧ KeepX A.L H2 H' ∧ Tabs TT H' ∧ RepE K a.FC H' (startD ["self", "place", "row"] [.at (.ref A.p), di (i : Int)]) σ', ?_, ?_, ?_, ?_⟩)
    · refine ⟨Nat.zero_le _, ?_, KeepX.refl, tabs_same tb e2, R.mono e2⟩
      have le : i * (14 * (rs.length - 0)) ≤ i * (14 * b1) := by
        rw [Nat.sub_zero, Nat.mul_left_comm, Nat.mul_left_comm i 14 b1]
        exact Nat.mul_le_mul_left _ hrl
      have e : k + i * (14 * b1) = k + i * (14 * (rs.length - 0)) + (i * (14 * b1) - i * (14 * (rs.length - 0))) := by omega
      exact AskI.down _ (e ▸ I.same e2)
    · rintro j σ' H' ⟨_, IJ, kp, _⟩
      refine kp _ _ hp2 (fun z => ?_) fun _ q => by cases q
      rcases List.mem_cons.mp z with z | z
      · obtain ⟨_, us, h, _⟩ := I.tr
        rw [← z, hp] at h
        cases h
      · obtain ⟨i', hi'⟩ := List.getElem?_of_mem z
        obtain ⟨_, us, h, _⟩ := I.rows i' _ hi'
        rw [hp] at h
        cases h
    · rintro j v σ' H' hv ⟨hj, IJ, kp, tj, RJ⟩
      obtain ⟨d, hd, rd⟩ := r2.get' hv
      have hlt : j < rs.length := by
        have := (List.getElem?_eq_some_iff.mp hd).1
        rwa [List.length_map] at this
      rw [List.getElem?_map, List.getElem?_eq_getElem hlt] at hd
      cases hd
      have zH : Frz a.FC H2 H' := kp.frz (I.same e2).mut
      have rd' := rd.frz zH (rowD_noL _)
      have R3 : RepE K a.FC H' _ (σ'.set 2 (some v)) := RJ.set rd'
      have hrow := h3 _ (List.getElem_mem hlt)
      obtain ⟨v0, g0, g0'⟩ := R3.get 0 (.at (.ref A.p)) rfl
      cases g0'.at_inv
      refine ⟨.ref A.p, g0, A.p, A.dx, _, rfl, IJ.ob, rfl, (ea_cons (ev_ixT (ev_var R3 rfl) ev_c rfl) ea_nil).go fun vs H3 e3 r3 => ?_⟩
      obtain ⟨vm, rfl, rm⟩ : ∃ vm, vs = [vm] ∧ Rep K a.FC H3 (marksD rs[j].marks) vm := by
        cases r3 with
        | cons r rr => cases rr; exact ⟨_, rfl, r⟩
      have e14 : k + i * (14 * (rs.length - j)) = k + i * (14 * (rs.length - (j + 1))) + 14 * i := by
        have : rs.length - j = (rs.length - (j + 1)) + 1 := by omega
        rw [this, Nat.mul_add, Nat.mul_add]
        omega
      refine ⟨pl, fs, cells, A, b1, k + i * (14 * (rs.length - (j + 1))), rs[j].marks, vm, C, hrow.nms, hrow.len, rfl, rm, by rw [← e14]; exact IJ.same e3, tabs_same tj e3, fun b H4 r4 => ⟨b, rfl, ?_⟩⟩
      have R4 : RepE K a.FC H4 _ (σ'.set 2 (some v)) := (R3.mono e3).frz (r4.kp.frz (IJ.same e3).mut) fun d h => by
        have h : some d ∈ ([some (.at (.ref A.p)), some (di (i : Int)), some (rowD rs[j])] : SD) := h
        simp at h
        rcases h with rfl | rfl | rfl
        · exact .at _
        · exact .at _
        · exact rowD_noL _
      have kp4 := (kp.trans (KeepX.of e3)).trans r4.kp
      cases b with
      | true =>
        refine (ev_lst (ea_cons (ev_var R4 rfl) ea_nil) (by show 1 ≤ sizeLine; decide)).go fun p' us' H5 hp' e5 hl5 r5 => ?_
        obtain ⟨v', rfl, rv'⟩ : ∃ v', us' = [v'] ∧ Rep K a.FC H5 (rowD rs[j]) v' := by
          cases r5 with
          | cons r rr => cases rr; exact ⟨_, rfl, r⟩
        refine q p' _ H5 (r4.st.fresh hp') hl5 (.inr ⟨rs[j], v', rfl, rv', hrow⟩) ⟨(r4.st.down _).same e5, ((KeepX.of e2).trans kp4).trans (KeepX.of e5), tabs_same r4.tb e5⟩
      | false => exact ⟨by omega, r4.st, kp4, r4.tb, R4.blank 2⟩
    · rintro σ' H' ⟨_, IJ, kp, tj, _⟩
      refine EvL.go (K := K) (FC := a.FC) (σ := σ') (ds := []) (ev_lst ea_nil) fun p' us' H5 hp' e5 hl5 r5 => ?_
      cases r5
      exact q p' _ H5 (IJ.fresh hp') hl5 (.inl rfl) ⟨(IJ.down _).same e5, ((KeepX.of e2).trans kp).trans (KeepX.of e5), tabs_same tj e5⟩
end
end T34

/-! K34j -/
set_option maxHeartbeats 4000000
namespace T34
open PySem PySem.Spec PyProof.Rows L2
section
variable {P : Program} {w : World} {K : PySem.W.Frag} {mg : Str → Option Value} {base : Heap}
/-- any promise, by the body, the code object told -/
theorem fnGc {CX : CXT} {x qual : Str} {params : Arguments} {body : List Stmt} {scope : Scope} {dvs : List V} {kws : List (Str × V)} {f : Addr} {fd : FuncData} {N ps : List Str} {k : Nat} {sp : Sp} (F : FunD K x qual params body scope dvs kws f fd) (S : FnScope N ps scope)
    (hl : ∀ vs H Q E, sp vs H Q E → vs.length = ps.length)
    (hbody : ∀ (A : Around) (outer : List Env) (s : Shared) (H : Hp) (E : XK), Room k (A.deeper (envOfC qual scope s.heap.objs.size f fd.code)) →
      ∃ t, PSs (cxOf CX P w K mg base N qual scope f fd.code A outer s H E) body t ∧ ∀ vs (Q : VK), sp vs H Q E → t { nx := fun _ H' => Q .non H', rt := Q } (start N vs) H) :
    FnOk P w K mg base CX (k + 1) f fd ps sp := by
  obtain ⟨oc, od, dV, kV, doc, pm, an, cdv, ct, osl, rfl, lk, hcd, _, _⟩ := F.ex
  refine fn_of lk hcd S hl fun A outer s H vs Q E hr hsp => ?_
  obtain ⟨t, ht, q⟩ := hbody A outer s H E hr
  exact ⟨t, ht, q vs Q hsp⟩
end
/-! ### a lambda's names, looked up -/
def lamOkB (sc : Scope) (NX N : List Str) (ixs : List Nat) (x : Str) (scope : Scope) : Bool :=
  decide (scope.kind = .function) && !scope.isCoroutine && !scope.isGenerator && decide N.Nodup && decide (N[0]? = some x) && decide (scope.names.lookup x = some .local) &&
    scope.names.all (fun y => !decide (y.2 = .cell) && (!decide (y.2 = .local) || decide (y.1 = x)) && (!decide (y.2 = .free) || decide (sc.names.lookup y.1 = some .cell) || decide (sc.names.lookup y.1 = some .free))) &&
    decide (ixs.length + 1 = N.length) && (List.range ixs.length).all fun i => decide (NX[ixs.getD i 0]? = N[i + 1]?)
theorem lamOk_by {X : Cx} {N : List Str} {ixs : List Nat} {x : Str} {scope : Scope} (h : lamOkB X.env.scope X.N N ixs x scope = true) : LamOk X N ixs x scope := by
  unfold lamOkB at h
  simp only [Bool.and_eq_true, Bool.or_eq_true, Bool.not_eq_true', decide_eq_true_eq, decide_eq_false_iff_not, List.all_eq_true] at h
  obtain ⟨⟨⟨⟨⟨⟨⟨⟨h1, h2⟩, h3⟩, h4⟩, h5⟩, h6⟩, h7⟩, h8⟩, h9⟩ := h
  refine ⟨⟨h1, h2, h3, h4, h5, h6, fun y hy => (h7 y hy).1.1, fun y hy => ?_⟩, fun y hy e => ?_, fun i y hi => ?_, h8⟩
  · have := (h7 _ (PySem.mem_of_lookup hy)).1.2
    rcases this with z | z
    · exact absurd rfl z
    · exact z
  · rcases (h7 y hy).2 with (z | z) | z
    · exact absurd e z
    · exact .inl z
    · exact .inr z
  · have li : i < ixs.length := by
      have := (List.getElem?_eq_some_iff.mp hi).1
      omega
    have q := h9 i (List.mem_range.mpr li)
    rw [hi, List.getD_eq_getElem?_getD, List.getElem?_eq_getElem li] at q
    exact ⟨ixs[i], List.getElem?_eq_getElem li, q⟩
/-! ### == of data -/
mutual
inductive PyD : D → PyData → Prop
  | non : PyD dn .none
  | bl (b : Bool) : PyD (db b) (.bool b)
  | int (i : Int) : PyD (di i) (.int i)
  | str (x : Str) : PyD (dz x) (.str x)
  | lst {ds : List D} {xs : List PyData} : PyDs ds xs → PyD (.lst ds) (.list xs)
  | tup {ds : List D} {xs : List PyData} : PyDs ds xs → PyD (.tup ds) (.tuple xs)
inductive PyDs : List D → List PyData → Prop
  | nil : PyDs [] []
  | cons {d : D} {x : PyData} {ds : List D} {xs : List PyData} : PyD d x → PyDs ds xs → PyDs (d :: ds) (x :: xs)
end
section
variable {K : PySem.W.Frag} {FC : Addr → Prop} {H : Hp}
mutual
theorem PyD.dp : ∀ {d : D} {x : PyData} {v : V}, PyD d x → Rep K FC H d v → Dp K H v x
  | _, _, _, .non, r => by rw [r.at_inv]; exact .non
  | _, _, _, .bl b, r => by rw [r.at_inv]; exact .bl b
  | _, _, _, .int i, r => by rw [r.at_inv]; exact .int i
  | _, _, _, .str x, r => by rw [r.at_inv]; exact .str x
  | _, _, _, .lst h, r => by
    obtain ⟨a, vs, rfl, hs, rr⟩ := r.lst_inv
    exact .lst hs (PyDs.dp h rr)
  | _, _, _, .tup h, r => by
    obtain ⟨a, vs, rfl, hs, rr⟩ := r.tup_inv
    exact .tup hs (PyDs.dp h rr)
theorem PyDs.dp : ∀ {ds : List D} {xs : List PyData} {vs : List V}, PyDs ds xs → Reps K FC H ds vs → DpAll K H vs xs
  | _, _, _, .nil, r => by cases r; exact .nil
  | _, _, _, .cons h t, r => by
    cases r with
    | cons r1 rr => exact .cons (PyD.dp h r1) (PyDs.dp t rr)
end
end
theorem op_eqDK {X : Cx} {K : PySem.W.Frag} {j : Nat} (hr : Room j X.A) (h : X.K = K := by rfl) : OpR X (compareOp .Eq) (rEqD K) := by subst h; exact op_eqD hr.units
theorem op_neDK {X : Cx} {K : PySem.W.Frag} {j : Nat} (hr : Room j X.A) (h : X.K = K := by rfl) : OpR X (compareOp .NotEq) (rNeD K) := by subst h; exact op_neD hr.units
section
variable {K : PySem.W.Frag} {FC : Addr → Prop} {σ : L2.St} {H : Hp} {ta tb : TE} {d e : D} {x y : PyData}
theorem ev_eqD (ha : EvD K FC ta σ H d) (hb : EvD K FC tb σ H e) (px : PyD d x) (py : PyD e y) (sx : SeqAt.shaped x = true) (sy : SeqAt.shaped y = true) : EvD K FC (tOp (rEqD K) ta tb) σ H (db (PyData.eqv x y)) := fun H1 a Q q =>
  ha H1 a _ fun v H2 e2 r2 => hb H2 (a.trans e2) _ fun u H3 e3 r3 => ⟨x, y, px.dp (r2.mono e3), py.dp r3, sx, sy, q _ H3 (e2.trans e3) (.at _)⟩
theorem ev_neD (ha : EvD K FC ta σ H d) (hb : EvD K FC tb σ H e) (px : PyD d x) (py : PyD e y) (sx : SeqAt.shaped x = true) (sy : SeqAt.shaped y = true) : EvD K FC (tOp (rNeD K) ta tb) σ H (db (!PyData.eqv x y)) := fun H1 a Q q =>
  ha H1 a _ fun v H2 e2 r2 => hb H2 (a.trans e2) _ fun u H3 e3 r3 => ⟨x, y, px.dp (r2.mono e3), py.dp r3, sx, sy, q _ H3 (e2.trans e3) (.at _)⟩
end
/-! ### a rule compared with a word -/
structure EqOwn (P : Program) (w : World) (K : PySem.W.Frag) (mg : Str → Option Value) (base : Heap) (k : Nat) (C : Addr) (sp : Sp) : Prop where
  ex : ∃ f : Addr, PySem.W.findIn K (.ref C) "__eq__" = some (some (.ref f)) ∧ PySem.W.isFn K (.ref f) = true ∧ FnR P w K mg base CX0 k f sp
  nf : PySem.W.notFirst K C (.type "str") = true
def rEqOwn (C : Addr) (sp : Sp) : R2 := fun x y H Q => rEq x y H Q ∨ ∃ a dx fs z, x = .ref a ∧ H a = some (.ins C dx fs) ∧ y = .str z ∧ sp [.ref a, .str z] H (fun v H' => ∃ b, v = .bl b ∧ Q (.bl b) H') C8.E0
theorem op_eqOwn {X : Cx} {k j : Nat} {C : Addr} {sp : Sp} (c : EqOwn X.prog X.w X.K X.mg X.base k C sp) (hr : Room j X.A) (hk : k ≤ j) : OpR X (compareOp .Eq) (rEqOwn C sp) := by
  intro pins s σ H x y v u Q I rx ry h
  rcases h with h | ⟨a, dx, fs, z, rfl, ha, rfl, q⟩
  · exact op_eq pins s σ H x y v u Q I rx ry h
  · obtain ⟨f, hs, hf, F⟩ := c.ex
    obtain rfl : v = Value.ref a := rx
    obtain ⟨t, rfl⟩ := ry
    obtain ⟨ox, od, J, hd⟩ := StX.insC_at I (.inr ⟨dx, fs, ha⟩)
    obtain ⟨m, hF⟩ := I.fr
    show wpAny (model X.prog X.w) X.A (richCompare .Eq (.ref a) (.str z t)) _ _ s
    refine PySem.W.cmp_K (op := .Eq) (tb := .type "str") hr.units0 hF I.ok.mod.kin J (PySem.W.Looks.of_pure rfl) c.nf hs hf ?_
    refine wpAny_call (codeAny_mono (F X.A X.stack s H [.ref a, .str z t] [.ref a, .str z] _ C8.E0 (hr.mono hk) I.env0 (.cons rfl (.cons ⟨t, rfl⟩ .nil)) q) fun r s' hq => ?_)
    cases r with
    | error e => exact hq.elim
    | ok fl =>
      cases fl with
      | ret w =>
        obtain ⟨v', H', I', rv, b, rfl, q'⟩ := I.after hq
        cases rv
        exact ⟨.bl b, H', I', rfl, q'⟩
      | next => exact hq.elim
      | brk => exact hq.elim
      | cont => exact hq.elim
theorem wipe_at {k : Nat} : ∀ (l : List Nat) (τ : L2.St), k ∈ l → (wipe τ l)[k]? = if k < τ.length then some none else none
  | [], _, h => by cases h
  | j :: l, τ, h => by
    show ((wipe τ l).set j none)[k]? = _
    by_cases e : j = k
    · subst e
      by_cases q : j < τ.length
      · rw [if_pos q, List.getElem?_set_self (by rw [wipe_length]; exact q)]
      · rw [if_neg q]
        exact List.getElem?_eq_none (by rw [List.length_set, wipe_length]; omega)
    · rw [List.getElem?_set_ne e]
      rcases List.mem_cons.mp h with z | z
      · exact absurd z.symm e
      · exact wipe_at l τ z
theorem wipe_idem (σ : L2.St) (vs : List Nat) : wipe (wipe σ vs) vs = wipe σ vs := by
  refine List.ext_getElem? fun k => ?_
  by_cases hk : k ∈ vs
  · rw [wipe_at vs _ hk, wipe_at vs _ hk, wipe_length]
  · rw [wipe_out hk]
theorem paired_snoc {α β : Type} {F : α → β → Prop} {x : α} {y : β} (h : F x y) : ∀ {l : List α} {m : List β}, Paired F l m → Paired F (l ++ [x]) (m ++ [y])
  | _, _, .nil => .cons h .nil
  | _, _, .cons r t => .cons r (paired_snoc h t)
theorem paired_noL {Pel : D → D → Prop} (hP : ∀ d e, Pel d e → NoL e) : ∀ {l m : List D}, Paired Pel l m → NoLs m
  | _, _, .nil => .nil
  | _, _, .cons r t => .cons (hP _ _ r) (paired_noL hP t)
/-- a comprehension whose element has an effect: J by the turn; the items never change -/
theorem el_lcJ {K : PySem.W.Frag} {FC : Addr → Prop} {ρ : SD} {σ : L2.St} {H : Hp} {te tl : TE} {g : TG} {vs : List Nat} {ds : List D} {ρ1 : D → SD} {Q : VK} {Pel : D → D → Prop} (R : RepE K FC H ρ σ) (nR : ∀ d, some d ∈ ρ → NoL d) (hi : EvD K FC tl σ H (.tup ds)) (hn : NoLs ds)
    (hb : ∀ d ∈ ds, Bind K FC g d vs (wipeD ρ vs) (ρ1 d)) (hl : ds.length ≤ 1000) (hP : ∀ d e, Pel d e → NoL e)
    (q : ∀ H2, Same H H2 → ∃ J : Nat → Hp → Prop, J 0 H2 ∧ (∀ i H', J i H' → Frz FC H2 H') ∧ (∀ i H' H'', J i H' → Same H' H'' → J i H'') ∧ (∀ i H' D us us', H2 D = none → H' D = some (.lst us) → J i H' → J i (upd H' D (.lst us'))) ∧
      (∀ i d σ' H' D us, ds[i]? = some d → J i H' → RepE K FC H' (ρ1 d) σ' → H2 D = none → H' D = some (.lst us) → ∀ Q' : VK, (∀ y H4, H4 D = some (.lst us) → J (i + 1) H4 → Frz FC H' H4 → ∀ e, Pel d e → Rep K FC H4 e y → Q' y H4) → te σ' H' Q') ∧
      ∀ p us es H', J ds.length H' → H2 p = none → H' p = some (.lst us) → Paired Pel ds es → Reps K FC H' es us → Q (.ref p) H') : tLc (iTup K tl) g tYes te vs σ H Q := by
  refine hi H (Same.refl H) _ fun v H2 e2 r => ?_
  obtain ⟨a, ws, rfl, hs, rr⟩ := r.tup_inv
  obtain ⟨J, j0, jz, js, ju, jt, jd⟩ := q H2 e2
  have lw := rr.length
  refine ⟨a, rfl, ⟨ws, hs⟩, fun D hD => lc_it walk_tup (fun i H' => J i H' ∧ ∃ acc es, H' D = some (.lst acc) ∧ Paired Pel (ds.take i) es ∧ Reps K FC H' es acc) ⟨js _ _ _ j0 (Same.new hD), [], [], upd_same, .nil, .nil⟩ (fun i H' _ h => (jz i H' h.1).sqt hs) ?_ ?_⟩
  · rintro i x H3 H4 hlt ⟨hJ, acc, es, hacc, hpair, hrep⟩ y
    obtain ⟨rfl, y⟩ := y
    obtain ⟨d, hd, rd⟩ := rr.get' y
    have hm : d ∈ ds := List.mem_of_getElem? hd
    have z3 := jz i _ hJ
    refine hb d hm _ _ x (((R.mono e2).frz z3 nR).wipe vs) (rd.frz z3 (hn.mem hm)) _ fun σ' H5 e5 R5 hw => ⟨hw.trans (wipe_idem σ vs), ?_⟩
    refine jt i d σ' H5 D acc hd (js _ _ _ hJ e5) R5 hD (e5 _ _ hacc) _ fun y' H6 k1 k2 k3 e k4 k5 => ?_
    have le : es.length ≤ 1000 := by
      have := Paired.length hpair
      rw [← this, List.length_take]
      omega
    refine ⟨acc, k1, small1000 (by rw [hrep.length]; exact le), ju _ _ D acc _ hD k1 k2, acc ++ [y'], es ++ [e], upd_same, ?_, ?_⟩
    · have : ds.take (i + 1) = ds.take i ++ [d] := by rw [List.take_succ, hd]; rfl
      rw [this]
      exact paired_snoc k4 hpair
    · have z6 : Frz FC H6 (upd H6 D (.lst (acc ++ [y']))) := Frz.upd_lst k1
      exact (((hrep.mono e5).frz k3 (paired_noL hP hpair)).append (.cons k5 .nil)).frz z6 (.append (paired_noL hP hpair) (.cons (hP _ _ k4) .nil))
  · rintro H3 ⟨hJ, acc, es, hacc, hpair, hrep⟩
    rw [lw] at hJ hpair
    rw [List.take_length] at hpair
    exact jd D acc es H3 hJ hD hacc hpair hrep
end T34

/-! K34k -/
set_option maxHeartbeats 4000000
namespace T34
open PySem PySem.Spec PyProof.Rows L2
section
variable {K : PySem.W.Frag} {FC : Addr → Prop} {ρ : SD} {σ : L2.St} {H H' : Hp} {te to : TE} {d : D} {ds : List D} {B : Ends} {p : Addr} {vs us : List V} {cs : Cs}
theorem st_setS {n : Nat} {t2 : TS} (R : RepE K FC H ρ σ) (h : EvD K FC te σ H d) (q : ∀ v H', Same H H' → Rep K FC H' d v → RepE K FC H' (ρ.set n (some d)) (σ.set n (some v)) → t2 B (σ.set n (some v)) H') : tSeq (tAsg te (gName n)) t2 B σ H := st_set (B := { B with nx := t2 B }) R h q
theorem ev_notN' {te : TE} (ha : EvD K FC te σ H dn) : EvD K FC (tNotN te) σ H (db false) := fun H1 e Q q => ha H1 e _ fun v H2 e2 r => by
  cases r.at_inv
  exact q _ H2 e2 (.at _)
theorem ev_notNS {te : TE} {x : Str} (ha : EvD K FC te σ H (dz x)) : EvD K FC (tNotN te) σ H (db true) := fun H1 e Q q => ha H1 e _ fun v H2 e2 r => by
  cases r.at_inv
  exact q _ H2 e2 (.at _)
theorem st_setIfY {c : TT} {ta tb : TE} {n : Nat} (h : EvT c σ H true) (q : ∀ H', Same H H' → ta σ H' fun x H1 => B.nx (σ.set n (some x)) H1) : tAsg (tIf c ta tb) (gName n) B σ H := h H (Same.refl H) _ fun H' e => q H' e
theorem st_setIfN {c : TT} {ta tb : TE} {n : Nat} (h : EvT c σ H false) (q : ∀ H', Same H H' → tb σ H' fun x H1 => B.nx (σ.set n (some x)) H1) : tAsg (tIf c ta tb) (gName n) B σ H := h H (Same.refl H) _ fun H' e => q H' e
theorem st_tupLc {K : PySem.W.Frag} {wi : TI} {g : TG} {tt : TT} {te : TE} {ix : List Nat} {n : Nat} {t2 : TS} (h : tLc wi g tt te ix σ H fun x H1 => rTupL K [x] H1 fun v H2 => t2 B (σ.set n (some v)) H2) : tSeq (tAsg (tCB (rTupL K) (tCons (tLc wi g tt te ix) tNil)) (gName n)) t2 B σ H := h
theorem st_asg {te : TE} {g : TG} {t2 : TS} (h : te σ H fun x H1 => g x σ H1 fun σ' H' => t2 B σ' H') : tSeq (tAsg te g) t2 B σ H := h
theorem st_truL {n : Nat} {t1 t2 : TS} {us : List V} {p : Addr} (hs : σ[n]? = some (some (.ref p))) (hp : H p = some (.lst us)) (q1 : us ≠ [] → t1 B σ H) (q2 : us = [] → t2 B σ H) : tIfS (fun σ H Q => tVar n σ H fun x H' => ∃ k, TruV K x H' k ∧ Q k H') t1 t2 B σ H := by
  refine ⟨_, hs, !us.isEmpty, .inl ⟨us, SqL.of hp, rfl⟩, ?_⟩
  cases us with
  | nil => exact q2 rfl
  | cons v us => exact q1 (List.cons_ne_nil _ _)
theorem st_truLS {n : Nat} {t1 t3 : TS} {us : List V} {p : Addr} (hs : σ[n]? = some (some (.ref p))) (hp : H p = some (.lst us)) (q1 : us ≠ [] → t1 { B with nx := t3 B } σ H) (q2 : us = [] → t3 B σ H) : tSeq (tIfS (fun σ H Q => tVar n σ H fun x H' => ∃ k, TruV K x H' k ∧ Q k H') t1 tNext) t3 B σ H := st_truL (B := { B with nx := t3 B }) hs hp q1 q2
/-- a name that holds a list of its own -/
theorem ev_varL {n : Nat} (R : RepE K FC H ρ σ) (h : ρ[n]? = some (some (.at (.ref p)))) (hp : H p = some (.lst us)) (r : Reps K FC H ds us) : EvD K FC (tVar n) σ H (.lst ds) := fun H1 e Q q => ⟨_, R.ref h, q _ H1 (Same.refl H1) (.lst (SqL.of (e _ _ hp)) (r.mono e))⟩
theorem st_appendE (ho : EvD K FC to σ H (.at (.ref p))) (hp : H p = some (.lst vs)) (hl : vs.length < sizeLine) (h : EvD K FC te σ H d) (q : ∀ v H', Same H H' → Rep K FC H' d v → H' p = some (.lst vs) → B.nx σ (upd H' p (.lst (vs ++ [v])))) :
    tDrop (tBM K "list" rAppend to (tCons te tNil)) B σ H := ho.go fun x H1 e1 r1 => by
  cases r1.at_inv
  exact ⟨.inl ⟨rfl, _, .inl (.inl (e1 _ _ hp))⟩, (h.mono e1).go fun v H2 e2 r => ⟨p, vs, v, rfl, rfl, (e1.trans e2) _ _ hp, hl, q v H2 (e1.trans e2) r ((e1.trans e2) _ _ hp)⟩⟩
theorem less_same (e : Same H H') : Same (lessC cs H) (lessC cs H') := fun b u h => by
  obtain ⟨n, h⟩ := less_some h
  rw [less_out n]
  exact e _ _ h
theorem told_same (t : Told cs H) (e : Same H H') : Told cs H' := fun b o h => e _ _ (t b o h)
theorem frz_with (u : Untold cs H) (t : Told cs H') (z : Frz FC H (lessC cs H')) : Frz FC (withC cs H) H' := by
  have key : ∀ b o, withC cs H b = some o → (∃ ob, cs.lookup b = some ob ∧ o = pinH ob) ∨ (cs.lookup b = none ∧ H b = some o) := fun b o e => by
    cases q : cs.lookup b with
    | some ob => rw [with_in q] at e; cases e; exact .inl ⟨ob, rfl, rfl⟩
    | none => rw [with_out q] at e; exact .inr ⟨rfl, e⟩
  refine ⟨fun b xs e => ?_, fun b o v e => ?_, fun b C dx gs f n e => ?_⟩
  · rcases key b _ e with ⟨ob, _, q⟩ | ⟨n, e⟩
    · cases q
    · exact (less_some (z.tup _ _ e)).2
  · rcases key b _ e with ⟨ob, h, q⟩ | ⟨n, e⟩
    · cases q
      exact t b _ h
    · exact (less_some (z.frz _ _ _ e)).2
  · rcases key b _ e with ⟨ob, _, q⟩ | ⟨m, e⟩
    · cases q
    · exact (less_some (z.ins _ _ _ _ f n e)).2
theorem tabs_of_same {T : List (Addr × Str)} (t : LamX.Tabs T H) (e : Same H H') : LamX.Tabs T H' := tabs_same t e
end
/-! ### an ask's own fields -/
section
variable {w : World} {K : PySem.W.Frag} {mg : Str → Option Value} {a : Ad} {pl : Pl} {fs cells : List Nat} {A : Asks} {b1 k n : Nat} {H : Hp} {σ : L2.St} {ρ : SD}
theorem ev_owner (T : Tx K w mg a) (I : AskI K a pl fs cells A b1 k H) (R : RepE K a.FC H ρ σ) (h0 : ρ[n]? = some (some (.at (.ref A.p)))) : EvD K a.FC (tFld K (tVar n) "owner") σ H (pl.d a) := ev_fldM (ev_var R h0) I.ob T.oA.cl T.nAowner rfl I.ow
theorem ev_trace (T : Tx K w mg a) (I : AskI K a pl fs cells A b1 k H) (R : RepE K a.FC H ρ σ) (h0 : ρ[n]? = some (some (.at (.ref A.p)))) : EvD K a.FC (tFld K (tVar n) "trace") σ H (.at (.ref A.lt)) := ev_fldM (ev_var R h0) I.ob T.oA.cl T.nAtrace rfl (.at _)
theorem place_at {i : Nat} {x : Fm × Rl} (h : pl.pls[i]? = some x) : atI (pl.pls.map (placeD a)) (i : Int) = some (placeD a x) := atI_nat (by rw [List.getElem?_map, h]; rfl)
end
theorem small_most {n : Nat} (h : n ≤ most) : n < sizeLine := Nat.lt_of_le_of_lt h (by decide +kernel)
/-- what an ask's marks are worth -/
structure MarksOk (pl : Pl) (i : Nat) (ms : List (Nm × Int)) : Prop where
  nms : ∀ m ∈ ms, m.1 ∈ nmsFor pl.f pl.c i
  len : ms.length ≤ 7
def mkD : Option (List (Nm × Int)) → D
  | none => dn
  | some ms => marksD ms
theorem mkD_noL (m : Option (List (Nm × Int))) : NoL (mkD m) := by
  cases m with
  | none => exact .at _
  | some ms => exact marksD_noL ms
def markP (m : Nm × Int) : PyData := .tuple [.str m.1.s, .int m.2]
theorem marks_py : ∀ ms : List (Nm × Int), PyDs (ms.map markD) (ms.map markP)
  | [] => .nil
  | m :: ms => .cons (.tup (.cons (.str _) (.cons (.int _) .nil))) (marks_py ms)
theorem marks_lay : ∀ ms : List (Nm × Int), PyData.canLayAll0 (ms.map markP) = true
  | [] => by simp [PyData.canLayAll0]
  | m :: ms => by
    rw [List.map_cons, PyData.canLayAll0, marks_lay ms, Bool.and_true]
    have : PyData.strOk m.1.s = true := by cases m.1 <;> decide +kernel
    simp [markP, PyData.canLay0, PyData.canLayAll0, this]
theorem marks_depth : ∀ ms : List (Nm × Int), PyData.depthAll (ms.map markP) ≤ 1
  | [] => by simp [PyData.depthAll]
  | m :: ms => by
    rw [List.map_cons, PyData.depthAll]
    have := marks_depth ms
    have h : PyData.depth (markP m) = 1 := by simp [markP, PyData.depth, PyData.depthAll]
    omega
theorem marks_shaped (ms : List (Nm × Int)) : SeqAt.shaped (.tuple (ms.map markP)) = true := by
  unfold SeqAt.shaped
  have h1 := marks_lay ms
  have h2 := marks_depth ms
  rw [PyData.canLay0, h1, PyData.depth]
  simp
  omega
/-- [row for row in xs if row[0] == marks] -/
theorem el_rows {K : PySem.W.Frag} {FC : Addr → Prop} {ρ : SD} {σ : L2.St} {H : Hp} {tl : TE} {rs : List Row} {ms : List (Nm × Int)} {n m : Nat} (R : RepE K FC H ρ σ) (hn : n < ρ.length) (hm : ρ[m]? = some (some (marksD ms))) (nm : m ≠ n) (hi : EvD K FC tl σ H (.lst (rs.map rowD))) (hl : rs.length ≤ 1000000) :
    ∃ p : Row → Bool, EvL K FC (tLc (iList K tl) (gName n) (tTest (tOp (rEqD K) (tOp (rIxT K) (tVar n) (tC (.int 0))) (tVar m))) (tVar n) [n]) σ H ((rs.filter p).map rowD) := by
  refine ⟨fun r => PyData.eqv (.tuple (r.marks.map markP)) (.tuple (ms.map markP)), ?_⟩
  have hw : (wipeD ρ [n]).length = ρ.length := by show (List.set _ _ _).length = _; rw [List.length_set]; rfl
  have at1 : ∀ r : Row, ((wipeD ρ [n]).set n (some (rowD r)))[n]? = some (some (rowD r)) := fun r => List.getElem?_set_self (by rw [hw]; exact hn)
  have at2 : ∀ r : Row, ((wipeD ρ [n]).set n (some (rowD r)))[m]? = some (some (marksD ms)) := fun r => by
    rw [List.getElem?_set_ne (Ne.symm nm)]
    show (ρ.set n none)[m]? = _
    rw [List.getElem?_set_ne (Ne.symm nm)]
    exact hm
  exact el_lc (α := Row) (xs := rs) (dof := rowD) (f := rowD) R (evi_list hi) (fun x _ => bind_name (List.mem_singleton.mpr rfl)) (fun r _ σ' H' e R' => et_test (ev_eqD (ev_ixT (ev_var R' (at1 r)) ev_c rfl) (ev_var R' (at2 r)) (.tup (marks_py _)) (.tup (marks_py _)) (marks_shaped _) (marks_shaped _)))
    (fun r _ _ σ' H' e R' => ev_var R' (at1 r)) (fun r _ => rowD_noL r) hl

def PelM (d e : D) : Prop := ∃ (x : Nm) (z : Int), d = nmD x ∧ e = markD (x, z)
theorem pelM_noL (d e : D) (h : PelM d e) : NoL e := by
  obtain ⟨x, z, _, rfl⟩ := h
  exact .tup (.cons (.at _) (.cons (.at _) .nil))
theorem pelM_marks : ∀ {l : List Nm} {es : List D}, Paired PelM (l.map nmD) es → ∃ ms : List (Nm × Int), es = ms.map markD ∧ ms.map (·.1) = l
  | [], _, h => by cases h; exact ⟨[], rfl, rfl⟩
  | x :: l, _, h => by
    cases h with
    | cons h t =>
      obtain ⟨y, z, h1, rfl⟩ := h
      have : y = x := (Nm.s_inj (V.str.inj (D.at.inj h1))).symm
      subst this
      obtain ⟨ms, rfl, rfl⟩ := pelM_marks t
      exact ⟨(y, z) :: ms, rfl, rfl⟩
theorem AskI.up {K : PySem.W.Frag} {a : Ad} {pl : Pl} {fs cells : List Nat} {A : Asks} {b1 b2 k : Nat} {H : Hp} (I : AskI K a pl fs cells A b1 k H) (h : b1 ≤ b2) : AskI K a pl fs cells A b2 k H := ⟨I.ob, I.ow, I.si, I.he, fun i l hl => let ⟨rs, us, h1, h2, h3, h4, h5⟩ := I.rows i l hl; ⟨rs, us, h1, h2, h3, h4, fun q => Nat.le_trans (h5 q) h⟩, I.tr⟩
theorem extN_keep {L : List Addr} {H H' : Hp} (e : LamX.ExtN H H') : KeepX L H H' := fun b o h _ t => e b o h t
theorem AskI.ext {K : PySem.W.Frag} {a : Ad} {pl : Pl} {fs cells : List Nat} {A : Asks} {b1 k : Nat} {H H' : Hp} (I : AskI K a pl fs cells A b1 k H) (e : LamX.ExtN H H') : AskI K a pl fs cells A b1 k H' := I.off (M := []) (extN_keep e) (KeepX.frz (L := []) (extN_keep e) fun _ h => (nomatch h)) fun _ h => (nomatch h)
theorem st_callL2 {X : Cx} {K : PySem.W.Frag} {FC : Addr → Prop} {TT : List (Addr × Str)} {kc n : Nat} {q : Str} {ixs : List Nat} {tb : XK → TE} {sp : Sp} {te1 te2 : TE} {t2 : TS} {B : Ends} {σ : L2.St} {H : Hp} {d1 d2 : D} (h1 : EvD K FC te1 σ H d1) (h2 : EvD K FC te2 σ H d2) (n1 : NoL d1) (n2 : NoL d2) (ht : LamX.Tabs TT H)
    (h : ∀ v1 v2 H1 f c', KeepX [] H H1 → Rep K FC H1 d1 v1 → Rep K FC H1 d2 v2 → LamX.Tabs TT H1 → H1 c' = some (codeH c' q) → ∃ ws, SlotsAt σ ixs ws ∧ ∀ cs, Untold cs H1 → FnTold cs f → FnR X.prog X.w X.K X.mg X.base (L2N.CX X.prog X.w) (kc + 1) f (spClo q c' cs ws tb) →
      sp ([v1, v2] ++ [.ref f]) (withC cs H1) (fun r H' => Told cs H' → t2 B (σ.set n (some r)) (lessC cs H')) (fun cls d H' => Told cs H' → C8.E0 cls d (lessC cs H'))) : tSeq (tAsg (tCallL X kc q ixs tb sp C8.E0 (tConsL te1 (tConsL te2 (tLam1 TT q)))) (gName n)) t2 B σ H :=
  h1 H (Same.refl H) _ fun v1 Ha ea ra => h2 Ha ea _ fun v2 Hb eb rb => ⟨tabs_same ht (ea.trans eb), fun H1 f c' ext t1 hc => by
    have kp : KeepX [] Hb H1 := extN_keep ext
    have z : Frz FC Hb H1 := kp.frz fun _ h => (nomatch h)
    obtain ⟨ws, hw, h⟩ := h v1 v2 H1 f c' ((KeepX.of (ea.trans eb)).trans kp) ((ra.mono eb).frz z n1) (rb.frz z n2) t1 hc
    exact ⟨ws, hw, h⟩⟩
/-! ### what a rule is, the items that were read -/
def Rl.is (wd : Str) : Rl → Bool
  | .reads => decide (V.str "reads" = V.str wd)
  | .shown => decide (V.str "shown" = V.str wd)
  | _ => false
def spKeyEq (K : PySem.W.Frag) (a : Ad) : Sp := spN K a.FC fun ds Pd => ∃ (l : List Nm) (z : Str), ds = [keyD a.CK l, dz z] ∧ Pd = fun d => d = db false
theorem et_rule {K : PySem.W.Frag} {a : Ad} {σ : L2.St} {H : Hp} {te : TE} {rl : Rl} {wd : Str} (ha : EvD K a.FC te σ H (rl.d a.CK)) : EvT (tTest (tOp (rEqOwn a.CK (spKeyEq K a)) te (tC (.str wd)))) σ H (rl.is wd) := fun H1 e Q q => ha H1 e _ fun v H2 e2 r => by
  cases rl with
  | none =>
    cases r.at_inv
    exact .inl ⟨rfl, _, by simp [Rl.is], q H2 e2⟩
  | reads =>
    cases r.at_inv
    exact .inl ⟨rfl, _, rfl, q H2 e2⟩
  | shown =>
    cases r.at_inv
    exact .inl ⟨rfl, _, rfl, q H2 e2⟩
  | key l =>
    obtain ⟨p, dx, gs, rfl, fc, ho, rf⟩ := r.obj_inv
    refine .inr ⟨p, dx, gs, wd, rfl, ho, rfl, [keyD a.CK l, dz wd], _, ⟨l, wd, rfl, rfl⟩, .cons r (.cons (.at _) .nil), fun d v H3 pd e3 r3 => ?_⟩
    subst pd
    cases r3.at_inv
    exact ⟨false, rfl, false, rfl, q H3 (e2.trans e3)⟩
theorem el_items {K : PySem.W.Frag} {FC : Addr → Prop} {ρ : SD} {σ : L2.St} {H : Hp} {n : Nat} {dr : Addr} {es : List (Nm × Int)} (R : RepE K FC H ρ σ) (h : ρ[n]? = some (some (.at (.ref dr)))) (hd : H dr = some (.dK (kvOf es))) : EvL K FC (LiI.tListItems (tVar n)) σ H (es.map markD) := fun H1 e Q q =>
  ⟨_, R.ref h, dr, _, rfl, e _ _ hd, fun H' p ts ext hp _ _ hl hpair => q p _ H' hp (fun b o z => ext b o z) hl (by
    have key : ∀ {ts : List Addr} {es : List (Nm × Int)}, Paired (fun (t : Addr) (q : L2.Key × V) => H' t = some (.tup [kV q.1, q.2])) ts (kvOf es) → Reps K FC H' (es.map markD) (ts.map V.ref) := fun {ts es} => by
      intro h
      induction es generalizing ts with
      | nil => cases h; exact .nil
      | cons x es ih =>
        cases h with
        | cons h t => exact .cons (.tup (SqT.of h) (.cons (.at _) (.cons (.at _) .nil))) (ih t)
    exact key hpair)⟩
/-- what is seen of a heap but locked dicts -/
def Sees (H H' : Hp) : Prop := ∀ b o, H b = some o → (∀ od kvs, o ≠ .frz od (.dK kvs)) → (∀ kvs, o ≠ .dK kvs) → H' b = some o
section
variable {K : PySem.W.Frag} {FC : Addr → Prop} {H H' : Hp}
mutual
theorem Rep.sees (e : Sees H H') : ∀ {d : D} {v : V}, Rep K FC H d v → Rep K FC H' d v
  | _, _, .at v => .at v
  | _, _, .tup h r => .tup (by
      rcases h with (h | ⟨o, h⟩) | h
      · exact .inl (.inl (e _ _ h (fun _ _ z => by cases z) fun _ z => by cases z))
      · exact .inl (.inr ⟨o, e _ _ h (fun _ _ z => by cases z) fun _ z => by cases z⟩)
      · exact .inr h) (Reps.sees e r)
  | _, _, .lst h r => .lst (by
      rcases h with (h | ⟨o, h⟩) | h
      · exact .inl (.inl (e _ _ h (fun _ _ z => by cases z) fun _ z => by cases z))
      · exact .inl (.inr ⟨o, e _ _ h (fun _ _ z => by cases z) fun _ z => by cases z⟩)
      · exact .inr h) (Reps.sees e r)
  | _, _, .obj c h n r => .obj c (e _ _ h (fun _ _ z => by cases z) fun _ z => by cases z) n (RepF.sees e r)
theorem Reps.sees (e : Sees H H') : ∀ {ds : List D} {vs : List V}, Reps K FC H ds vs → Reps K FC H' ds vs
  | _, _, .nil => .nil
  | _, _, .cons h r => .cons (Rep.sees e h) (Reps.sees e r)
theorem RepF.sees (e : Sees H H') : ∀ {fs : List (Str × D)} {gs : List (Str × V)}, RepF K FC H fs gs → RepF K FC H' fs gs
  | _, _, .nil => .nil
  | _, _, .cons h r => .cons (Rep.sees e h) (RepF.sees e r)
end
end
/-- a new list, the dict at dr locked meanwhile -/
theorem el_lock {K : PySem.W.Frag} {FC : Addr → Prop} {σ : L2.St} {H : Hp} {te : TE} {dr : Addr} {kvs : List (L2.Key × V)} {ds : List D} (hd : H dr = some (.dK kvs)) (h : ∀ H1, Same H H1 → ∀ od, EvL K FC te σ (upd H1 dr (.frz od (.dK kvs))) ds) : EvL K FC (tLockE te) σ H ds := fun H1 e Q q => by
  have hd1 := e _ _ hd
  refine ⟨dr, .dK kvs, hd1, trivial, fun od => (h H1 e od).go fun p vs H2 hp e2 hl r => ?_⟩
  have hL : upd H1 dr (.frz od (.dK kvs)) dr = some (.frz od (.dK kvs)) := upd_same
  have h2 := e2 _ _ hL
  have np : p ≠ dr := fun z => by rw [z, hL] at hp; cases hp
  refine ⟨h2, q p vs _ ?_ (fun b o eb => ?_) (by rw [upd_ne np]; exact hl) (r.sees fun b o eb nf _ => ?_)⟩
  · rw [upd_ne np] at hp
    exact hp
  · by_cases z : b = dr
    · subst z
      rw [upd_same, ← eb, hd1]
    · rw [upd_ne z]
      exact e2 _ _ (by rw [upd_ne z]; exact eb)
  · have z : b ≠ dr := fun z => by
      subst z
      rw [h2] at eb
      cases eb
      exact nf _ _ rfl
    rw [upd_ne z]
    exact eb
theorem val_of : ∀ {es : List (Nm × Int)} {x : Nm} {z : Int}, (es.map (·.1)).Nodup → (x, z) ∈ es → valV (kvOf es) (Sum.inr x.s) = some (.int z)
  | (y, u) :: es, x, z, nd, m => by
    have nd := List.nodup_cons.mp nd
    rcases List.mem_cons.mp m with e | m
    · cases e
      exact valV_pos (p := (Sum.inr y.s, V.int u)) rfl
    · have ne : ¬ (Sum.inr y.s : L2.Key) = Sum.inr x.s := fun q => by
        have := Nm.s_inj (Sum.inr.inj q)
        subst this
        exact nd.1 (List.mem_map.mpr ⟨_, m, rfl⟩)
      exact (valV_neg (p := (Sum.inr y.s, V.int u)) ne).trans (val_of nd.2 m)
theorem evi_keys {K : PySem.W.Frag} {FC : Addr → Prop} {ρ : SD} {σ : L2.St} {H : Hp} {n : Nat} {dr : Addr} {od : Obj} {es : List (Nm × Int)} (R : RepE K FC H ρ σ) (h : ρ[n]? = some (some (.at (.ref dr)))) (hd : H dr = some (.frz od (.dK (kvOf es)))) :
    EvI K FC (iKeys (tVar n)) σ H (es.map fun e => nmD e.1) := fun H1 e Q q => by
  refine ⟨_, R.ref h, dr, od, rfl, .inl ⟨kvOf es, e _ _ hd, q _ H1 (Same.refl _) ⟨_, _, by rw [List.length_map, ← List.length_map (f := fun e : Nm × Int => ((Sum.inr e.1.s : L2.Key), V.int e.2)) (as := es)]; exact walk_keys (kvs := kvOf es), e _ _ hd, fun _ _ s h => s _ _ h, fun i H2 x H3 s hi y => ?_⟩⟩⟩
  obtain ⟨rfl, k, v, h1, rfl⟩ := y
  rw [List.getElem?_map] at h1
  obtain ⟨en, h2, h3⟩ := Option.map_eq_some_iff.mp h1
  cases h3
  exact ⟨Same.refl _, nmD en.1, by rw [List.getElem?_map, h2]; rfl, .at _⟩
theorem ev_dgetF {K : PySem.W.Frag} {FC : Addr → Prop} {ρ : SD} {σ : L2.St} {H : Hp} {n : Nat} {dr : Addr} {od : Obj} {kvs : List (L2.Key × V)} {ty : TE} {x : Str} {v : V} (R : RepE K FC H ρ σ) (h : ρ[n]? = some (some (.at (.ref dr)))) (hd : H dr = some (.frz od (.dK kvs))) (hy : EvD K FC ty σ H (dz x))
    (hv : valV kvs (Sum.inr x) = some v) : EvD K FC (tDGet (tVar n) ty) σ H (.at v) := fun H1 e Q q => ⟨_, R.ref h, hy H1 e _ fun y H2 e2 r => by
  cases r.at_inv
  exact ⟨dr, v, rfl, .inl ⟨kvs, Sum.inr x, .inr ⟨od, (e.trans e2) _ _ hd⟩, rfl, hv.symm⟩, q _ H2 e2 (.at _)⟩⟩
/-- [(name, reads[name]) for name in reads if name[0] != "p"] -/
theorem el_shown {K : PySem.W.Frag} {FC : Addr → Prop} {ρ : SD} {σ : L2.St} {H : Hp} {n m : Nat} {dr : Addr} {es : List (Nm × Int)} (R : RepE K FC H ρ σ) (h : ρ[n]? = some (some (.at (.ref dr)))) (hd : H dr = some (.dK (kvOf es))) (nd : (es.map (·.1)).Nodup) (hl : es.length ≤ 7) (hm : m < ρ.length) (nm : n ≠ m) :
    ∃ p : Nm × Int → Bool, EvL K FC (tLockE (tLc (iKeys (tVar n)) (gName m) (tTest (tOp rNe (tOp rIxS (tVar m) (tC (.int 0))) (tC (.str "p")))) (tTup (tCons (tVar m) (tCons (tDGet (tVar n) (tVar m)) tNil))) [m])) σ H ((es.filter p).map markD) := by
  refine ⟨fun e => !decide (V.str e.1.let = V.str "p"), el_lock hd fun H1 e1 od => ?_⟩
  have see : Sees H1 (upd H1 dr (.frz od (.dK (kvOf es)))) := fun b o eb _ nd => by
    have z : b ≠ dr := fun z => by
      subst z
      rw [e1 _ _ hd] at eb
      cases eb
      exact nd _ rfl
    rw [upd_ne z]
    exact eb
  have hw : (wipeD ρ [m]).length = ρ.length := by show (List.set _ _ _).length = _; rw [List.length_set]; rfl
  have R1 : RepE K FC (upd H1 dr (.frz od (.dK (kvOf es)))) ρ σ := ⟨R.len, fun i d hh => let ⟨v, a, b⟩ := R.get i d hh; ⟨v, a, (b.mono e1).sees see⟩⟩
  have at1 : ∀ e : Nm × Int, ((wipeD ρ [m]).set m (some (nmD e.1)))[m]? = some (some (nmD e.1)) := fun r => List.getElem?_set_self (by rw [hw]; exact hm)
  have at2 : ∀ e : Nm × Int, ((wipeD ρ [m]).set m (some (nmD e.1)))[n]? = some (some (.at (.ref dr))) := fun r => by
    rw [List.getElem?_set_ne (Ne.symm nm)]
    show (ρ.set m none)[n]? = _
    rw [List.getElem?_set_ne (Ne.symm nm)]
    exact h
  refine el_lc (α := Nm × Int) (xs := es) (dof := fun e => nmD e.1) (p := fun e => !decide (V.str e.1.let = V.str "p")) (f := markD) R1 (evi_keys R1 h upd_same) (fun x _ => bind_name (List.mem_singleton.mpr rfl)) (fun e _ σ' H' eS R' => ?_) (fun e he _ σ' H' eS R' => ?_) (fun e _ => .tup (.cons (.at _) (.cons (.at _) .nil))) (by omega)
  · obtain ⟨c0, h3, h4⟩ := e.1.at0
    exact et_test ((ev_ne (ev_ixS (ev_var R' (at1 e)) ev_c e.1.len_s h3) ev_c rfl).to (by rw [h4]))
  · exact ev_tup (ea_cons (ev_var R' (at1 e)) (ea_cons (ev_dgetF R' (at2 e) (eS _ _ upd_same) (ev_var R' (at1 e)) (val_of nd he)) ea_nil)) (by show 2 ≤ sizeLine; decide)
end T34

/-! Kd12 -/
set_option maxHeartbeats 4000000
namespace T34
open PySem PySem.Spec PyProof.Rows L2
local macro_rules | `(tactic| walk_at "ev") => `(tactic| (first
  | (with_reducible exact ev_c)
  | ((with_reducible refine' ev_var ?R ?h); (case R => assumption); (case h => rfl))
  | (with_reducible refine' ea_cons ?_ ?_)
  | (with_reducible exact ea_nil)
  | (with_reducible refine' ev_add ?_ ?_)
  | (with_reducible refine' ev_sub ?_ ?_)
  | (with_reducible refine' ev_mul ?_ ?_ ?_)
  | (with_reducible refine' ev_mod ?_ ?_ ?_)
  | (with_reducible refine' ev_div ?_ ?_ ?_)
  | (with_reducible refine' ev_lt ?_ ?_)
  | (with_reducible refine' ev_le ?_ ?_)
  | (with_reducible refine' ev_gt ?_ ?_)
  | (with_reducible refine' ev_ge ?_ ?_)
  | (with_reducible refine' ev_int ?_)
  | (with_reducible refine' ev_not ?_)
  | (with_reducible refine' ev_tup ?_)
  | (with_reducible refine' ev_between ?_ ?_ ?_)
  | (with_reducible refine' et_test ?_)
  | (with_reducible refine' et_B ?_)
  | (with_reducible refine' et_not ?_)))
section
variable {P : Program} {w : World} {K : PySem.W.Frag} {mg : Str → Option Value} {base : Heap} {a : Ad} {TT : List (Addr × Str)} {f : Addr} {fd : FuncData}
open LamX (Tabs)
abbrev s_Ask_asked : Stmt := inClass (top 44) 3
theorem sc_Ask_asked : FnScope ["self", "place", "rule", "marks", "found", "reads", "form", "number", "name", "row"] ["self", "place"] (defScope s_Ask_asked) := ⟨rfl, rfl, rfl, by decide +kernel, rfl, by decide +kernel, by decide +kernel⟩
abbrev qAsked : Str := ("Ask.asked" ++ ".<locals>." : Str) ++ "<lambda>"
def AskQ (K : PySem.W.Frag) (a : Ad) (TT : List (Addr × Str)) (pl : Pl) (fs cells : List Nat) (A : Asks) (b1 i k : Nat) (cs : Cs) (cc dr : Addr) (q : Str) (H9 : Hp) (j : Nat) (H' : Hp) : Prop :=
  Told cs H' ∧ H' cc = some (codeH cc q) ∧ Tabs TT (lessC cs H') ∧ KeepX (dr :: A.L) H9 (lessC cs H') ∧ ∃ es, EsOk pl i es ∧ lessC cs H' dr = some (.dK (kvOf es)) ∧ AskI K a pl fs cells A b1 (k + 2 * i * j) (lessC cs H')
theorem ask_askP {kA i k b1 : Nat} {pl : Pl} {fs cells : List Nat} {A : Asks} {cs : Cs} {cc ff dr : Addr} {q : Str} {H9 : Hp} {kvs : List (L2.Key × V)} {k9 : Nat} (C : AskC pl fs cells A) (un : Untold cs H9) (ft : FnTold cs ff) (I9 : AskI K a pl fs cells A b1 k9 H9) (hdr9 : H9 dr = some (.dK kvs))
    (F' : FnR P w K mg base (L2N.CX P w) (kA + 3) ff (spClo q cc cs [.ref dr, .ref A.p] fun E => tMeth a.CA "read" (spRead K a TT i) [] C8.E0 (tVar 2) (tCons (tVar 1) (tCons (tVar 0) tNil)))) :
    AskP P w K mg base a.FC (kA + 3) (withC cs H9) (pl.b : Int) ff (nmsFor pl.f pl.c i) (AskQ K a TT pl fs cells A b1 i k cs cc dr q H9) := by
  have mut9 : ∀ y ∈ dr :: A.L, MutO a.FC H9 y := fun y hy => by
    rcases List.mem_cons.mp hy with rfl | hy
    · exact .inr (.inl ⟨_, hdr9⟩)
    · exact I9.mut y hy
  refine ⟨(fnR_plain F').imp fun us H1 Q1 _ ⟨x, j, hx, e, ⟨told, hcc, tt, kp, es, eo, hd, IA⟩, q1⟩ => ⟨.str x.s, e, told, hcc, ?_⟩, fun j H1 ⟨told, _, _, kp, _⟩ => frz_with un told (kp.frz mut9), fun j H1 H2 ⟨told, hcc, tt, kp, es, eo, hd, IA⟩ e => ?_, fun j H1 ⟨told, hcc, tt, kp, es, eo, hd, IA⟩ => ?_, fun j H1 ⟨told, _⟩ => ?_⟩
  · refine ⟨.ref A.p, rfl, A.p, A.dx, _, rfl, IA.ob, rfl, .ref dr, rfl, .str x.s, rfl, pl, fs, cells, A, b1, k + 2 * i * j, x, dr, es, C, hx, rfl, hd, eo, ?_, tt, fun z es' H' z0 z1 eo' hd' IA' kp' tt' un' => q1 z _ z0 z1 ⟨told_with, ?_, ?_, ?_, es', eo', ?_, ?_⟩⟩
    · have e : k + 2 * i * (j + 1) = k + 2 * i * j + 2 * i := by rw [Nat.mul_add]; omega
      rw [← e]
      exact IA
    · have n := told_not told hcc fun o z => by cases z
      have h1 : lessC cs H1 cc = some (codeH cc q) := by rw [less_out n]; exact hcc
      refine with_some un' (kp' _ _ h1 (fun z => ?_) fun _ z => by cases z)
      rcases List.mem_cons.mp z with z | z
      · rw [z, hd] at h1; cases h1
      · rcases IA.mut _ z with ⟨_, y⟩ | ⟨_, y⟩ | ⟨_, _, _, y, _⟩ <;> rw [h1] at y <;> cases y
    · rw [less_with un']; exact tt'
    · rw [less_with un']; exact kp.trans kp'
    · rw [less_with un']; exact hd'
    · rw [less_with un']; exact IA'
  · exact ⟨told_same told e, e _ _ hcc, tabs_same tt (less_same e), kp.trans (KeepX.of (less_same e)), es, eo, less_same e _ _ hd, IA.same (less_same e)⟩
  · refine ⟨told, hcc, tt, kp, es, eo, hd, AskI.down (2 * i) ?_⟩
    have e : k + 2 * i * (j + 1) = k + 2 * i * j + 2 * i := by rw [Nat.mul_add]; omega
    rw [← e]
    exact IA
  · obtain ⟨oc, od, fd', sl, h⟩ := ft
    exact ⟨oc, od, fd', sl, told _ _ h⟩
theorem ok_asked {kA i : Nat} {c P0 : Addr} (hi1 : i ≤ 1) (F : FnP K "asked" "Ask.asked" s_Ask_asked f fd) (T : Tx K w mg a) (p_Pplaces : Prp P w K mg base 1 a.CP "places" (spN K a.FC (rPplaces a))) (p_Pbase : Prp P w K mg base 1 a.CP "base" (spN K a.FC (rPbase a))) (p_Knames : Prp P w K mg base 1 a.CK "names" (spN K a.FC (rKnames a.CK)))
    (m_number_now : C8.Met P w K mg base (kA + 1) a.CA "number_now" (spNow K a TT i) []) (m_first_that_fits : C8.Met P w K mg base (kA + 3) a.CA "first_that_fits" (spFirst K a TT i) []) (m_read : C8.Met P w K mg base (kA + 2) a.CA "read" (spRead K a TT i) [])
    (c_reckoned : C8.Cal P w K mg base (kA + 10) "reckoned" (spReck P w K mg base a.FC (kA + 3) 5) []) (c_keq : EqOwn P w K mg base 2 a.CK (spKeyEq K a)) (TB : LamX.TabB base mg c P0) (hcode : fd.code = .ref c) (hT : (P0, qAsked) ∈ TT) (hu : ∀ p ∈ TT, p.1 = P0 → p.2 = qAsked) :
    FnOk P w K mg base CX0 (kA + 11) f fd ["self", "place"] (spAsked K a TT i) := by
  refine fnGc F sc_Ask_asked (fun vs H Q E h => ?_) (fun Ar outer s H E hr => ⟨_, PSs.nox (pss_cons (ps_set (i := 2) sc_Ask_asked.nd rfl (Or.inl rfl) (pe_ix (ix_tupK (K := K)) (pe_ix (ix_tupK (K := K)) (pe_pp p_Pplaces hr (by omega) (pe_fldK (K := K) (pv 0))) (pv 1) (fun _ _ => rfl)) pe_int (fun _ _ => rfl)))
    (pss_cons (ps_set (i := 3) sc_Ask_asked.nd rfl (Or.inr rfl) pe_non)
    (C8.pss_cut (ps_if (pt_val (pe_callB (call_isiK1 (K := K)) (by rfl) T.f_isinstance (by decide +kernel) (pa_cons (pv 2) (pa_cons (C8.pe_gc rfl T.c_Key) pa_nil)))) (pss_cons (ps_set (i := 3) sc_Ask_asked.nd rfl (Or.inr rfl) (pe_callTy (call_tupK (K := K)) (by rfl) T.f_tuple (by decide +kernel) (pa_cons (pe_lc (own := [("name", 8)]) rfl sc_Ask_asked.nd (pi_tup (pe_pp p_Knames hr (by omega) (pv 2))) (blkOk_by (own := [("name", 8)]) (N := ["self", "place", "rule", "marks", "found", "reads", "form", "number", "name", "row"]) (sc := defScope s_Ask_asked) (by decide +kernel)) (fun _ _ _ _ _ => (pg_name (i := 8) sc_Ask_asked.nd (by rfl) (.inl (by rfl)) (by first | exact .inl rfl | exact .inr rfl))) (fun _ _ _ _ _ => pts_nil) (fun _ _ _ _ _ => (pe_tup (pa_cons (pv 8) (pa_cons (C8.pe_mt m_number_now hr (by omega) (pv 0) (pa_cons (pv 8) pa_nil)) pa_nil))))) pa_nil)))
    (pss_one (ps_setLc (i := 4) (own := [("row", 9)]) rfl sc_Ask_asked.nd rfl rfl (sw_true rfl rfl rfl (by decide +kernel)) (pi_list (pe_ix (ix_listK (K := K)) (pe_fldK (K := K) (pv 0)) (pv 1) (fun _ _ => rfl))) (blkOk_by (own := [("row", 9)]) (N := ["self", "place", "rule", "marks", "found", "reads", "form", "number", "name", "row"]) (sc := defScope s_Ask_asked) (by decide +kernel)) (fun _ _ _ _ _ => (pg_name (i := 9) sc_Ask_asked.nd (by rfl) (.inl (by rfl)) (by first | exact .inl rfl | exact .inr rfl))) (fun _ _ _ _ _ => (pts_one (pt_cmpR (op_eqDK (K := K) hr) (pe_ix (ix_tupK (K := K)) (pv 9) pe_int (fun _ _ => rfl)) (pv 3) (nomark _)))) (fun _ _ _ _ _ => (pv 9))))) (pss_one (ps_set (i := 4) sc_Ask_asked.nd rfl (Or.inl rfl) (pe_ifExp (pt_cmp (pc_notN (pv 2)) rfl) (C8.pe_mt m_first_that_fits hr (by omega) (pv 0) (pa_cons (pv 1) pa_nil)) (pe_lst pa_nil)))))
    (pss_cons (ps_if (pt_truth (pv 4) (by intro _; rfl)) (pss_cons (ps_expr (pe_bm PySem.F.plainAttrs_list PySem.F.slot_list_append PySem.F.type_list_append mt_append (pe_fldK (K := K) (pv 0)) (pa_cons (pe_tup (pa_cons (pv 1) (pa_cons pe_str (pa_cons (pe_ix (ix_tupK (K := K)) (pe_ix (ix_listK (K := K)) (pv 4) pe_int (fun _ _ => rfl)) pe_int (fun _ _ => rfl)) pa_nil)))) pa_nil)))
    (pss_one (ps_ret (pe_ix (ix_tupK (K := K)) (pe_ix (ix_listK (K := K)) (pv 4) pe_int (fun _ _ => rfl)) pe_int (fun _ _ => rfl))))) pss_nil)
    (pss_cons (ps_asg (pe_tup (pa_cons pe_dnewK (pa_cons (pe_fldK (K := K) (pe_ix (ix_tupK (K := K)) (pe_ix (ix_tupK (K := K)) (pe_pp p_Pplaces hr (by omega) (pe_fldK (K := K) (pv 0))) (pv 1) (fun _ _ => rfl)) pe_int (fun _ _ => rfl))) pa_nil))) (pg_tupK (K := K) (n := 2) (by rfl) (pgs_cons (pg_name (i := 5) sc_Ask_asked.nd (by rfl) (.inr (by rfl)) (by first | exact .inl rfl | exact .inr rfl)) (pgs_cons (pg_name (i := 6) sc_Ask_asked.nd (by rfl) (.inl (by rfl)) (by first | exact .inl rfl | exact .inr rfl)) pgs_nil))))
    (pss_cons (ps_set (i := 7) sc_Ask_asked.nd rfl (Or.inl rfl) (pe_callL (kc := kA + 2) (N := ["name", "reads", "self"]) (ixs := [5, 0]) c_reckoned hr (by omega) (by rfl) (lamOk_by (show lamOkB (defScope s_Ask_asked) ["self", "place", "rule", "marks", "found", "reads", "form", "number", "name", "row"] ["name", "reads", "self"] [5, 0] "name" _ = true by decide +kernel)) rfl (fun _ _ _ _ _ => rfl) (fun f c cl A outer s H E hr => (C8.pe_mt m_read hr (by omega) (pv 2) (pa_cons (pv 1) (pa_cons (pv 0) pa_nil)))) (pal_cons (pv 6) (pal_cons (pe_pp p_Pbase hr (by omega) (pe_fldK (K := K) (pv 0))) (pal_lam (ixs := [5, 0]) (lamOk_by (show lamOkB (defScope s_Ask_asked) ["self", "place", "rule", "marks", "found", "reads", "form", "number", "name", "row"] ["name", "reads", "self"] [5, 0] "name" _ = true by decide +kernel)) TB hcode hT hu rfl)))))
    (C8.pss_cut (ps_if (pt_cmpR (op_eqOwn c_keq hr (by omega)) (pv 2) pe_str (nomark _)) (pss_one (ps_set (i := 3) sc_Ask_asked.nd rfl (Or.inr rfl) (pe_callTy (call_tupK (K := K)) (by rfl) T.f_tuple (by decide +kernel) (pa_cons (LiI.pe_listItems rfl (pv 5) (by rfl) T.f_list (by decide +kernel)) pa_nil)))) (pss_one (ps_if (pt_cmpR (op_eqOwn c_keq hr (by omega)) (pv 2) pe_str (nomark _)) (pss_one (ps_set (i := 3) sc_Ask_asked.nd rfl (Or.inr rfl) (pe_callTy (call_tupK (K := K)) (by rfl) T.f_tuple (by decide +kernel) (pa_cons (pe_lock (pe_lc (own := [("name", 8)]) rfl sc_Ask_asked.nd (pi_keys (pv 5)) (blkOk_by (own := [("name", 8)]) (N := ["self", "place", "rule", "marks", "found", "reads", "form", "number", "name", "row"]) (sc := defScope s_Ask_asked) (by decide +kernel)) (fun _ _ _ _ _ => (pg_name (i := 8) sc_Ask_asked.nd (by rfl) (.inl (by rfl)) (by first | exact .inl rfl | exact .inr rfl))) (fun _ _ _ _ _ => (pts_one (pt_cmpR op_ne (pe_ix ix_str (pv 8) pe_int (fun _ _ => rfl)) pe_str (nomark _)))) (fun _ _ _ _ _ => (pe_tup (pa_cons (pv 8) (pa_cons (pe_dget (hu_of hr) (pv 5) (pv 8) (fun _ _ => rfl)) pa_nil)))))) pa_nil)))) pss_nil)))
    (pss_cons (ps_if (pt_cmp (pc_notN (pv 3)) rfl) (pss_one (ps_expr (pe_bm PySem.F.plainAttrs_list PySem.F.slot_list_append PySem.F.type_list_append mt_append (pe_ix (ix_listK (K := K)) (pe_fldK (K := K) (pv 0)) (pv 1) (fun _ _ => rfl)) (pa_cons (pe_tup (pa_cons (pv 3) (pa_cons (pv 7) pa_nil))) pa_nil)))) pss_nil)
    (pss_cons (ps_expr (pe_bm PySem.F.plainAttrs_list PySem.F.slot_list_append PySem.F.type_list_append mt_append (pe_fldK (K := K) (pv 0)) (pa_cons (pe_tup (pa_cons (pv 1) (pa_cons pe_str (pa_cons (pv 7) pa_nil)))) pa_nil)))
    (pss_one (ps_ret (pv 7)))))))))))), ?_⟩)
  · obtain ⟨pl, fs, cells, A, b1, k, _, _, rfl, _⟩ := h
    rfl
  · rintro vs Q ⟨pl, fs, cells, A, b1, k, C, hi, rfl, I, tb, q⟩
    have b2 := C.ok.b2
    have hx : pl.pls[i]? = some pl.pls[i] := List.getElem?_eq_getElem hi
    have po := C.ok.pl i _ hx
    obtain ⟨x, hxe⟩ : ∃ x, x = pl.pls[i] := ⟨_, rfl⟩
    rw [← hxe] at hx po
    have hil : i < A.ls.length := by rw [C.ln]; exact hi
    have hl : A.ls[i]? = some A.ls[i] := List.getElem?_eq_getElem hil
    have R : RepE K a.FC H ([some (.at (.ref A.p)), some (di (i : Int)), none, none, none, none, none, none, none, none]) (start ["self", "place", "rule", "marks", "found", "reads", "form", "number", "name", "row"] [.ref A.p, .int (i : Int)]) := RepE.start (N := ["self", "place", "rule", "marks", "found", "reads", "form", "number", "name", "row"]) (ds := [.at (.ref A.p), di (i : Int)]) (.cons (.at _) (.cons (.at _) .nil))
    refine st_setS R (ev_ixT (ev_ixT (ev_prop (ev_owner T I R rfl) ⟨pl, rfl, rfl⟩) (ev_var R rfl) (place_at hx)) ev_c rfl) fun v1 H1 e1 r1 R1 => ?_
    refine st_setS R1 ev_c fun v2 H2 e2 r2 R2 => ?_
    have I2 := I.same (e1.trans e2)
    have t2 := tabs_same tb (e1.trans e2)
    have kp2 : KeepX A.L H H2 := KeepX.of (e1.trans e2)
    clear R R1 r1 r2
    have hb1 : 0 < i → b1 ≤ most := fun h => by
      obtain ⟨ts, us, _, _, _, h4⟩ := I.tr
      have e : i = 1 := by omega
      subst e
      unfold costA at h4
      omega
    -- what is found
    refine ⟨fun σ' H' => ∃ (mk : Option (List (Nm × Int))) (pf : Addr) (us : List V) (frs : List Row), RepE K a.FC H' [some (.at (.ref A.p)), some (di (i : Int)), some (x.2.d a.CK), some (mkD mk), some (.at (.ref pf)), none, none, none, none, none] σ' ∧ AskI K a pl fs cells A b1 (k + 18 * i + 2) H' ∧ KeepX A.L H H' ∧ Tabs TT H' ∧
      pf ∉ A.L ∧ H' pf = some (.lst us) ∧ Reps K a.FC H' (frs.map rowD) us ∧ (∀ r ∈ frs, RowOk pl i r) ∧ (∀ ms, mk = some ms → MarksOk pl i ms), ?_, ?_⟩
    · have nol2 : ∀ d, some d ∈ ([some (.at (.ref A.p)), some (di (i : Int)), some (x.2.d a.CK), some dn, none, none, none, none, none, none] : SD) → NoL d := fun d h => by
        simp at h
        rcases h with rfl | rfl | rfl | rfl
        · exact .at _
        · exact .at _
        · exact x.2.noL _
        · exact .at _
      have cA : k + costA i b1 = (k + 18 * i + 2) + i * (14 * b1) + 14 * i := by unfold costA; rw [Nat.mul_add]; omega
      rw [cA] at I2
      obtain ⟨σ2, hσ⟩ : ∃ σ2 : L2.St, σ2 = ((start ["self", "place", "rule", "marks", "found", "reads", "form", "number", "name", "row"] [.ref A.p, .int (i : Int)]).set 2 (some v1)).set 3 (some v2) := ⟨_, rfl⟩
      have g0 : σ2[0]? = some (some (.ref A.p)) := by rw [hσ]; rfl
      have g1 : σ2[1]? = some (some (.int (i : Int))) := by rw [hσ]; rfl
      rw [← hσ] at R2 ⊢
      clear hσ
      have first : ∀ (H3 : Hp), Same H2 H3 → ∀ Q' : VK, (∀ (pf : Addr) (us : List V) (frs : List Row) (H4 : Hp), pf ∉ A.L → H4 pf = some (.lst us) → Reps K a.FC H4 (frs.map rowD) us → (∀ r ∈ frs, RowOk pl i r) → AskR K a TT pl fs cells A b1 (k + 18 * i + 2) H3 H4 → Q' (.ref pf) H4) →
          tMeth a.CA "first_that_fits" (spFirst K a TT i) [] C8.E0 (tVar 0) (tCons (tVar 1) tNil) σ2 H3 Q' := fun H3 e3 Q' q' => by
        refine ⟨.ref A.p, g0, A.p, A.dx, _, rfl, (I2.same e3).ob, rfl, _, g1, pl, fs, cells, A, b1, k + 18 * i + 2, C, hi, rfl, AskI.down (14 * i) (I2.same e3), tabs_same t2 e3, fun p us H4 np hp hus r4 => ?_⟩
        rcases hus with rfl | ⟨r, v, rfl, rr, ro⟩
        · exact q' p [] [] H4 np hp .nil (fun r h => (nomatch h)) r4
        · exact q' p [v] [r] H4 np hp (.cons rr .nil) (fun r' h => by rw [List.mem_singleton.mp h]; exact ro) r4
      -- no key: what stands behind the found list
      have plain : ∀ {H3 H4 : Hp} {pf : Addr} {us : List V} {frs : List Row}, Same H2 H3 → (∀ l, x.2 ≠ .key l) → pf ∉ A.L → H4 pf = some (.lst us) → Reps K a.FC H4 (frs.map rowD) us → (∀ r ∈ frs, RowOk pl i r) → AskR K a TT pl fs cells A b1 (k + 18 * i + 2) H3 H4 → _ :=
        fun {H3 H4 pf us frs} e3 _ np hp rr hr r4 => (⟨none, pf, us, frs, ((R2.mono e3).frz (r4.kp.frz (I2.same e3).mut) nol2).set (i := 4) (d := .at (.ref pf)) (.at _), r4.st, (kp2.trans (KeepX.of e3)).trans r4.kp, r4.tb, np, hp, rr, hr, fun ms h => (nomatch h)⟩ :
          ∃ (mk : Option (List (Nm × Int))) (pf' : Addr) (us : List V) (frs : List Row), RepE K a.FC H4 [some (.at (.ref A.p)), some (di (i : Int)), some (x.2.d a.CK), some (mkD mk), some (.at (.ref pf')), none, none, none, none, none] (σ2.set 4 (some (.ref pf))) ∧ AskI K a pl fs cells A b1 (k + 18 * i + 2) H4 ∧ KeepX A.L H H4 ∧ Tabs TT H4 ∧
            pf' ∉ A.L ∧ H4 pf' = some (.lst us) ∧ Reps K a.FC H4 (frs.map rowD) us ∧ (∀ r ∈ frs, RowOk pl i r) ∧ (∀ ms, mk = some ms → MarksOk pl i ms))
      cases hrl : x.2 with
      | key l =>
        rw [hrl] at R2
        have hk : l.length ≤ 7 ∧ ∀ y ∈ l, y ∈ nmsFor pl.f pl.c i := by
          have := po.rl
          rw [hrl] at this
          exact this
        refine st_yes (et_B (ev_isi (ev_var R2 rfl) (.obj _ T.oK) ev_c (.own _) T.kKK)) fun H3 e3 => ?_
        have R3 := R2.mono e3
        have I3 := I2.same e3
        have nol3 : ∀ d, some d ∈ ([some (.at (.ref A.p)), some (di (i : Int)), some (keyD a.CK l), some dn, none, none, none, none, none, none] : SD) → NoL d := fun d h => nol2 d (by rw [hrl]; exact h)
        refine st_tupLc ?_
        refine el_lcJ (K := K) (FC := a.FC) (Pel := PelM) (ds := l.map nmD) (ρ1 := fun d => [some (.at (.ref A.p)), some (di (i : Int)), some (keyD a.CK l), some dn, none, none, none, none, some d, none]) R3 nol3 (ev_prop (ev_var R3 rfl) ⟨l, rfl, rfl⟩) (nms_noL _) (fun d _ => bind_name (n := 8) (List.mem_singleton.mpr rfl)) (by rw [List.length_map]; omega) pelM_noL fun H4 e4 => ?_
        have I4 := I3.same e4
        have t4 := tabs_same t2 (e3.trans e4)
        refine ⟨fun j H' => AskI K a pl fs cells A b1 (k + 18 * i + 2 + i * (14 * b1) + 2 * i * (7 - j)) H' ∧ KeepX A.L H4 H' ∧ Tabs TT H', ⟨?_, KeepX.refl, t4⟩, fun j H' h => h.2.1.frz I4.mut, fun j H' H'' h e => ⟨h.1.same e, h.2.1.trans (KeepX.of e), tabs_same h.2.2 e⟩, fun j H' D us us' hD hus h => ?_, fun j d σ' H' D us hd h R' hD hus Q' q' => ?_, fun p us es H' h hp hus hpair hrep => ?_⟩
        · have e : k + 18 * i + 2 + i * (14 * b1) + 14 * i = k + 18 * i + 2 + i * (14 * b1) + 2 * i * (7 - 0) := by omega
          rw [← e]
          exact I4
        · have nd := I4.fresh hD
          have kd : KeepX [D] H' (upd H' D (.lst us')) := KeepX.upd (by simp)
          have mu : MutO a.FC H' D := .inl ⟨_, hus⟩
          have np : D ≠ A.p := fun z => by rw [z, I4.ob] at hD; cases hD
          have na : D ≠ A.la := fun z => by rw [z, I4.he] at hD; cases hD
          refine ⟨h.1.off kd (Frz.upd_lst hus) fun y hy => by rw [List.mem_singleton.mp hy]; exact ⟨np, na, nd⟩, fun b o e n t => ?_, tabs_upd h.2.2 mu⟩
          have nb : b ≠ D := fun z => by rw [z, hD] at e; cases e
          rw [upd_ne nb]
          exact h.2.1 b o e n t
        · have hlt : j < l.length := by
            have := (List.getElem?_eq_some_iff.mp hd).1
            rwa [List.length_map] at this
          rw [List.getElem?_map, List.getElem?_eq_getElem hlt] at hd
          cases hd
          have s0 := R'.ref (i := 0) (v := .ref A.p) rfl
          have s8 := R'.ref (i := 8) (v := .str l[j].s) rfl
          refine ⟨_, s8, .ref A.p, s0, A.p, A.dx, _, rfl, h.1.ob, rfl, _, s8, pl, fs, cells, A, b1, k + 18 * i + 2 + i * (14 * b1) + 2 * i * (7 - (j + 1)), l[j], C, hk.2 _ (List.getElem_mem hlt), rfl, ?_, h.2.2, fun z H5 z0 z1 r5 => ⟨by show 2 ≤ sizeLine; decide, fun p hp => ?_⟩⟩
          · have e : k + 18 * i + 2 + i * (14 * b1) + 2 * i * (7 - j) = k + 18 * i + 2 + i * (14 * b1) + 2 * i * (7 - (j + 1)) + 2 * i := by
              have : 7 - j = (7 - (j + 1)) + 1 := by omega
              rw [this, Nat.mul_add]
              omega
            rw [← e]
            exact h.1
          · have nd := I4.fresh hD
            have e6 : Same H5 (upd H5 p (.tup [.str l[j].s, .int z])) := Same.new hp
            refine q' _ _ (e6 _ _ (r5.kp _ _ hus nd fun _ q => by cases q)) ⟨r5.st.same e6, (h.2.1.trans r5.kp).trans (KeepX.of e6), tabs_same r5.tb e6⟩ ((r5.kp.frz h.1.mut).trans (Same.frz e6)) (markD (l[j], z)) ⟨_, _, rfl, rfl⟩ (.tup (SqT.of upd_same) (.cons (.at _) (.cons (.at _) .nil)))
        · obtain ⟨ms, rfl, hms⟩ := pelM_marks hpair
          rw [List.length_map] at h
          refine ⟨p, us, rfl, .inl ⟨SqL.of hus, fun l1 hl1 => ?_⟩⟩
          have e6 : Same H' (upd H' l1 (.tup us)) := Same.new hl1
          have hmo : MarksOk pl i ms := ⟨fun m hm => hk.2 _ (by rw [← hms]; exact List.mem_map.mpr ⟨m, hm, rfl⟩), by have := congrArg List.length hms; rw [List.length_map] at this; omega⟩
          have I6 : AskI K a pl fs cells A b1 (k + 18 * i + 2) (upd H' l1 (.tup us)) := (AskI.down (i * (14 * b1)) (AskI.down _ h.1)).same e6
          have kp6 : KeepX A.L H4 (upd H' l1 (.tup us)) := h.2.1.trans (KeepX.of e6)
          have t6 := tabs_same h.2.2 e6
          have R6 : RepE K a.FC (upd H' l1 (.tup us)) [some (.at (.ref A.p)), some (di (i : Int)), some (keyD a.CK l), some (marksD ms), none, none, none, none, none, none] (σ2.set 3 (some (.ref l1))) := ((R3.mono e4).frz (kp6.frz I4.mut) nol3).set (i := 3) (.tup (SqT.of upd_same) (hrep.mono e6))
          obtain ⟨rs, us2, w1, w2, w3, w4, w5⟩ := I6.rows i _ hl
          have hrs : rs.length ≤ 1000000 := by
            by_cases z : i = 0
            · have := w4 z
              unfold most at this
              omega
            · have := w5 (by omega)
              have := hb1 (by omega)
              unfold most at this
              omega
          obtain ⟨pr, hel⟩ := el_rows (K := K) (FC := a.FC) (rs := rs) (ms := ms) (n := 9) (m := 3) (tl := tOp (rIxL K) (tFld K (tVar 0) "held") (tVar 1)) R6 (by show 9 < 10; decide) rfl (by decide) (fun H7 e7 Q7 q7 => (ev_held T (I6.same e7) (R6.mono e7) rfl (ev_var (R6.mono e7) rfl) hl) H7 (Same.refl _) Q7 fun v H8 e8 r8 => by
            cases r8.at_inv
            exact q7 _ H8 e8 (.lst (SqL.of ((e7.trans e8) _ _ w1)) (w2.mono (e7.trans e8)))) hrs
          refine hel.go fun pf usf H7 hpf e7 hl7 r7 => ?_
          exact ⟨some ms, pf, usf, rs.filter pr, (R6.mono e7).set (i := 4) (.at _), I6.same e7, (kp2.trans (KeepX.of (e3.trans e4))).trans (kp6.trans (KeepX.of e7)), tabs_same t6 e7, I6.fresh hpf, hl7, r7, fun r hr => w3 r ((List.mem_filter.mp hr).1), fun ms' h => by cases h; exact hmo⟩
      | none =>
        rw [hrl] at R2 plain
        refine st_no (et_B (ev_isi (ev_var R2 rfl) .non ev_c (.own _) T.kNK)) fun H3 e3 => ?_
        refine st_setIfN (et_B (ev_notN' (ev_var (n := 2) (R2.mono e3) rfl))) fun H4 e4 => ?_
        have e34 := e3.trans e4
        refine EvL.go (K := K) (FC := a.FC) (σ := σ2) (ds := []) (ev_lst ea_nil) fun pf us H5 hpf e5 hl5 r5 => ?_
        cases r5
        exact plain (e34.trans e5) (fun l h => (nomatch h)) ((I2.same e34).fresh hpf) hl5 (frs := []) .nil (fun r h => (nomatch h)) ⟨AskI.down (14 * i) (AskI.down (i * (14 * b1)) (by
          have e : k + 18 * i + 2 + 14 * i + i * (14 * b1) = k + 18 * i + 2 + i * (14 * b1) + 14 * i := by omega
          rw [e]
          exact I2.same (e34.trans e5))), KeepX.refl, tabs_same t2 (e34.trans e5)⟩
      | reads =>
        rw [hrl] at R2 plain
        refine st_no (et_B (ev_isi (ev_var R2 rfl) (.str _) ev_c (.own _) T.kSK)) fun H3 e3 => ?_
        refine st_setIfY (et_B (ev_notNS (x := "reads") (ev_var (n := 2) (R2.mono e3) rfl))) fun H4 e4 => ?_
        exact first H4 (e3.trans e4) _ fun pf us frs H5 np hp rr hr r4 => plain (e3.trans e4) (fun l h => (nomatch h)) np hp rr hr r4
      | shown =>
        rw [hrl] at R2 plain
        refine st_no (et_B (ev_isi (ev_var R2 rfl) (.str _) ev_c (.own _) T.kSK)) fun H3 e3 => ?_
        refine st_setIfY (et_B (ev_notNS (x := "shown") (ev_var (n := 2) (R2.mono e3) rfl))) fun H4 e4 => ?_
        exact first H4 (e3.trans e4) _ fun pf us frs H5 np hp rr hr r4 => plain (e3.trans e4) (fun l h => (nomatch h)) np hp rr hr r4
    · rintro σ3 H3 ⟨mk, pf, us, frs, R3, I3, kp3, t3, npf, hpf, rus, hfr, hmk⟩
      have nol3 : ∀ {o : Option D}, (∀ d, o = some d → NoL d) → ∀ d, some d ∈ ([some (.at (.ref A.p)), some (di (i : Int)), some (x.2.d a.CK), some (mkD mk), some (.at (.ref pf)), none, o, none, none, none] : SD) → NoL d := fun {o} ho d h => by
        simp at h
        rcases h with rfl | rfl | rfl | rfl | rfl | h
        · exact .at _
        · exact .at _
        · exact x.2.noL _
        · exact mkD_noL _
        · exact .at _
        · exact ho d h.symm
      have le2 : b1 ≤ (if i = 0 then b1 else b1 + 1) := by split <;> omega
      refine st_truLS (B := { nx := _, rt := Q }) (R3.ref (i := 4) rfl) hpf (fun hne => ?_) fun hnil => ?_
      · -- served
        obtain ⟨r, frs', v, us', rfl, rfl⟩ : ∃ r frs' v us', frs = r :: frs' ∧ us = v :: us' := by
          cases us with
          | nil => exact absurd rfl hne
          | cons v us' =>
            cases frs with
            | nil => have := rus.length; cases this
            | cons r frs' => exact ⟨r, frs', v, us', rfl, rfl⟩
        have hr1 := hfr r List.mem_cons_self
        have num : ∀ {H'}, Same H3 H' → EvD K a.FC (tOp (rIxT K) (tOp (rIxL K) (tVar 4) (tC (.int 0))) (tC (.int 1))) σ3 H' (di r.n) := fun e => ev_ixT (ev_ixL (ev_varL (R3.mono e) (n := 4) rfl (e _ _ hpf) (rus.mono e)) ev_c atI_zero) ev_c rfl
        obtain ⟨ts, tus, ht, rt, htr, htl⟩ := I3.tr
        refine st_seq (st_appendE (ev_trace T I3 R3 rfl) ht (small_most (by have := rt.length; omega)) (ev_tup (ea_cons (ev_var R3 rfl) (ea_cons ev_c (ea_cons (num (Same.refl _)) ea_nil))) (by show 3 ≤ sizeLine; decide)) fun v5 H5 e5 r5 ht5 => ?_)
        have I6 := AskI.addTr (k := k + 18 * i + 1) C (I3.same e5) ht5 r5 ⟨_, _, _, rfl⟩
        have mu : MutO a.FC H5 A.lt := .inl ⟨_, ht5⟩
        have kp6 : KeepX A.L H5 (upd H5 A.lt (.lst (tus ++ [v5]))) := KeepX.upd List.mem_cons_self
        have fz6 : Frz a.FC H5 (upd H5 A.lt (.lst (tus ++ [v5]))) := Frz.upd_lst ht5
        have hpf6 : upd H5 A.lt (.lst (tus ++ [v5])) pf = some (.lst (v :: us')) := kp6 _ _ (e5 _ _ hpf) npf fun _ q => by cases q
        have R6 := (R3.mono e5).frz fz6 (nol3 (o := none) fun d h => by cases h)
        refine (ev_ixT (ev_ixL (ev_varL R6 (n := 4) rfl hpf6 ((rus.mono e5).frz fz6 (rowsD_noL _))) ev_c atI_zero) ev_c rfl : EvD K a.FC _ σ3 _ (di r.n)).go fun v7 H7 e7 r7 => ?_
        cases r7.at_inv
        exact q r.n H7 hr1.n0 hr1.nb ⟨(AskI.down (18 * i + 1) I6).up le2 |>.same e7, ((kp3.trans (KeepX.of e5)).trans kp6).trans (KeepX.of e7), tabs_same (tabs_upd (tabs_same t3 e5) mu) e7⟩
      · -- run
        subst hnil
        refine st_asg ?_
        intro dr hdr
        have e4 : Same H3 (upd H3 dr (.dK [])) := Same.new hdr
        refine (ev_fld (ev_ixT (ev_ixT (ev_prop (ev_owner T (I3.same e4) (R3.mono e4) (n := 0) rfl) ⟨pl, rfl, rfl⟩) (ev_var (R3.mono e4) (n := 1) rfl) (place_at hx)) (ev_c (v := .int 0)) rfl) T.oR.cl T.nRform rfl : EvD K a.FC _ σ3 _ x.1.d).go fun vf H5 e5 rf => ⟨by show 2 ≤ sizeLine; decide, fun pt hpt => ⟨pt, _, rfl, SqT.of upd_same, rfl, _, _, rfl, _, _, rfl, rfl, ?_⟩⟩
        have e5' : Same H5 (upd H5 pt (.tup [.ref dr, vf])) := Same.new hpt
        have e6 := (e4.trans e5).trans e5'
        obtain ⟨H6, hH6⟩ : ∃ H6, H6 = upd H5 pt (.tup [.ref dr, vf]) := ⟨_, rfl⟩
        rw [← hH6] at e5' e6 ⊢
        have hdr6 : H6 dr = some (.dK (kvOf [])) := (e5.trans e5') _ _ upd_same
        have rf6 := rf.mono e5'
        have I6 := I3.same e6
        have t6 := tabs_same t3 e6
        have kp6 := kp3.trans (KeepX.of e6)
        have R6 := ((R3.mono e6).set (i := 5) (d := .at (.ref dr)) (.at _)).set (i := 6) rf6
        obtain ⟨σ6, hσ⟩ : ∃ σ6 : L2.St, σ6 = (σ3.set 5 (some (.ref dr))).set 6 (some vf) := ⟨_, rfl⟩
        rw [← hσ] at R6 ⊢
        clear hσ hH6 R3 hpf rus
        refine st_callL2 (K := K) (FC := a.FC) (d1 := x.1.d) (d2 := di (pl.b : Int)) (ev_var R6 rfl) (ev_prop (ev_owner T I6 R6 rfl) ⟨pl, rfl, rfl⟩) x.1.noL (.at _) t6 fun v61 v62 H9 ff cc kp9 rf9 rb9 t9 hcc => ⟨[.ref dr, .ref A.p], ⟨rfl, fun i' j v h1 h2 => ?_⟩, fun cs un ft F' => ?_⟩
        · match i', h1, h2 with
          | 0, h1, h2 => cases h1; cases h2; exact R6.ref (i := 5) rfl
          | 1, h1, h2 => cases h1; cases h2; exact R6.ref (i := 0) rfl
        · have z9 : Frz a.FC H6 H9 := kp9.frz fun _ h => (nomatch h)
          have I9 := I6.off (M := []) kp9 z9 fun _ h => (nomatch h)
          have hdr9 : H9 dr = some (.dK (kvOf [])) := kp9 _ _ hdr6 (fun h => nomatch h) fun _ q => by cases q
          have nol6 := nol3 (o := some (.at (.ref dr))) fun d h => by cases h; exact .at _
          cases rb9.at_inv
          have AP := ask_askP (k := k + 2) C un ft I9 hdr9 F'
          have L9 := po.len
          refine ⟨x.1, pl.b, ff, v61, nmsFor pl.f pl.c i, _, 0, _, rfl, rf9.mono (same_with un), po.dep, by omega, by have := C.ok.b3; omega, ⟨po.ok, po.bel, po.nms⟩, AP, ⟨told_with, with_some un hcc, by rw [less_with un]; exact t9, by rw [less_with un]; exact KeepX.refl, [], ⟨fun e h => (nomatch h), List.nodup_nil, fun e h => (nomatch h)⟩, by rw [less_with un]; exact hdr9, ?_⟩, fun z H10 z0 z1 hQ told => ?_⟩
          · rw [less_with un]
            refine AskI.down (2 * i * (9 - x.1.lvs.length)) ?_
            have h9 : 2 * i * x.1.lvs.length + 2 * i * (9 - x.1.lvs.length) = 18 * i := by
              rw [← Nat.mul_add]
              have : x.1.lvs.length + (9 - x.1.lvs.length) = 9 := by omega
              rw [this]
              omega
            have e : k + 18 * i + 2 = k + 2 + 2 * i * (0 + x.1.lvs.length) + 2 * i * (9 - x.1.lvs.length) := by
              rw [Nat.zero_add]
              omega
            rw [← e]
            exact I9
          · obtain ⟨_, _, t10, kp10, es, eo, hd10, I10⟩ := hQ
            have mut9 : ∀ y ∈ dr :: A.L, MutO a.FC H9 y := fun y hy => by
              rcases List.mem_cons.mp hy with rfl | hy
              · exact .inr (.inl ⟨_, hdr9⟩)
              · exact I9.mut y hy
            have z10 : Frz a.FC H9 (lessC cs H10) := kp10.frz mut9
            obtain ⟨HA, hHA⟩ : ∃ HA, HA = lessC cs H10 := ⟨_, rfl⟩
            rw [← hHA] at t10 kp10 hd10 I10 z10 ⊢
            have RA : RepE K a.FC HA [some (.at (.ref A.p)), some (di (i : Int)), some (x.2.d a.CK), some (mkD mk), none, some (.at (.ref dr)), none, some (di z), none, none] (σ6.set 7 (some (.int z))) := (((R6.frz (z9.trans z10) fun d h => by
              have h : some d ∈ ([some (.at (.ref A.p)), some (di (i : Int)), some (x.2.d a.CK), some (mkD mk), some (.at (.ref pf)), some (.at (.ref dr)), some x.1.d, none, none, none] : SD) := h
              simp at h
              rcases h with rfl | rfl | rfl | rfl | rfl | rfl | rfl
              · exact .at _
              · exact .at _
              · exact x.2.noL _
              · exact mkD_noL _
              · exact .at _
              · exact .at _
              · exact x.1.noL).drop0 4).drop0 6).set (i := 7) (.at _)
            have kpA : KeepX A.L H HA := fun b o e n t => by
              have e3 := kp3 b o e n t
              have nb : b ≠ dr := fun z => by rw [z, hdr] at e3; cases e3
              exact kp10 b o (kp9 b o (kp6 b o e n t) (fun h => nomatch h) t) (by simp [nb]; exact ⟨fun z => n (by rw [z]; exact List.mem_cons_self), fun z => n (List.mem_cons_of_mem _ z)⟩) t
            obtain ⟨σA, hσA⟩ : ∃ σA : L2.St, σA = σ6.set 7 (some (.int z)) := ⟨_, rfl⟩
            rw [← hσA] at RA ⊢
            clear hσA
            rw [show k + 2 + 2 * i * 0 = k + 2 by omega] at I10
            refine ⟨fun σ' H' => ∃ mk' : Option (List (Nm × Int)), RepE K a.FC H' [some (.at (.ref A.p)), some (di (i : Int)), some (x.2.d a.CK), some (mkD mk'), none, some (.at (.ref dr)), none, some (di z), none, none] σ' ∧ AskI K a pl fs cells A b1 (k + 2) H' ∧ KeepX A.L H H' ∧ Tabs TT H' ∧ (∀ ms, mk' = some ms → MarksOk pl i ms), ?_, ?_⟩
            · have fin : ∀ {H1 : Hp} {mk' : Option (List (Nm × Int))} {v : V}, Same HA H1 → Rep K a.FC H1 (mkD mk') v → (∀ ms, mk' = some ms → MarksOk pl i ms) → _ := fun {H1 mk' v} e1 r1 hm =>
                (⟨mk', (RA.mono e1).set (i := 3) r1, I10.same e1, kpA.trans (KeepX.of e1), tabs_same t10 e1, hm⟩ : ∃ mk' : Option (List (Nm × Int)), RepE K a.FC H1 [some (.at (.ref A.p)), some (di (i : Int)), some (x.2.d a.CK), some (mkD mk'), none, some (.at (.ref dr)), none, some (di z), none, none] (σA.set 3 (some v)) ∧ AskI K a pl fs cells A b1 (k + 2) H1 ∧ KeepX A.L H H1 ∧ Tabs TT H1 ∧ (∀ ms, mk' = some ms → MarksOk pl i ms))
              have stay : ∀ {H1 : Hp}, Same HA H1 → ∃ mk' : Option (List (Nm × Int)), RepE K a.FC H1 [some (.at (.ref A.p)), some (di (i : Int)), some (x.2.d a.CK), some (mkD mk'), none, some (.at (.ref dr)), none, some (di z), none, none] σA ∧ AskI K a pl fs cells A b1 (k + 2) H1 ∧ KeepX A.L H H1 ∧ Tabs TT H1 ∧ (∀ ms, mk' = some ms → MarksOk pl i ms) :=
                fun {H1} e1 => ⟨mk, RA.mono e1, I10.same e1, kpA.trans (KeepX.of e1), tabs_same t10 e1, hmk⟩
              have t1 := et_rule (wd := "reads") (ev_var RA (n := 2) rfl)
              have t2' : ∀ {H1}, Same HA H1 → EvT _ σA H1 (x.2.is "shown") := fun e1 => et_rule (wd := "shown") (ev_var (RA.mono e1) (n := 2) rfl)
              obtain ⟨rl, hrl⟩ : ∃ rl, rl = x.2 := ⟨_, rfl⟩
              cases rl with
              | reads =>
                refine st_yes (t1.to (by rw [← hrl]; decide +kernel)) fun H1 e1 => ?_
                refine st_set (RA.mono e1) (ev_tupL (el_items (RA.mono e1) (n := 5) rfl (e1 _ _ hd10))) fun v H2 e2 r2 _ => ?_
                exact fin (mk' := some es) (e1.trans e2) r2 fun ms h => by cases h; exact ⟨eo.nm, eo.len⟩
              | shown =>
                refine st_no (t1.to (by rw [← hrl]; decide +kernel)) fun H1 e1 => ?_
                refine st_yes ((t2' e1).to (by rw [← hrl]; decide +kernel)) fun H2 e2 => ?_
                have R2' := RA.mono (e1.trans e2)
                obtain ⟨pr, hel⟩ := el_shown (K := K) R2' (n := 5) (m := 8) rfl ((e1.trans e2) _ _ hd10) eo.nd eo.len (by show 8 < 10; decide) (by decide)
                refine st_set R2' (ev_tupL hel) fun v H3 e3 r3 _ => ?_
                exact fin (mk' := some (es.filter pr)) ((e1.trans e2).trans e3) r3 fun ms h => by cases h; exact ⟨fun m hm => eo.nm m (List.mem_filter.mp hm).1, Nat.le_trans (List.length_filter_le _ _) eo.len⟩
              | none =>
                refine st_no (t1.to (by rw [← hrl]; rfl)) fun H1 e1 => ?_
                exact st_skip ((t2' e1).to (by rw [← hrl]; rfl)) fun H2 e2 => stay (e1.trans e2)
              | key l =>
                refine st_no (t1.to (by rw [← hrl]; rfl)) fun H1 e1 => ?_
                exact st_skip ((t2' e1).to (by rw [← hrl]; rfl)) fun H2 e2 => stay (e1.trans e2)
            · rintro σB HB ⟨mk', RB, IB, kpB, tB', hmB⟩
              -- the end: the row, what happened, the number
              have fin : ∀ {H1 : Hp} {b2 : Nat}, b2 ≤ (if i = 0 then b1 else b1 + 1) → AskI K a pl fs cells A b2 (k + 1) H1 → KeepX A.L H H1 → Tabs TT H1 → RepE K a.FC H1 [some (.at (.ref A.p)), some (di (i : Int)), some (x.2.d a.CK), some (mkD mk'), none, some (.at (.ref dr)), none, some (di z), none, none] σB →
                  tSeq (tDrop (tBM K "list" rAppend (tFld K (tVar 0) "trace") (tCons (tTup (tCons (tVar 1) (tCons (tC (.str "run")) (tCons (tVar 7) tNil)))) tNil))) (tRet (tVar 7)) { nx := fun _ H' => Q .non H', rt := Q } σB H1 := fun {H1 b2} hb IF kF tF RF => by
                obtain ⟨ts, tus, ht, rt, htr, htl⟩ := IF.tr
                refine st_seq (st_appendE (ev_trace T IF RF rfl) ht (small_most (by have := rt.length; omega)) (ev_tup (ea_cons (ev_var RF rfl) (ea_cons ev_c (ea_cons (ev_var RF rfl) ea_nil))) (by show 3 ≤ sizeLine; decide)) fun v5 H5 e5 r5 ht5 => ?_)
                have I6 := AskI.addTr (k := k) C (IF.same e5) ht5 r5 ⟨_, _, _, rfl⟩
                have mu : MutO a.FC H5 A.lt := .inl ⟨_, ht5⟩
                have kp6' : KeepX A.L H5 (upd H5 A.lt (.lst (tus ++ [v5]))) := KeepX.upd List.mem_cons_self
                obtain ⟨_, h7, _⟩ := RF.get 7 (di z) rfl
                exact ⟨.int z, RF.ref (i := 7) rfl, q z _ z0 z1 ⟨I6.up hb, (kF.trans (KeepX.of e5)).trans kp6', tabs_upd (tabs_same tF e5) mu⟩⟩
              cases mk' with
              | none =>
                refine st_skipS (et_B (ev_notN' (ev_var RB (n := 3) rfl))) fun H1 e1 => ?_
                exact fin le2 (IB.less.same e1) (kpB.trans (KeepX.of e1)) (tabs_same tB' e1) (RB.mono e1)
              | some ms =>
                refine st_seq (st_yes (et_B (ev_tupNot (ev_var RB (n := 3) rfl))) fun H1 e1 => ?_)
                have RB1 := RB.mono e1
                have IB1 := IB.same e1
                obtain ⟨rs, us, w1, w2, w3, w4, w5⟩ := IB1.rows i _ hl
                have hlt : us.length < sizeLine := by
                  refine small_most ?_
                  have := w2.length
                  rw [List.length_map] at this
                  by_cases z : i = 0
                  · have := w4 z
                    omega
                  · have := w5 (by omega)
                    have := hb1 (by omega)
                    omega
                have hmo := hmB ms rfl
                refine st_appendE (ev_held T IB1 RB1 rfl (ev_var RB1 rfl) hl) w1 hlt (ev_tup (ea_cons (ev_var RB1 (n := 3) rfl) (ea_cons (ev_var RB1 (n := 7) rfl) ea_nil)) (by show 2 ≤ sizeLine; decide)) fun v5 H5 e5 r5 h5 => ?_
                have I6 := AskI.addRow (k := k + 1) (b2 := if i = 0 then b1 else b1 + 1) C (IB1.same e5) hl h5 (r := ⟨ms, z⟩) r5 ⟨hmo.nms, hmo.len, z0, z1⟩ le2 fun h => by rw [if_neg (by omega)]; exact Nat.le_refl _
                have mu : MutO a.FC H5 A.ls[i] := .inl ⟨_, h5⟩
                have lm : A.ls[i] ∈ A.L := List.mem_cons_of_mem _ (List.getElem_mem hil)
                have kp6' : KeepX A.L H5 (upd H5 A.ls[i] (.lst (us ++ [v5]))) := KeepX.upd lm
                refine fin (Nat.le_refl _) I6 (((kpB.trans (KeepX.of e1)).trans (KeepX.of e5)).trans kp6') (tabs_upd (tabs_same (tabs_same tB' e1) e5) mu) ((RB1.mono e5).frz (Frz.upd_lst h5) fun d h => ?_)
                simp at h
                rcases h with rfl | rfl | rfl | rfl | rfl | rfl
                · exact .at _
                · exact .at _
                · exact x.2.noL _
                · exact mkD_noL _
                · exact .at _
                · exact .at _
end
end T34

/-! K34l -/
set_option maxHeartbeats 4000000
namespace T34
open PySem PySem.Spec PyProof.Rows L2
/-- a comprehension whose element makes things: J by the turn, the heap, what was made -/
theorem el_lcA {K : PySem.W.Frag} {FC : Addr → Prop} {ρ : SD} {σ : L2.St} {H : Hp} {te tl : TE} {g : TG} {vs : List Nat} {ds : List D} {ρ1 : D → SD} {Q : VK} (R : RepE K FC H ρ σ) (nR : ∀ d, some d ∈ ρ → NoL d) (hi : EvD K FC tl σ H (.tup ds)) (hn : NoLs ds)
    (hb : ∀ d ∈ ds, Bind K FC g d vs (wipeD ρ vs) (ρ1 d)) (hl : ds.length ≤ 1000)
    (q : ∀ H2 DL, Same H H2 → H2 DL = none → ∃ J : Nat → Hp → List D → Prop, J 0 (upd H2 DL (.lst [])) [] ∧ (∀ i H' es, J i H' es → Frz FC H2 H' ∧ NoLs es ∧ es.length = i) ∧ (∀ i H' H'' es, J i H' es → Same H' H'' → J i H'' es) ∧ (∀ i H' es us us', H' DL = some (.lst us) → J i H' es → J i (upd H' DL (.lst us')) es) ∧
      (∀ i d σ' H' es us, ds[i]? = some d → J i H' es → RepE K FC H' (ρ1 d) σ' → H' DL = some (.lst us) → ∀ Q' : VK, (∀ y H4 e, H4 DL = some (.lst us) → J (i + 1) H4 (es ++ [e]) → Frz FC H' H4 → Rep K FC H4 e y → Q' y H4) → te σ' H' Q') ∧
      ∀ us es H', J ds.length H' es → H' DL = some (.lst us) → Reps K FC H' es us → Q (.ref DL) H') : tLc (iTup K tl) g tYes te vs σ H Q := by
  refine hi H (Same.refl H) _ fun v H2 e2 r => ?_
  obtain ⟨a, ws, rfl, hs, rr⟩ := r.tup_inv
  have lw := rr.length
  refine ⟨a, rfl, ⟨ws, hs⟩, fun D hD => ?_⟩
  obtain ⟨J, j0, jz, js, ju, jt, jd⟩ := q H2 D e2 hD
  refine lc_it walk_tup (fun i H' => ∃ acc es, J i H' es ∧ H' D = some (.lst acc) ∧ Reps K FC H' es acc) ⟨[], [], j0, upd_same, .nil⟩ (fun i H' _ ⟨_, es, h, _⟩ => (jz i H' es h).1.sqt hs) ?_ ?_
  · rintro i x H3 H4 hlt ⟨acc, es, hJ, hacc, hrep⟩ y
    obtain ⟨rfl, y⟩ := y
    obtain ⟨d, hd, rd⟩ := rr.get' y
    have hm : d ∈ ds := List.mem_of_getElem? hd
    have z3 := (jz i _ es hJ).1
    refine hb d hm _ _ x (((R.mono e2).frz z3 nR).wipe vs) (rd.frz z3 (hn.mem hm)) _ fun σ' H5 e5 R5 hw => ⟨hw.trans (wipe_idem σ vs), ?_⟩
    refine jt i d σ' H5 es acc hd (js _ _ _ _ hJ e5) R5 (e5 _ _ hacc) _ fun y' H6 e k1 k2 k3 k5 => ?_
    have le : es.length ≤ 1000 := by
      rw [(jz i _ es hJ).2.2]
      omega
    refine ⟨acc, k1, small1000 (by rw [hrep.length]; exact le), acc ++ [y'], es ++ [e], ju _ _ _ acc _ k1 k2, upd_same, ?_⟩
    have z6 : Frz FC H6 (upd H6 D (.lst (acc ++ [y']))) := Frz.upd_lst k1
    have n6 := (jz _ _ _ k2).2.1
    exact (((hrep.mono e5).frz k3 (jz i _ es hJ).2.1).append (.cons k5 .nil)).frz z6 n6
  · rintro H3 ⟨acc, es, hJ, hacc, hrep⟩
    rw [lw] at hJ
    exact jd acc es H3 hJ hacc hrep
theorem st_fldS {K : PySem.W.Frag} {FC : Addr → Prop} {σ : L2.St} {H : Hp} {te : TE} {d : D} {B : Ends} {f : Str} {n : Nat} {p C dx : Addr} {gs : List (Str × V)} {t2 : TS} (hs : σ[n]? = some (some (.ref p))) (hp : H p = some (.ins C dx gs)) (hc : Cls K C) (hn : NoAttr K C f) (hl : gs.length < 1000) (h : EvD K FC te σ H d)
    (q : ∀ v H', Same H H' → Rep K FC H' d v → H' p = some (.ins C dx gs) → t2 B σ (upd H' p (.ins C dx (putF f v gs)))) : tSeq (sFld K (tVar n) te f) t2 B σ H := st_fld (B := { B with nx := t2 B }) hs hp hc hn hl h q
theorem st_fldS' {K : PySem.W.Frag} {σ : L2.St} {H : Hp} {tv : TE} {B : Ends} {f : Str} {n : Nat} {t2 : TS} (h : tv σ H fun y H1 => tVar n σ H1 fun x H2 => ∃ a C dx fs, x = .ref a ∧ H2 a = some (.ins C dx fs) ∧ Cls K C ∧ NoAttr K C f ∧ fs.length < 1000 ∧ t2 B σ (upd H2 a (.ins C dx (putF f y fs)))) : tSeq (sFld K (tVar n) tv f) t2 B σ H := h
/-! ### stocks -/
structure Sto where
  cells : List Nat
  kept : List (List Row)
abbrev Sto.d (s : Sto) : D := .tup [natsD s.cells, keptD s.kept]
structure StOk (pl : Pl) (n : Nat) (s : Sto) : Prop where
  cl : s.cells.length = pl.c
  cb : ∀ x ∈ s.cells, x < pl.b
  kl : s.kept.length = pl.pls.length
  ro : ∀ (i : Nat) (rs : List Row), s.kept[i]? = some rs → ∀ r ∈ rs, RowOk pl i r
  r0 : ∀ (i : Nat) (rs : List Row), s.kept[i]? = some rs → (i = 0 → rs.length ≤ 1500 * n) ∧ (0 < i → rs.length ≤ n)
theorem kept_noL (k : List (List Row)) : NoLs (k.map fun rs => .tup (rs.map rowD)) := .of fun d h => by
  obtain ⟨rs, _, rfl⟩ := List.mem_map.mp h
  exact .tup (rowsD_noL rs)
theorem Sto.noL (s : Sto) : NoL s.d := .tup (.cons (natsD_noL _) (.cons (.tup (kept_noL _)) .nil))
theorem st_pairS {K : PySem.W.Frag} {FC : Addr → Prop} {ρ : SD} {σ : L2.St} {H : Hp} {te : TE} {d e : D} {B : Ends} {n m : Nat} {t2 : TS} (R : RepE K FC H ρ σ) (h : EvD K FC te σ H (.tup [d, e])) (q : ∀ σ' H', Same H H' → RepE K FC H' ((ρ.set n (some d)).set m (some e)) σ' → t2 B σ' H') :
    tSeq (tAsg te (gTup K 2 (gCons (gName n) (gCons (gName m) gNil)))) t2 B σ H :=
  h H (Same.refl H) _ fun v H' e1 r => bind_pair (vs := [n, m]) (by simp) (by simp) σ H' v (R.mono e1) r _ fun σ' H'' e2 R' _ => q σ' H'' (e1.trans e2) R'
theorem pick_list {α β : Type} {P : Nat → α → β → Prop} : ∀ {ls : List α} (m : Nat), (∀ (i : Nat) (l : α), ls[i]? = some l → ∃ r, P (m + i) l r) → ∃ zs : List (α × β), zs.map (·.1) = ls ∧ ∀ (i : Nat) (z : α × β), zs[i]? = some z → P (m + i) z.1 z.2
  | [], m, _ => ⟨[], rfl, fun i z h => by rw [List.getElem?_nil] at h; cases h⟩
  | l :: ls, m, h => by
    obtain ⟨r, hr⟩ := h 0 l rfl
    obtain ⟨zs, h1, h2⟩ := pick_list (m + 1) (ls := ls) fun i l' h' => by
      obtain ⟨r', hr'⟩ := h (i + 1) l' (by rw [List.getElem?_cons_succ]; exact h')
      exact ⟨r', by rw [show m + 1 + i = m + (i + 1) by omega]; exact hr'⟩
    refine ⟨(l, r) :: zs, by rw [List.map_cons, h1], fun i z hz => ?_⟩
    cases i with
    | zero => cases hz; exact hr
    | succ i =>
      rw [List.getElem?_cons_succ] at hz
      have := h2 i z hz
      rw [show m + 1 + i = m + (i + 1) by omega] at this
      exact this
theorem cutD_map {α β : Type} (f : α → β) (xs : List α) (lo hi : Option Int) : (cutD xs lo hi).map f = cutD (xs.map f) lo hi := cutV_map f xs lo hi
theorem cutD_mem {α : Type} {x : α} {xs : List α} {lo hi : Option Int} (h : x ∈ cutD xs lo hi) : x ∈ xs := List.mem_of_mem_drop (List.mem_of_mem_take h)
theorem flat_ints : ∀ l : List Nat, ((l.map fun (k : Nat) => V.int (k : Int))).all flatV = true
  | [] => rfl
  | _ :: l => flat_ints l
/-- a count among counts -/
theorem ev_inN {K : PySem.W.Frag} {FC : Addr → Prop} {σ : L2.St} {H : Hp} {ta tb : TE} {k : Nat} {l : List Nat} (ha : EvD K FC ta σ H (di (k : Int))) (hb : EvD K FC tb σ H (natsD l)) : EvD K FC (tOp (rIn K false) ta tb) σ H (db (inV (.int (k : Int)) (l.map fun (k : Nat) => V.int (k : Int)))) := fun H1 a Q q =>
  ha H1 a _ fun v H2 e2 r2 => hb H2 (a.trans e2) _ fun u H3 e3 r3 => by
    obtain ⟨p, vs, rfl, hs, rr⟩ := r3.tup_inv
    have e : (l.map fun (k : Nat) => di (k : Int)) = (l.map fun (k : Nat) => V.int (k : Int)).map D.at := by rw [List.map_map]; rfl
    rw [e] at rr
    cases rr.ats_inv
    cases r2.at_inv
    exact ⟨p, _, rfl, .inr hs, rfl, flat_ints l, q _ H3 (e2.trans e3) (.at _)⟩
theorem st_ret3 {σ : L2.St} {H : Hp} {te : TE} {v : V} {B : Ends} (h : te σ H fun v1 H1 => tLst tNil σ H1 fun v3 H2 => ([v1, v, v3] : List V).length ≤ sizeLine ∧ ∀ p, H2 p = none → B.rt (.ref p) (upd H2 p (.tup [v1, v, v3]))) : tRet (tTup (tCons te (tCons (tC v) (tCons (tLst tNil) tNil)))) B σ H := h
end T34

/-! Kd13 -/
set_option maxHeartbeats 4000000
namespace T34
open PySem PySem.Spec PyProof.Rows L2
local macro_rules | `(tactic| walk_at "ev") => `(tactic| (first
  | (with_reducible exact ev_c)
  | ((with_reducible refine' ev_var ?R ?h); (case R => assumption); (case h => rfl))
  | (with_reducible refine' ea_cons ?_ ?_)
  | (with_reducible exact ea_nil)
  | (with_reducible refine' ev_add ?_ ?_)
  | (with_reducible refine' ev_sub ?_ ?_)
  | (with_reducible refine' ev_mul ?_ ?_ ?_)
  | (with_reducible refine' ev_mod ?_ ?_ ?_)
  | (with_reducible refine' ev_div ?_ ?_ ?_)
  | (with_reducible refine' ev_lt ?_ ?_)
  | (with_reducible refine' ev_le ?_ ?_)
  | (with_reducible refine' ev_gt ?_ ?_)
  | (with_reducible refine' ev_ge ?_ ?_)
  | (with_reducible refine' ev_int ?_)
  | (with_reducible refine' ev_not ?_)
  | (with_reducible refine' ev_tup ?_)
  | (with_reducible refine' ev_between ?_ ?_ ?_)
  | (with_reducible refine' et_test ?_)
  | (with_reducible refine' et_B ?_)
  | (with_reducible refine' et_not ?_)))
section
variable {P : Program} {w : World} {K : PySem.W.Frag} {mg : Str → Option Value} {base : Heap} {a : Ad} {TT : List (Addr × Str)} {f : Addr} {fd : FuncData}
open LamX (Tabs)
abbrev s_Ask___init__ : Stmt := inClass (top 44) 0
theorem sc_Ask___init__ : FnScope ["self", "plan", "situation", "kept", "rows"] ["self", "plan", "situation", "kept"] (defScope s_Ask___init__) := ⟨rfl, rfl, rfl, by decide +kernel, rfl, by decide +kernel, by decide +kernel⟩
def spAinit (K : PySem.W.Frag) (a : Ad) : Sp := fun vs H Q _ => ∃ (p dx : Addr) (pl : Pl) (fs : List Nat) (st : Sto) (n : Nat) (vp vsit vk : V), vs = [.ref p, vp, vsit, vk] ∧ H p = some (.ins a.CA dx []) ∧ Rep K a.FC H (pl.d a) vp ∧ Rep K a.FC H (.tup [natsD fs, natsD st.cells]) vsit ∧ Rep K a.FC H (keptD st.kept) vk ∧
  pl.ok ∧ fs.length = pl.f ∧ (∀ x ∈ fs, x < pl.b) ∧ StOk pl n st ∧ n ≤ 24 ∧ ∀ (A : Asks) (k : Nat) H', A.p = p → AskC pl fs st.cells A → AskI K a pl fs st.cells A n k H' → 12000 ≤ k → k + (st.kept.getD 0 []).length = most → (∀ b o, H b = some o → b ≠ p → H' b = some o) → (∀ y ∈ A.L, H y = none) → Q .non H'
theorem ok_Ainit {dvs : List V} (F : FunD K "__init__" "Ask.__init__" (defArgs s_Ask___init__) (defBody s_Ask___init__) (defScope s_Ask___init__) dvs [] f fd) (T : Tx K w mg a) : FnOk P w K mg base CX0 1 f fd ["self", "plan", "situation", "kept"] (spAinit K a) := by
  refine fnG0 F sc_Ask___init__ (fun vs H Q E h => ?_) (fun cdv Ar outer s H E hr => ⟨_, (pss_cons (ps_fld (pv 0) (pv 1) rfl)
    (pss_cons (ps_fld (pv 0) (pv 2) rfl)
    (pss_cons (ps_fld (pv 0) (pe_lc (own := [("rows", 4)]) rfl sc_Ask___init__.nd (pi_tup (pv 3)) (blkOk_by (own := [("rows", 4)]) (N := ["self", "plan", "situation", "kept", "rows"]) (sc := defScope s_Ask___init__) (by decide +kernel)) (fun _ _ _ _ _ => (pg_name (i := 4) sc_Ask___init__.nd (by rfl) (.inl (by rfl)) (by first | exact .inl rfl | exact .inr rfl))) (fun _ _ _ _ _ => pts_nil) (fun _ _ _ _ _ => (pe_callTy (call_lstK (K := K)) (by rfl) T.f_list (by decide +kernel) (pa_cons (pv 4) pa_nil)))) rfl)
    (pss_one (ps_fld (pv 0) (pe_lst pa_nil) rfl))))), ?_⟩)
  · obtain ⟨p, dx, pl, fs, st, n, vp, vsit, vk, rfl, _⟩ := h
    rfl
  · rintro vs Q ⟨p, dx, pl, fs, st, n, vp, vsit, vk, rfl, hp, rp, rs, rk, ok, hfl, hfb, so, hn, q⟩
    have R : RepE K a.FC H [some (.at (.ref p)), some (pl.d a), some (.tup [natsD fs, natsD st.cells]), some (keptD st.kept), none] (start ["self", "plan", "situation", "kept", "rows"] [.ref p, vp, vsit, vk]) := RepE.start (N := ["self", "plan", "situation", "kept", "rows"]) (ds := [.at (.ref p), pl.d a, .tup [natsD fs, natsD st.cells], keptD st.kept]) (.cons (.at _) (.cons rp (.cons rs (.cons rk .nil))))
    have nol : ∀ d, some d ∈ ([some (.at (.ref p)), some (pl.d a), some (.tup [natsD fs, natsD st.cells]), some (keptD st.kept), none] : SD) → NoL d := fun d h => by
      simp at h
      rcases h with rfl | rfl | rfl | rfl
      · exact .at _
      · exact pl.noL a
      · exact sit_noL _ _
      · exact .tup (kept_noL _)
    obtain ⟨σ, hσ⟩ : ∃ σ : L2.St, σ = start ["self", "plan", "situation", "kept", "rows"] [.ref p, vp, vsit, vk] := ⟨_, rfl⟩
    rw [← hσ] at R ⊢
    have s0 : σ[0]? = some (some (.ref p)) := by rw [hσ]; rfl
    clear hσ
    refine st_fldS s0 hp T.oA.cl T.nAowner (by show 0 < 1000; decide) (ev_var R (n := 1) rfl) fun v1 H1 e1 r1 hp1 => ?_
    obtain ⟨H1', h1'⟩ : ∃ H1', H1' = upd H1 p (.ins a.CA dx [("owner", v1)]) := ⟨_, rfl⟩
    have z1 : Frz a.FC H1 H1' := by rw [h1']; exact Frz.upd_bare hp1
    have hq1 : H1' p = some (.ins a.CA dx [("owner", v1)]) := by rw [h1']; exact upd_same
    have k1 : ∀ b o, H b = some o → b ≠ p → H1' b = some o := fun b o e n => by rw [h1', upd_ne n]; exact e1 _ _ e
    have R1 := (R.mono e1).frz z1 nol
    have rv1 := r1.frz z1 (pl.noL a)
    show tSeq _ _ _ σ (upd H1 p (.ins a.CA dx [("owner", v1)]))
    rw [← h1']
    refine st_fldS s0 hq1 T.oA.cl T.nAsit (by show 1 < 1000; decide) (ev_var R1 (n := 2) rfl) fun v2 H2 e2 r2 hp2 => ?_
    obtain ⟨H2', h2'⟩ : ∃ H2', H2' = upd H2 p (.ins a.CA dx [("owner", v1), ("situation", v2)]) := ⟨_, rfl⟩
    have z2 : Frz a.FC H2 H2' := by rw [h2']; exact Frz.upd_ins hp2 T.nAF
    have hq2 : H2' p = some (.ins a.CA dx [("owner", v1), ("situation", v2)]) := by rw [h2']; exact upd_same
    have k2 : ∀ b o, H b = some o → b ≠ p → H2' b = some o := fun b o e n => by rw [h2', upd_ne n]; exact e2 _ _ (k1 b o e n)
    have R2 := (R1.mono e2).frz z2 nol
    have rv12 := (rv1.mono e2).frz z2 (pl.noL a)
    have rv2 := r2.frz z2 (sit_noL _ _)
    show tSeq _ _ _ σ (upd H2 p (.ins a.CA dx [("owner", v1), ("situation", v2)]))
    rw [← h2']
    refine st_fldS' ?_
    have hnk : st.kept.length = pl.pls.length := so.kl
    have n2 := ok.n2
    refine el_lcA (K := K) (FC := a.FC) (ds := st.kept.map fun rs => .tup (rs.map rowD)) (ρ1 := fun d => [some (.at (.ref p)), some (pl.d a), some (.tup [natsD fs, natsD st.cells]), some (keptD st.kept), some d]) R2 nol (ev_var R2 (n := 3) rfl) (kept_noL _) (fun d _ => bind_name (n := 4) (List.mem_singleton.mpr rfl)) (by rw [List.length_map]; omega) fun H3 DL e3 hDL => ?_
    refine ⟨fun i H' es => Same H3 H' ∧ ∃ ls : List Addr, es = ls.map (fun l => .at (.ref l)) ∧ ls.length = i ∧ ls.Nodup ∧ (∀ l ∈ ls, l ≠ DL ∧ H3 l = none ∧ H' l ≠ none) ∧ (∀ (j : Nat) (l : Addr), ls[j]? = some l → ∃ (rs : List Row) (us : List V), st.kept[j]? = some rs ∧ H' l = some (.lst us) ∧ Reps K a.FC H' (rs.map rowD) us), ⟨Same.new hDL, [], rfl, rfl, List.nodup_nil, fun l h => (nomatch h), fun j l h => by rw [List.getElem?_nil] at h; cases h⟩, ?_, ?_, ?_, ?_, ?_⟩
    · rintro i H' es ⟨e, ls, rfl, hl, _⟩
      exact ⟨Same.frz e, .of fun d hd => by obtain ⟨l, _, rfl⟩ := List.mem_map.mp hd; exact .at _, by rw [List.length_map]; exact hl⟩
    · rintro i H' H'' es ⟨e, ls, he, hl, nd, hf, hr⟩ e'
      refine ⟨e.trans e', ls, he, hl, nd, fun l hl => ⟨(hf l hl).1, (hf l hl).2.1, fun z => ?_⟩, fun j l hj => ?_⟩
      · obtain ⟨_, _, hn⟩ := hf l hl
        cases q : H' l with
        | none => exact hn q
        | some o => rw [e' _ _ q] at z; cases z
      · obtain ⟨rs, us, a1, a2, a3⟩ := hr j l hj
        exact ⟨rs, us, a1, e' _ _ a2, a3.mono e'⟩
    · rintro i H' es us us' hD ⟨e, ls, he, hl, nd, hf, hr⟩
      have zf : Frz a.FC H' (upd H' DL (.lst us')) := Frz.upd_lst hD
      refine ⟨Same.mut e hDL, ls, he, hl, nd, fun l hl => ⟨(hf l hl).1, (hf l hl).2.1, by rw [upd_ne (hf l hl).1]; exact (hf l hl).2.2⟩, fun j l hj => ?_⟩
      obtain ⟨rs, us2, a1, a2, a3⟩ := hr j l hj
      exact ⟨rs, us2, a1, by rw [upd_ne (hf l (List.mem_of_getElem? hj)).1]; exact a2, a3.frz zf (rowsD_noL _)⟩
    · rintro i d σ' H' es us hd ⟨e, ls, he, hl, nd, hf, hr⟩ R' hD Q' q'
      rw [List.getElem?_map] at hd
      obtain ⟨rs, hrs, rfl⟩ := Option.map_eq_some_iff.mp hd
      refine (el_lstT (ev_var R' (n := 4) rfl)).go fun l us4 H4 hl4 e4 hls r4 => ?_
      have nH3 : H3 l = none := fresh_back e hl4
      refine q' _ H4 (.at (.ref l)) (e4 _ _ hD) ⟨e.trans e4, ls ++ [l], by rw [List.map_append, he]; rfl, by rw [List.length_append, hl]; rfl, ?_, fun l' hl' => ?_, fun j l' hj => ?_⟩ (Same.frz e4) (.at _)
      · refine List.nodup_append.mpr ⟨nd, by simp, fun y hy z hz => ?_⟩
        have : z = l := by simpa using hz
        subst this
        exact fun q => (hf y hy).2.2 (by rw [q]; exact hl4)
      · rcases List.mem_append.mp hl' with h | h
        · refine ⟨(hf l' h).1, (hf l' h).2.1, fun z => ?_⟩
          cases q : H' l' with
          | none => exact (hf l' h).2.2 q
          | some o => rw [e4 _ _ q] at z; cases z
        · rw [List.mem_singleton.mp h]
          refine ⟨fun z => ?_, nH3, by rw [hls]; simp⟩
          rw [z, hD] at hl4
          cases hl4
      · by_cases hji : j < ls.length
        · rw [List.getElem?_append_left hji] at hj
          obtain ⟨rs', us', a1, a2, a3⟩ := hr j l' hj
          exact ⟨rs', us', a1, e4 _ _ a2, a3.mono e4⟩
        · rw [List.getElem?_append_right (by omega)] at hj
          have hj0 : j - ls.length = 0 := by
            have := (List.getElem?_eq_some_iff.mp hj).1
            simp at this
            omega
          rw [hj0] at hj
          cases hj
          exact ⟨rs, us4, by rw [show j = i by omega]; exact hrs, hls, r4⟩
    · rintro us es H4 ⟨e4, ls, rfl, hl, nd, hf, hr⟩ hD hrep
      rw [List.length_map] at hl
      have eus : us = ls.map V.ref := by
        have h : Reps K a.FC H4 ((ls.map V.ref).map D.at) us := by rw [List.map_map]; exact hrep
        exact h.ats_inv
      subst eus
      have e34 := e3.trans e4
      have hp4 := e34 _ _ hq2
      have pn : ∀ l ∈ ls, l ≠ p := fun l h z => by
        have := (hf l h).2.1
        rw [z, e3 _ _ hq2] at this
        cases this
      have dp : DL ≠ p := fun z => by rw [z, e3 _ _ hq2] at hDL; cases hDL
      refine ⟨_, s0, p, a.CA, dx, _, rfl, hp4, T.oA.cl, T.nAheld, by show 2 < 1000; decide, ?_⟩
      obtain ⟨H5, h5⟩ : ∃ H5, H5 = upd H4 p (.ins a.CA dx [("owner", v1), ("situation", v2), ("held", .ref DL)]) := ⟨_, rfl⟩
      have z5 : Frz a.FC H4 H5 := by rw [h5]; exact Frz.upd_ins hp4 T.nAF
      have hq5 : H5 p = some (.ins a.CA dx [("owner", v1), ("situation", v2), ("held", .ref DL)]) := by rw [h5]; exact upd_same
      have o5 : ∀ b, b ≠ p → H5 b = H4 b := fun b n => by rw [h5, upd_ne n]
      show sFld K (tVar 0) (tLst tNil) "trace" _ σ (upd H4 p (.ins a.CA dx [("owner", v1), ("situation", v2), ("held", .ref DL)]))
      rw [← h5]
      refine EvL.go (K := K) (FC := a.FC) (σ := σ) (ds := []) (ev_lst ea_nil) fun lt us6 H6 hlt e6 hl6 r6 => ?_
      cases r6
      have hq6 := e6 _ _ hq5
      have ltp : lt ≠ p := fun z => by rw [z, hq5] at hlt; cases hlt
      refine ⟨_, s0, p, a.CA, dx, _, rfl, hq6, T.oA.cl, T.nAtrace, by show 3 < 1000; decide, ?_⟩
      obtain ⟨H7, h7⟩ : ∃ H7, H7 = upd H6 p (.ins a.CA dx [("owner", v1), ("situation", v2), ("held", .ref DL), ("trace", .ref lt)]) := ⟨_, rfl⟩
      have z7 : Frz a.FC H6 H7 := by rw [h7]; exact Frz.upd_ins hq6 T.nAF
      have o7 : ∀ b, b ≠ p → H7 b = H6 b := fun b n => by rw [h7, upd_ne n]
      show Q .non (upd H6 p (.ins a.CA dx [("owner", v1), ("situation", v2), ("held", .ref DL), ("trace", .ref lt)]))
      rw [← h7]
      have fz : Frz a.FC H2' H7 := ((Same.frz e34).trans z5).trans ((Same.frz e6).trans z7)
      have up : ∀ {b o}, b ≠ p → H4 b = some o → H7 b = some o := fun {b o} n e => by
        rw [o7 b n]
        refine e6 _ _ ?_
        rw [o5 b n]
        exact e
      have ltls : ∀ l ∈ ls, l ≠ lt := fun l h z => by
        have := (hf l h).2.2
        rw [z] at this
        rw [o5 lt ltp] at hlt
        exact this hlt
      have dlt : DL ≠ lt := fun z => by
        rw [← z, o5 DL dp, hD] at hlt
        cases hlt
      have len0 : (st.kept.getD 0 []).length ≤ 1500 * n := by
        have n1 := ok.n1
        have hk0 : 0 < st.kept.length := by omega
        have hx : st.kept[0]? = some st.kept[0] := List.getElem?_eq_getElem hk0
        rw [List.getD_eq_getElem?_getD, hx]
        exact (so.r0 0 _ hx).1 rfl
      refine q ⟨p, dx, DL, lt, ls, v1, v2⟩ (most - (st.kept.getD 0 []).length) H7 rfl ⟨ok, hfl, hfb, so.cl, so.cb, by show ls.length = _; rw [hl]; exact hnk, nd, fun h => ltls _ h rfl, fun h => (hf _ h).1 rfl, dlt⟩ ⟨by rw [h7]; exact upd_same, rv12.frz fz (pl.noL a), rv2.frz fz (sit_noL _ _), up dp hD, fun i l hi => ?_, ⟨[], [], by rw [o7 lt ltp]; exact hl6, .nil, fun d h => (nomatch h), by simp⟩⟩ (by unfold most; omega) (by unfold most; omega) (fun b o e n => ?_) fun y hy => ?_
      · obtain ⟨rs, us', a1, a2, a3⟩ := hr i l hi
        have hro := so.ro i rs a1
        have hr0 := so.r0 i rs a1
        refine ⟨rs, us', up (pn l (List.mem_of_getElem? hi)) a2, a3.frz (z5.trans ((Same.frz e6).trans z7)) (rowsD_noL _), hro, fun h => ?_, hr0.2⟩
        have : st.kept.getD 0 [] = rs := by
          rw [h] at a1
          rw [List.getD_eq_getElem?_getD, a1]
          rfl
        rw [this] at len0 ⊢
        unfold most
        omega
      · exact up n (e34 _ _ (k2 b o e n))
      · have old : ∀ b, b ≠ p → H4 b = none → H b = none := fun b n z => by
          cases q : H b with
          | none => rfl
          | some o => rw [e34 _ _ (k2 b o q n)] at z; cases z
        have old3 : ∀ b, b ≠ p → H3 b = none → H b = none := fun b n z => by
          cases q : H b with
          | none => rfl
          | some o => rw [e3 _ _ (k2 b o q n)] at z; cases z
        rcases List.mem_cons.mp hy with rfl | hy
        · exact old _ ltp (by rw [← o5 _ ltp]; exact hlt)
        · exact old3 _ (pn _ hy) (hf _ hy).2.1
abbrev s_done : Stmt := top 45
theorem sc_done : FnScope ["plan", "stock", "deed", "cells", "kept", "ask", "number", "gone", "rows", "place"] ["plan", "stock", "deed"] (defScope s_done) := ⟨rfl, rfl, rfl, by decide +kernel, rfl, by decide +kernel, by decide +kernel⟩
def spDone (K : PySem.W.Frag) (a : Ad) (TT : List (Addr × Str)) : Sp := fun vs H Q _ => ∃ (pl : Pl) (st : Sto) (dd : Dd) (n : Nat) (vp vst vd : V), vs = [vp, vst, vd] ∧ Rep K a.FC H (pl.d a) vp ∧ Rep K a.FC H st.d vst ∧ Rep K a.FC H dd.d vd ∧ pl.ok ∧ dd.ok pl ∧ StOk pl n st ∧ n < 24 ∧ Tabs TT H ∧
  ∀ (v : V) (lt : Addr) (st' : Sto) (nd : D) (ts : List D) (us : List V) H', Rep K a.FC H' (.tup [st'.d, nd, .at (.ref lt)]) v → (nd = dn ∨ ∃ z, nd = di z) → H' lt = some (.lst us) → Reps K a.FC H' ts us → (∀ d ∈ ts, TrOk d) → ts.length ≤ most → StOk pl (n + 1) st' → KeepX [] H H' → Tabs TT H' → Q v H'
theorem ok_done {kA : Nat} (F : FnP K "done" "done" s_done f fd) (T : Tx K w mg a) (c_Ask : C8.Mak P w K mg base 1 "Ask" a.CA (spAinit K a) []) (m_asked : C8.Met P w K mg base kA a.CA "asked" (fun vs H Q E => ∃ i, i ≤ 1 ∧ spAsked K a TT i vs H Q E) []) (p_Pdrops : Prp P w K mg base 1 a.CP "drops" (spN K a.FC (rPdrops a))) (hk : 1 ≤ kA) :
    FnOk P w K mg base CX0 (kA + 2) f fd ["plan", "stock", "deed"] (spDone K a TT) := by
  refine fnG0 F sc_done (fun vs H Q E h => ?_) (fun cdv Ar outer s H E hr => ⟨_, (pss_cons (ps_asg (pv 1) (pg_tupK (K := K) (n := 2) (by rfl) (pgs_cons (pg_name (i := 3) sc_done.nd (by rfl) (.inl (by rfl)) (by first | exact .inl rfl | exact .inr rfl)) (pgs_cons (pg_name (i := 4) sc_done.nd (by rfl) (.inl (by rfl)) (by first | exact .inl rfl | exact .inr rfl)) pgs_nil))))
    (pss_cons (ps_if (pt_cmpR op_eq (pe_ix (ix_tupK (K := K)) (pv 2) pe_int (fun _ _ => rfl)) pe_str (nomark _)) (pss_cons (ps_set (i := 5) sc_done.nd rfl (Or.inl rfl) (C8.pe_mk c_Ask hr (by omega) (by rfl) (pa_cons (pv 0) (pa_cons (pe_tup (pa_cons (pe_ix (ix_tupK (K := K)) (pv 2) pe_int (fun _ _ => rfl)) (pa_cons (pv 3) pa_nil))) (pa_cons (pv 4) pa_nil)))))
    (pss_cons (ps_set (i := 6) sc_done.nd rfl (Or.inl rfl) (C8.pe_mt m_asked hr (by omega) (pv 5) (pa_cons (pe_ix (ix_tupK (K := K)) (pv 2) pe_int (fun _ _ => rfl)) pa_nil)))
    (pss_one (ps_ret (pe_tup (pa_cons (pe_tup (pa_cons (pv 3) (pa_cons (pe_callTy (call_tupK (K := K)) (by rfl) T.f_tuple (by decide +kernel) (pa_cons (pe_lc (own := [("rows", 8)]) rfl sc_done.nd (pi_list (pe_fldK (K := K) (pv 5))) (blkOk_by (own := [("rows", 8)]) (N := ["plan", "stock", "deed", "cells", "kept", "ask", "number", "gone", "rows", "place"]) (sc := defScope s_done) (by decide +kernel)) (fun _ _ _ _ _ => (pg_name (i := 8) sc_done.nd (by rfl) (.inl (by rfl)) (by first | exact .inl rfl | exact .inr rfl))) (fun _ _ _ _ _ => pts_nil) (fun _ _ _ _ _ => (pe_callTy (call_tupK (K := K)) (by rfl) T.f_tuple (by decide +kernel) (pa_cons (pv 8) pa_nil)))) pa_nil)) pa_nil))) (pa_cons (pv 6) (pa_cons (pe_fldK (K := K) (pv 5)) pa_nil)))))))) pss_nil)
    (C8.pss_cut (ps_if (pt_cmpR op_ne (pe_ix (ix_tupK (K := K)) (pv 3) (pe_ix (ix_tupK (K := K)) (pv 2) pe_int (fun _ _ => rfl)) (fun _ _ => rfl)) (pe_ix (ix_tupK (K := K)) (pv 2) pe_int (fun _ _ => rfl)) (nomark _)) (pss_cons (ps_set (i := 3) sc_done.nd rfl (Or.inl rfl) (pe_tup (StX.pa_star (pe_slice (sl_tupK (K := K)) (pv 3) po_none (po_some (pe_ix (ix_tupK (K := K)) (pv 2) pe_int (fun _ _ => rfl)))) (pa_cons (pe_ix (ix_tupK (K := K)) (pv 2) pe_int (fun _ _ => rfl)) (StX.pa_star (pe_slice (sl_tupK (K := K)) (pv 3) (po_some (pe_op op_add (pe_ix (ix_tupK (K := K)) (pv 2) pe_int (fun _ _ => rfl)) pe_int)) po_none) pa_nil)))))
    (pss_cons (ps_set (i := 7) sc_done.nd rfl (Or.inr rfl) (pe_ix (ix_tupK (K := K)) (pe_pp p_Pdrops hr (by omega) (pv 0)) (pe_ix (ix_tupK (K := K)) (pv 2) pe_int (fun _ _ => rfl)) (fun _ _ => rfl)))
    (pss_one (ps_set (i := 4) sc_done.nd rfl (Or.inl rfl) (pe_callTy (call_tupK (K := K)) (by rfl) T.f_tuple (by decide +kernel) (pa_cons (pe_lc (own := [("place", 9), ("rows", 8)]) rfl sc_done.nd (pi_enumT (K := K) (by rfl) T.f_enumerate (pa_cons (pv 4) pa_nil)) (blkOk_by (own := [("place", 9), ("rows", 8)]) (N := ["plan", "stock", "deed", "cells", "kept", "ask", "number", "gone", "rows", "place"]) (sc := defScope s_done) (by decide +kernel)) (fun _ _ _ _ _ => (pg_tupK (K := K) (n := 2) (by rfl) (pgs_cons (pg_name (i := 9) sc_done.nd (by rfl) (.inl (by rfl)) (by first | exact .inl rfl | exact .inr rfl)) (pgs_cons (pg_name (i := 8) sc_done.nd (by rfl) (.inl (by rfl)) (by first | exact .inl rfl | exact .inr rfl)) pgs_nil)))) (fun _ _ _ _ _ => pts_nil) (fun _ _ _ _ _ => (pe_ifExp (pt_cmpR (op_inQ (K := K)) (pv 9) (pv 7) (by rfl)) (pe_tup pa_nil) (pv 8)))) pa_nil)))))) pss_nil)
    (pss_one (ps_ret (pe_tup (pa_cons (pe_tup (pa_cons (pv 3) (pa_cons (pv 4) pa_nil))) (pa_cons pe_non (pa_cons (pe_lst pa_nil) pa_nil))))))))), ?_⟩)
  · obtain ⟨pl, st, dd, n, vp, vst, vd, rfl, _⟩ := h
    rfl
  · rintro vs Q ⟨pl, st, dd, n, vp, vst, vd, rfl, rp, rs, rd, ok, hdd, so, hn, tb, q⟩
    have R : RepE K a.FC H [some (pl.d a), some st.d, some dd.d, none, none, none, none, none, none, none] (start ["plan", "stock", "deed", "cells", "kept", "ask", "number", "gone", "rows", "place"] [vp, vst, vd]) := RepE.start (N := ["plan", "stock", "deed", "cells", "kept", "ask", "number", "gone", "rows", "place"]) (ds := [pl.d a, st.d, dd.d]) (.cons rp (.cons rs (.cons rd .nil)))
    refine st_pairS R (ev_var R rfl) fun σ1 H1 e1 R1 => ?_
    have n2 := ok.n2
    cases dd with
    | ask i fs =>
      obtain ⟨hi, hfl, hfb⟩ : i < pl.pls.length ∧ fs.length = pl.f ∧ ∀ x ∈ fs, x < pl.b := hdd
      refine st_seq (st_yes ((et_test (ev_eq (ev_ixT (ev_var R1 rfl) ev_c rfl) ev_c rfl)).to (by decide +kernel)) fun H2 e2 => ?_)
      have R2 := R1.mono e2
      refine st_asg ?_
      refine (ea_cons (ev_var R2 (n := 0) rfl) (ea_cons (ev_tup (ea_cons (ev_ixT (ev_var R2 (n := 2) rfl) (ev_c (v := .int 2)) rfl) (ea_cons (ev_var R2 (n := 3) rfl) ea_nil)) (by show 2 ≤ sizeLine; decide)) (ea_cons (ev_var R2 (n := 4) rfl) ea_nil)) : EvA K a.FC _ σ1 H2 [pl.d a, .tup [natsD fs, natsD st.cells], keptD st.kept]).go fun vs3 H3 e3 r3 x dx hx hdx ne => ?_
      obtain ⟨va, vb, vc, rfl, ra, rb, rc⟩ : ∃ va vb vc, vs3 = [va, vb, vc] ∧ Rep K a.FC H3 (pl.d a) va ∧ Rep K a.FC H3 (.tup [natsD fs, natsD st.cells]) vb ∧ Rep K a.FC H3 (keptD st.kept) vc := by
        cases r3 with
        | cons r1 rr =>
          cases rr with
          | cons r2 rr =>
            cases rr with
            | cons r3 rr => cases rr; exact ⟨_, _, _, rfl, r1, r2, r3⟩
      have sM : Same H3 (upd (upd H3 dx (.own x)) x (.ins a.CA dx [])) := (Same.new hdx).trans (Same.new (by rw [upd_ne (Ne.symm ne)]; exact hx))
      refine ⟨x, dx, pl, fs, st, n, va, vb, vc, rfl, upd_same, ra.mono sM, rb.mono sM, rc.mono sM, ok, hfl, hfb, so, by omega, fun A k H4 hA C I4 hk1 hk2 keep newL => ⟨rfl, ?_⟩⟩
      subst hA
      have e4 : Same H3 H4 := fun b o e => keep b o (sM b o e) (fun z => by rw [z, hx] at e; cases e)
      have e04 := ((e1.trans e2).trans e3).trans e4
      have R4 := (R2.mono (e3.trans e4)).set (i := 5) (d := .at (.ref A.p)) (v := .ref A.p) (.at _)
      have t4 := tabs_same tb e04
      refine st_asg ?_
      have hcost : costA i n ≤ 370 := by
        unfold costA
        have : i = 0 ∨ i = 1 := by omega
        rcases this with rfl | rfl <;> omega
      obtain ⟨k', hk'⟩ : ∃ k', k = k' + costA i n := ⟨k - costA i n, by omega⟩
      refine ⟨.ref A.p, R4.ref (i := 5) rfl, A.p, A.dx, _, rfl, I4.ob, rfl, (ea_cons (ev_ixT (ev_var R4 (n := 2) rfl) (ev_c (v := .int 1)) rfl) ea_nil : EvA K a.FC _ _ H4 [di (i : Int)]).go fun vs5 H5 e5 r5 => ?_⟩
      have ev5 : vs5 = [.int (i : Int)] := Reps.ats_inv (vs := [.int (i : Int)]) r5
      subst ev5
      refine ⟨i, by omega, pl, fs, st.cells, A, n, k', C, hi, rfl, by rw [← hk']; exact I4.same e5, tabs_same t4 e5, fun z H6 z0 z1 r6 => ?_⟩
      have z56 : Frz a.FC H5 H6 := r6.kp.frz (I4.same e5).mut
      have R6 : RepE K a.FC H6 [some (pl.d a), some st.d, some (Dd.d (.ask i fs)), some (natsD st.cells), some (keptD st.kept), some (.at (.ref A.p)), some (di z), none, none, none] _ := ((R4.mono e5).frz z56 fun d h => by
        have h : some d ∈ ([some (pl.d a), some st.d, some (Dd.d (.ask i fs)), some (natsD st.cells), some (keptD st.kept), some (.at (.ref A.p)), none, none, none, none] : SD) := h
        simp at h
        rcases h with rfl | rfl | rfl | rfl | rfl | rfl
        · exact pl.noL a
        · exact st.noL
        · exact Dd.noL _
        · exact natsD_noL _
        · exact .tup (kept_noL _)
        · exact .at _).set (i := 6) (d := di z) (v := .int z) (.at _)
      obtain ⟨b2, hb2⟩ : ∃ b2, b2 = (if i = 0 then n else n + 1) := ⟨_, rfl⟩
      have I6 := r6.st
      rw [← hb2] at I6
      have hb2' : b2 ≤ n + 1 := by rw [hb2]; split <;> omega
      obtain ⟨zs, hz1, hz2⟩ := pick_list (P := fun j l (rs : List Row) => ∃ us : List V, H6 l = some (.lst us) ∧ Reps K a.FC H6 (rs.map rowD) us ∧ (∀ r ∈ rs, RowOk pl j r) ∧ (j = 0 → rs.length + k' ≤ most) ∧ (0 < j → rs.length ≤ b2)) 0 (ls := A.ls) fun j l hj => by
        rw [Nat.zero_add]
        exact I6.rows j l hj
      have hz3 : ∀ (j : Nat) (y : Addr × List Row), zs[j]? = some y → ∃ us : List V, H6 y.1 = some (.lst us) ∧ Reps K a.FC H6 (y.2.map rowD) us ∧ (∀ r ∈ y.2, RowOk pl j r) ∧ (j = 0 → y.2.length + k' ≤ most) ∧ (0 < j → y.2.length ≤ b2) := fun j y hj => by
        have := hz2 j y hj
        rwa [Nat.zero_add] at this
      have hzl : zs.length = pl.pls.length := by rw [← C.ln, ← hz1, List.length_map]
      obtain ⟨σ6, hσ6⟩ : ∃ σ6 : L2.St, σ6 = (σ1.set 5 (some (.ref A.p))).set 6 (some (.int z)) := ⟨_, rfl⟩
      rw [← hσ6] at R6
      dsimp only [gName]
      rw [← hσ6]
      have held : EvD K a.FC (tFld K (tVar 5) "held") σ6 H6 (.lst (zs.map fun y => .at (.ref y.1))) := ev_fldM (ev_var R6 rfl) I6.ob T.oA.cl T.nAheld rfl (.lst (SqL.of I6.he) (by
        have := Reps.ats (K := K) (FC := a.FC) (H := H6) (A.ls.map V.ref)
        rw [List.map_map, ← hz1, List.map_map] at this
        rw [← hz1]
        exact this))
      have kept' : EvL K a.FC (tLc (iList K (tFld K (tVar 5) "held")) (gName 8) tYes (tCB (rTupL K) (tCons (tVar 8) tNil)) [8]) σ6 H6 (zs.map fun y => .tup (y.2.map rowD)) := by
        refine el_map (α := Addr × List Row) (xs := zs) (dof := fun y => .at (.ref y.1)) (f := fun y => .tup (y.2.map rowD)) R6 (evi_list held) (fun y _ => bind_name (List.mem_singleton.mpr rfl)) (fun y hy σ' H' e R' => ?_) (fun y _ => .tup (rowsD_noL _)) (by omega)
        obtain ⟨j, hj⟩ := List.getElem?_of_mem hy
        obtain ⟨us, a1, a2, _⟩ := hz3 j y hj
        exact ev_tupR (R'.ref (i := 8) rfl) (e _ _ a1) (a2.mono e)
      refine st_ret (ev_tup (ea_cons (ev_tup (ea_cons (ev_var R6 (n := 3) rfl) (ea_cons (ev_tupL kept') ea_nil)) (by show 2 ≤ sizeLine; decide)) (ea_cons (ev_var R6 (n := 6) rfl) (ea_cons (ev_trace T I6 R6 (n := 5) rfl) ea_nil))) (by show 3 ≤ sizeLine; decide)) fun v7 H7 e7 r7 => ?_
      obtain ⟨ts, us, ht1, ht2, ht3, ht4⟩ := I6.tr
      have len0 : (st.kept.getD 0 []).length ≤ 1500 * n := by
        have n1 := ok.n1
        have hk0 : 0 < st.kept.length := by rw [so.kl]; omega
        have hx : st.kept[0]? = some st.kept[0] := List.getElem?_eq_getElem hk0
        rw [List.getD_eq_getElem?_getD, hx]
        exact (so.r0 0 _ hx).1 rfl
      refine q v7 A.lt ⟨st.cells, zs.map (·.2)⟩ (di z) ts us H7 ?_ (.inr ⟨z, rfl⟩) (e7 _ _ ht1) (ht2.mono e7) ht3 (by omega) ⟨so.cl, so.cb, by show (zs.map _).length = _; rw [List.length_map]; exact hzl, fun j rs hj => ?_, fun j rs hj => ?_⟩ ?_ (tabs_same r6.tb e7)
      · have e : keptD (zs.map (·.2)) = .tup (zs.map fun y => .tup (y.2.map rowD)) := by unfold keptD; rw [List.map_map]; rfl
        show Rep K a.FC H7 (.tup [.tup [natsD st.cells, keptD (zs.map (·.2))], di z, .at (.ref A.lt)]) v7
        rw [e]
        exact r7
      · rw [List.getElem?_map] at hj
        obtain ⟨y, hy, rfl⟩ := Option.map_eq_some_iff.mp hj
        exact (hz3 j y hy).choose_spec.2.2.1
      · rw [List.getElem?_map] at hj
        obtain ⟨y, hy, rfl⟩ := Option.map_eq_some_iff.mp hj
        obtain ⟨us', _, _, _, h4, h5⟩ := hz3 j y hy
        refine ⟨fun h => ?_, fun h => Nat.le_trans (h5 h) hb2'⟩
        have := h4 h
        omega
      · refine fun b o e _ t => e7 _ _ (r6.kp b o ((e04.trans e5) _ _ e) (fun z => ?_) t)
        have := newL b z
        rw [sM _ _ (((e1.trans e2).trans e3) _ _ e)] at this
        cases this
    | set c m =>
      obtain ⟨hc, hm⟩ : c < pl.c ∧ m < pl.b := hdd
      refine st_skipS ((et_test (ev_eq (ev_ixT (ev_var R1 rfl) ev_c rfl) ev_c rfl)).to (by decide +kernel)) fun H2 e2 => ?_
      have R2 : RepE K a.FC H2 [some (pl.d a), some st.d, some (Dd.d (.set c m)), some (natsD st.cells), some (keptD st.kept), none, none, none, none, none] σ1 := R1.mono e2
      have hcl : c < st.cells.length := by rw [so.cl]; exact hc
      have hx : atI (st.cells.map fun (k : Nat) => di (k : Int)) (c : Int) = some (di (st.cells[c] : Int)) := atI_nat (by rw [List.getElem?_map, List.getElem?_eq_getElem hcl]; rfl)
      have hcd : c < pl.drs.length := by rw [ok.dl]; exact hc
      have hdr : atI (pl.drs.map dropD) (c : Int) = some (dropD pl.drs[c]) := atI_nat (by rw [List.getElem?_map, List.getElem?_eq_getElem hcd]; rfl)
      have up : StOk pl (n + 1) st := ⟨so.cl, so.cb, so.kl, so.ro, fun i rs h => ⟨fun z => by have := (so.r0 i rs h).1 z; omega, fun z => by have := (so.r0 i rs h).2 z; omega⟩⟩
      refine ⟨fun σ' H' => ∃ st' : Sto, RepE K a.FC H' [some (pl.d a), some st.d, some (Dd.d (.set c m)), some (natsD st'.cells), some (keptD st'.kept), none, none, none, none, none] σ' ∧ Same H H' ∧ StOk pl (n + 1) st', ?_, ?_⟩
      · refine st_if (et_test (ev_ne (ev_ixT (ev_var R2 rfl) (ev_ixT (ev_var R2 rfl) ev_c rfl) hx) (ev_ixT (ev_var R2 rfl) ev_c rfl) rfl)) (fun _ H3 e3 => ?_) (fun _ H3 e3 => ⟨st, R2.mono e3, (e1.trans e2).trans e3, up⟩)
        have R3 := R2.mono e3
        obtain ⟨cs', hcs⟩ : ∃ cs' : List Nat, cs' = cutD st.cells none (some (c : Int)) ++ (m :: (cutD st.cells (some ((c : Int) + 1)) none ++ [])) := ⟨_, rfl⟩
        have hlen : cs'.length = pl.c := by
          rw [hcs]
          unfold cutD
          rw [show (some ((c : Int) + 1)) = some (((c + 1 : Nat)) : Int) from rfl, HT.sIx_nat, HT.sIx_nat, HT.sIx_none, HT.sIx_none]
          simp only [List.length_append, List.length_cons, List.length_take, List.length_drop, List.length_nil]
          have := so.cl
          omega
        have hbd : ∀ y ∈ cs', y < pl.b := fun y hy => by
          rw [hcs] at hy
          rcases List.mem_append.mp hy with hy | hy
          · exact so.cb y (cutD_mem hy)
          · rcases List.mem_cons.mp hy with rfl | hy
            · exact hm
            · rw [List.append_nil] at hy
              exact so.cb y (cutD_mem hy)
        refine st_setS R3 ((ev_tup (ea_starT (ev_slT (ev_var R3 rfl) eo_none (eo_some (ev_ixT (ev_var R3 rfl) ev_c rfl))) (ea_cons (ev_ixT (ev_var R3 rfl) ev_c rfl) (ea_starT (ev_slT (ev_var R3 rfl) (eo_some (ev_add (ev_ixT (ev_var R3 rfl) ev_c rfl) ev_c)) eo_none) ea_nil))) ?_).to (d' := natsD cs') ?_) fun v4 H4 e4 r4 R4 => ?_
        · have e : (cutD (st.cells.map fun (k : Nat) => di (k : Int)) none (some (c : Int)) ++ (di (m : Int) :: (cutD (st.cells.map fun (k : Nat) => di (k : Int)) (some ((c : Int) + 1)) none ++ []))).length = cs'.length := by
            rw [hcs, ← cutD_map, ← cutD_map]
            simp only [List.length_append, List.length_cons, List.length_map, List.length_nil]
          rw [e, hlen]
          have := ok.c2
          exact Nat.le_trans this (by decide)
        · show D.tup _ = D.tup _
          rw [hcs, ← cutD_map, ← cutD_map, List.map_append, List.map_cons, List.map_append]
          rfl
        refine st_setS R4 (ev_ixT (ev_prop (ev_var R4 rfl) ⟨pl, rfl, rfl⟩) (ev_ixT (ev_var R4 rfl) ev_c rfl) hdr) fun v5 H5 e5 r5 R5 => ?_
        obtain ⟨gone, hgone⟩ : ∃ gone : Nat → Bool, gone = fun (k : Nat) => inV (.int (k : Int)) (pl.drs[c].map fun (k : Nat) => V.int (k : Int)) := ⟨_, rfl⟩
        obtain ⟨kp', hkp⟩ : ∃ kp' : List (List Row), kp' = (List.range st.kept.length).map fun k => if gone k = true then [] else st.kept.getD k [] := ⟨_, rfl⟩
        have gd : ∀ k, k < st.kept.length → (st.kept.map fun rs => D.tup (rs.map rowD)).getD k dn = .tup ((st.kept.getD k []).map rowD) := fun k hk => by
          rw [List.getD_eq_getElem?_getD, List.getD_eq_getElem?_getD, List.getElem?_map, List.getElem?_eq_getElem hk]
          rfl
        have hel : EvL K a.FC (tLc (iEnumT K (tCons (tVar 4) tNil)) (gTup K 2 (gCons (gName 9) (gCons (gName 8) gNil))) tYes (tIf (tTest (tOp (rIn K false) (tVar 9) (tVar 7))) (tTup tNil) (tVar 8)) [9, 8]) ((σ1.set 3 (some v4)).set 7 (some v5)) H5 (kp'.map fun rs => .tup (rs.map rowD)) := by
          rw [hkp, List.map_map]
          refine el_map (α := Nat) (xs := List.range st.kept.length) (dof := fun k => .tup [di (k : Int), (st.kept.map fun rs => D.tup (rs.map rowD)).getD k dn]) (f := (fun rs : List Row => D.tup (rs.map rowD)) ∘ fun k => if gone k = true then [] else st.kept.getD k []) R5 (by
            have := evi_enumT (K := K) (FC := a.FC) (tr := tCons (tVar 4) tNil) (ds := st.kept.map fun rs => D.tup (rs.map rowD)) (ea_cons (ev_var R5 rfl) ea_nil)
            unfold enumD at this
            rwa [List.length_map] at this) (fun k _ => bind_pair (n := 9) (m := 8) (by simp) (by simp)) (fun k hk σ' H' e R' => ?_) (fun k _ => .tup (rowsD_noL _)) (by rw [List.length_range, so.kl]; omega)
          have hk := List.mem_range.mp hk
          have gdk := gd k hk
          refine ((ev_if (et_test (ev_inN (l := pl.drs[c]) (ev_var R' rfl) (ev_var R' rfl))) (fun _ => ev_tup ea_nil) fun _ => (ev_var R' rfl).to gdk)).to ?_
          show (if inV (.int (k : Int)) (pl.drs[c].map fun (k : Nat) => V.int (k : Int)) = true then D.tup [] else D.tup ((st.kept.getD k []).map rowD)) = D.tup ((if gone k = true then [] else st.kept.getD k []).map rowD)
          rw [hgone]
          by_cases z : inV (.int (k : Int)) (pl.drs[c].map fun (k : Nat) => V.int (k : Int)) = true
          · rw [if_pos z, if_pos z]; rfl
          · rw [if_neg z, if_neg z]
        refine st_set R5 (ev_tupL hel) fun v6 H6 e6 r6 R6 => ?_
        refine ⟨⟨cs', kp'⟩, R6.drop0 7, (((e1.trans e2).trans e3).trans e4).trans (e5.trans e6), ⟨hlen, hbd, by show kp'.length = _; rw [hkp, List.length_map, List.length_range]; exact so.kl, fun j rs hj => ?_, fun j rs hj => ?_⟩⟩
        · rw [show kp' = _ from hkp, List.getElem?_map] at hj
          obtain ⟨k, hk, rfl⟩ := Option.map_eq_some_iff.mp hj
          have hk2 := List.getElem?_eq_some_iff.mp hk
          have hjl : j < st.kept.length := by have := hk2.1; rwa [List.length_range] at this
          have ekj : k = j := by have := hk2.2; rw [List.getElem_range] at this; exact this.symm
          subst ekj
          split
          · exact fun r h => (nomatch h)
          · have hx2 : st.kept[k]? = some st.kept[k] := List.getElem?_eq_getElem hjl
            rw [List.getD_eq_getElem?_getD, hx2]
            exact so.ro k _ hx2
        · rw [show kp' = _ from hkp, List.getElem?_map] at hj
          obtain ⟨k, hk, rfl⟩ := Option.map_eq_some_iff.mp hj
          have hk2 := List.getElem?_eq_some_iff.mp hk
          have hjl : j < st.kept.length := by have := hk2.1; rwa [List.length_range] at this
          have ekj : k = j := by have := hk2.2; rw [List.getElem_range] at this; exact this.symm
          subst ekj
          split
          · exact ⟨fun _ => Nat.zero_le _, fun _ => Nat.zero_le _⟩
          · have hx2 : st.kept[k]? = some st.kept[k] := List.getElem?_eq_getElem hjl
            rw [List.getD_eq_getElem?_getD, hx2]
            exact up.r0 k _ hx2
      · rintro σ3 H3 ⟨st', R3, e3, so'⟩
        refine st_ret3 ?_
        refine (ev_tup (ea_cons (ev_var R3 (n := 3) rfl) (ea_cons (ev_var R3 (n := 4) rfl) ea_nil)) (by show 2 ≤ sizeLine; decide) : EvD K a.FC _ σ3 H3 st'.d).go fun v4 H4 e4 r4 => ?_
        refine EvL.go (K := K) (FC := a.FC) (σ := σ3) (ds := []) (ev_lst ea_nil) fun lt us5 H5 hlt e5 hl5 r5 => ?_
        cases r5
        refine ⟨by show 3 ≤ sizeLine; decide, fun pr hpr => ?_⟩
        have e6 : Same H5 (upd H5 pr (.tup [v4, .non, .ref lt])) := Same.new hpr
        have eall := ((e3.trans e4).trans e5).trans e6
        exact q _ lt st' dn [] [] _ (.tup (SqT.of upd_same) (.cons (r4.mono (e5.trans e6)) (.cons (.at _) (.cons (.at _) .nil)))) (.inl rfl) (e6 _ _ hl5) .nil (fun d h => (nomatch h)) (Nat.zero_le _) so' (KeepX.of eall) (tabs_same tb eall)
end
end T34

/-! K34m -/
set_option maxHeartbeats 4000000
namespace T34
open PySem PySem.Spec PyProof.Rows L2
/-! ### an attribute as a target -/
def gFld (K : PySem.W.Frag) (ta : TE) (f : Str) : TG := fun v σ H Q => ta σ H fun x H2 => ∃ a C dx fs, x = .ref a ∧ H2 a = some (.ins C dx fs) ∧ Cls K C ∧ NoAttr K C f ∧ fs.length < 1000 ∧ Q σ (upd H2 a (.ins C dx (putF f v fs)))
theorem pg_fld {X : Cx} {K : PySem.W.Frag} {o : Expr} {ta : TE} {f : Str} {pos : Pos} (ha : PE X o ta) (hK : X.K = K := by rfl) : PG X (.Attribute o f pos) (gFld K ta f) := by
  subst hK
  refine ⟨fun pins s σ H v u Q I r h => ?_⟩
  rw [assign_Attribute]
  refine wpAny_bind (wpAny_holding (thn (ha.run pins s σ H _ I h) fun ov s1 ⟨x, H1, I1, rx, a, C, dx, fs, ex, ea, c, n, l, q⟩ => ?_))
  subst ex
  obtain rfl : ov = Value.ref a := rx
  exact wpAny_bind (wpAny_standAt (wpAny_bind (wpAny_holding (setattr_ok I1 ea c n l r fun s2 I2 => wpAny_release ⟨σ, _, I2, q⟩))))
/-! ### house[c] = v, house(p, f) by the own methods -/
structure SetO (P : Program) (w : World) (K : PySem.W.Frag) (mg : Str → Option Value) (base : Heap) (k : Nat) (C : Addr) (sp : Sp) : Prop where
  ex : ∃ f : Addr, PySem.W.findIn K (.ref C) "__setitem__" = some (some (.ref f)) ∧ PySem.W.isFn K (.ref f) = true ∧ PySem.W.noSeq K C = true ∧ FnR P w K mg base CX0 k f sp
def tSetO (C : Addr) (sp : Sp) : TSet := fun o i v H Q => ∃ a dx fs, o = .ref a ∧ H a = some (.ins C dx fs) ∧ sp [.ref a, i, v] H (fun _ H' => Q H') C8.E0
theorem set_own {X : Cx} {k j : Nat} {C : Addr} {sp : Sp} (c : SetO X.prog X.w X.K X.mg X.base k C sp) (hr : Room j X.A) (hk : k ≤ j) : PSet X (tSetO C sp) := by
  intro pins s σ H o i v ov iv u Q I ro ri rv h
  obtain ⟨a, dx, fs, rfl, ha, q⟩ := h
  obtain ⟨f, h1, h2, h3, F⟩ := c.ex
  obtain rfl : ov = Value.ref a := ro
  obtain ⟨ox, od, J, hd⟩ := StX.insC_at I (.inr ⟨dx, fs, ha⟩)
  obtain ⟨m, hF⟩ := I.fr
  refine PySem.W.ksp_setItem hF I.ok.mod.kin J h3 h1 h2 ?_
  refine wpAny_call (codeAny_mono (F X.A X.stack s H [.ref a, iv, u] [.ref a, i, v] _ C8.E0 (hr.mono hk) I.env0 (.cons rfl (.cons ri (.cons rv .nil))) q) fun r s' hq => ?_)
  cases r with
  | error e => exact hq.elim
  | ok fl =>
    cases fl with
    | ret w =>
      obtain ⟨_, H', I', _, q'⟩ := I.after hq
      exact ⟨H', I', q'⟩
    | next => exact hq.elim
    | brk => exact hq.elim
    | cont => exact hq.elim
end T34

/-! Kd14 -/
set_option maxHeartbeats 4000000
namespace T34
open PySem PySem.Spec PyProof.Rows L2
local macro_rules | `(tactic| walk_at "ev") => `(tactic| (first
  | (with_reducible exact ev_c)
  | ((with_reducible refine' ev_var ?R ?h); (case R => assumption); (case h => rfl))
  | (with_reducible refine' ea_cons ?_ ?_)
  | (with_reducible exact ea_nil)
  | (with_reducible refine' ev_add ?_ ?_)
  | (with_reducible refine' ev_sub ?_ ?_)
  | (with_reducible refine' ev_mul ?_ ?_ ?_)
  | (with_reducible refine' ev_mod ?_ ?_ ?_)
  | (with_reducible refine' ev_div ?_ ?_ ?_)
  | (with_reducible refine' ev_lt ?_ ?_)
  | (with_reducible refine' ev_le ?_ ?_)
  | (with_reducible refine' ev_gt ?_ ?_)
  | (with_reducible refine' ev_ge ?_ ?_)
  | (with_reducible refine' ev_int ?_)
  | (with_reducible refine' ev_not ?_)
  | (with_reducible refine' ev_tup ?_)
  | (with_reducible refine' ev_between ?_ ?_ ?_)
  | (with_reducible refine' et_test ?_)
  | (with_reducible refine' et_B ?_)
  | (with_reducible refine' et_not ?_)))
section
variable {P : Program} {w : World} {K : PySem.W.Frag} {mg : Str → Option Value} {base : Heap} {a : Ad} {TT : List (Addr × Str)} {f : Addr} {fd : FuncData}
open LamX (Tabs)
/-! ### houses -/
structure Ent where
  dd : Dd
  nd : Option Int
  st : Sto
  tr : List D
def ndD : Option Int → D
  | none => dn
  | some z => di z
def ndV : Option Int → V
  | none => .non
  | some z => .int z
theorem ndD_eq (o : Option Int) : ndD o = .at (ndV o) := by cases o <;> rfl
abbrev jouD (e : Ent) : D := .tup [e.dd.d, ndD e.nd]
abbrev entD (e : Ent) : D := .tup [jouD e, e.st.d, .tup e.tr]
structure PastOk (pl : Pl) (st : Sto) (past : List Ent) : Prop where
  ok : pl.ok
  st : StOk pl past.length st
  en : ∀ (i : Nat) (e : Ent), past[i]? = some e → StOk pl i e.st ∧ (∀ d ∈ e.tr, TrOk d) ∧ e.tr.length ≤ most ∧ e.dd.ok pl
theorem jouD_noL (e : Ent) : NoL (jouD e) := .tup (.cons e.dd.noL (.cons (by rw [ndD_eq]; exact .at _) .nil))
theorem entD_noL {e : Ent} (h : ∀ d ∈ e.tr, TrOk d) : NoL (entD e) := .tup (.cons (jouD_noL e) (.cons e.st.noL (.cons (.tup (.of fun d hd => (h d hd).noL)) .nil)))
theorem PastOk.noL {pl : Pl} {st : Sto} {past : List Ent} (h : PastOk pl st past) : NoLs (past.map entD) := .of fun d hd => by
  obtain ⟨e, he, rfl⟩ := List.mem_map.mp hd
  obtain ⟨i, hi⟩ := List.getElem?_of_mem he
  exact entD_noL (h.en i e hi).2.1
structure HsI (K : PySem.W.Frag) (a : Ad) (pl : Pl) (h dx : Addr) (st : Sto) (past : List Ent) (fl : Nat) (H : Hp) : Prop where
  ex : ∃ vp vh vq, H h = some (.ins a.CH dx [("source", vp), ("held", vh), ("past", vq), ("floor", .int (fl : Int))]) ∧ Rep K a.FC H (pl.d a) vp ∧ Rep K a.FC H st.d vh ∧ Rep K a.FC H (.tup (past.map entD)) vq
  po : PastOk pl st past
section
variable {pl : Pl} {h dx : Addr} {st : Sto} {past : List Ent} {fl n : Nat} {H H' : Hp} {σ : L2.St} {ρ : SD}
theorem HsI.off {M : List Addr} (I : HsI K a pl h dx st past fl H) (e : KeepX M H H') (z : Frz a.FC H H') (hM : h ∉ M) : HsI K a pl h dx st past fl H' := by
  obtain ⟨vp, vh, vq, h1, h2, h3, h4⟩ := I.ex
  exact ⟨⟨vp, vh, vq, e _ _ h1 hM (fun _ q => by cases q), h2.frz z (pl.noL a), h3.frz z st.noL, h4.frz z (.tup I.po.noL)⟩, I.po⟩
theorem HsI.same (I : HsI K a pl h dx st past fl H) (e : Same H H') : HsI K a pl h dx st past fl H' := I.off (M := []) (KeepX.of e) (Same.frz e) fun h => nomatch h
theorem HsI.mut (T : Tx K w mg a) (I : HsI K a pl h dx st past fl H) : ∀ x ∈ [h], MutO a.FC H x := fun x hx => by
  rw [List.mem_singleton.mp hx]
  obtain ⟨vp, vh, vq, h1, _⟩ := I.ex
  exact .inr (.inr ⟨_, _, _, h1, T.nHF⟩)
theorem ev_source (T : Tx K w mg a) (I : HsI K a pl h dx st past fl H) (R : RepE K a.FC H ρ σ) (h0 : ρ[n]? = some (some (.at (.ref h)))) : EvD K a.FC (tFld K (tVar n) "source") σ H (pl.d a) := by
  obtain ⟨vp, vh, vq, h1, h2, h3, h4⟩ := I.ex
  exact ev_fldM (ev_var R h0) h1 T.oH.cl T.nHsource rfl h2
theorem ev_heldH (T : Tx K w mg a) (I : HsI K a pl h dx st past fl H) (R : RepE K a.FC H ρ σ) (h0 : ρ[n]? = some (some (.at (.ref h)))) : EvD K a.FC (tFld K (tVar n) "held") σ H st.d := by
  obtain ⟨vp, vh, vq, h1, h2, h3, h4⟩ := I.ex
  exact ev_fldM (ev_var R h0) h1 T.oH.cl T.nHheld rfl h3
theorem ev_past (T : Tx K w mg a) (I : HsI K a pl h dx st past fl H) (R : RepE K a.FC H ρ σ) (h0 : ρ[n]? = some (some (.at (.ref h)))) : EvD K a.FC (tFld K (tVar n) "past") σ H (.tup (past.map entD)) := by
  obtain ⟨vp, vh, vq, h1, h2, h3, h4⟩ := I.ex
  exact ev_fldM (ev_var R h0) h1 T.oH.cl T.nHpast rfl h4
theorem ev_floor (T : Tx K w mg a) (I : HsI K a pl h dx st past fl H) (R : RepE K a.FC H ρ σ) (h0 : ρ[n]? = some (some (.at (.ref h)))) : EvD K a.FC (tFld K (tVar n) "floor") σ H (di (fl : Int)) := by
  obtain ⟨vp, vh, vq, h1, h2, h3, h4⟩ := I.ex
  exact ev_fldM (ev_var R h0) h1 T.oH.cl T.nHfloor rfl (.at _)
end
/-! ### looking at a house -/
abbrev s_House___len__ : Stmt := inClass (top 47) 2
theorem sc_House___len__ : FnScope ["self"] ["self"] (defScope s_House___len__) := ⟨rfl, rfl, rfl, by decide +kernel, rfl, by decide +kernel, by decide +kernel⟩
/-- a promise of a look: the house, its data, a value of some data -/
def spLook (K : PySem.W.Frag) (a : Ad) (R : Pl → Sto → List Ent → Nat → D → Prop) : Sp := fun vs H Q _ => ∃ (pl : Pl) (h dx : Addr) (st : Sto) (past : List Ent) (fl : Nat) (d : D), R pl st past fl d ∧ vs = [.ref h] ∧ HsI K a pl h dx st past fl H ∧ past.length ≤ 24 ∧ ∀ v H', Same H H' → Rep K a.FC H' d v → Q v H'
theorem ok_Hlen (F : FnP K "__len__" "House.__len__" s_House___len__ f fd) (T : Tx K w mg a) : FnOk P w K mg base CX0 1 f fd ["self"] (spLook K a fun _ _ past _ d => d = di (past.length : Int)) := by
  refine fnG0 F sc_House___len__ (fun vs H Q E h => ?_) (fun cdv Ar outer s H E hr => ⟨_, (pss_one (ps_ret (pe_callB (call_lenK (K := K)) (by rfl) T.f_len (by decide +kernel) (pa_cons (pe_fldK (K := K) (pv 0)) pa_nil)))), ?_⟩)
  · obtain ⟨pl, h, dx, st, past, fl, d, _, rfl, _⟩ := h
    rfl
  · rintro vs Q ⟨pl, h, dx, st, past, fl, d, rfl, rfl, I, hl, q⟩
    have R : RepE K a.FC H [some (.at (.ref h))] (start ["self"] [.ref h]) := RepE.start (N := ["self"]) (ds := [.at (.ref h)]) (.cons (.at _) .nil)
    exact st_ret ((ev_lenT (ev_past T I R rfl)).to (by rw [List.length_map])) fun v H1 e1 r1 => q v H1 e1 r1
abbrev s_House_stock : Stmt := inClass (top 47) 9
theorem sc_House_stock : FnScope ["self"] ["self"] (defScope s_House_stock) := ⟨rfl, rfl, rfl, by decide +kernel, rfl, by decide +kernel, by decide +kernel⟩
theorem ok_Hstock (F : FnP K "stock" "House.stock" s_House_stock f fd) (T : Tx K w mg a) : FnOk P w K mg base CX0 1 f fd ["self"] (spLook K a fun _ st _ _ d => d = st.d) := by
  refine fnG0 F sc_House_stock (fun vs H Q E h => ?_) (fun cdv Ar outer s H E hr => ⟨_, (pss_one (ps_ret (pe_fldK (K := K) (pv 0)))), ?_⟩)
  · obtain ⟨pl, h, dx, st, past, fl, d, _, rfl, _⟩ := h
    rfl
  · rintro vs Q ⟨pl, h, dx, st, past, fl, d, rfl, rfl, I, hl, q⟩
    have R : RepE K a.FC H [some (.at (.ref h))] (start ["self"] [.ref h]) := RepE.start (N := ["self"]) (ds := [.at (.ref h)]) (.cons (.at _) .nil)
    exact st_ret (ev_heldH T I R rfl) fun v H1 e1 r1 => q v H1 e1 r1
abbrev s_House_journal : Stmt := inClass (top 47) 10
theorem sc_House_journal : FnScope ["self", "row"] ["self"] (defScope s_House_journal) := ⟨rfl, rfl, rfl, by decide +kernel, rfl, by decide +kernel, by decide +kernel⟩
theorem ok_Hjournal (F : FnP K "journal" "House.journal" s_House_journal f fd) (T : Tx K w mg a) : FnOk P w K mg base CX0 1 f fd ["self"] (spLook K a fun _ _ past _ d => d = .lst (past.map jouD)) := by
  refine fnG0 F sc_House_journal (fun vs H Q E h => ?_) (fun cdv Ar outer s H E hr => ⟨_, (pss_one (ps_ret (pe_lc (own := [("row", 1)]) rfl sc_House_journal.nd (pi_tup (pe_fldK (K := K) (pv 0))) (blkOk_by (own := [("row", 1)]) (N := ["self", "row"]) (sc := defScope s_House_journal) (by decide +kernel)) (fun _ _ _ _ _ => (pg_name (i := 1) sc_House_journal.nd (by rfl) (.inl (by rfl)) (by first | exact .inl rfl | exact .inr rfl))) (fun _ _ _ _ _ => pts_nil) (fun _ _ _ _ _ => (pe_ix (ix_tupK (K := K)) (pv 1) pe_int (fun _ _ => rfl)))))), ?_⟩)
  · obtain ⟨pl, h, dx, st, past, fl, d, _, rfl, _⟩ := h
    rfl
  · rintro vs Q ⟨pl, h, dx, st, past, fl, d, rfl, rfl, I, hl, q⟩
    have R : RepE K a.FC H [some (.at (.ref h)), none] (start ["self", "row"] [.ref h]) := RepE.start (N := ["self", "row"]) (ds := [.at (.ref h)]) (.cons (.at _) .nil)
    exact st_ret (el_map (α := Ent) (xs := past) (dof := entD) (f := jouD) R (evi_tup (ev_past T I R rfl)) (fun x _ => bind_name (List.mem_singleton.mpr rfl)) (fun x _ σ' H' e R' => ev_ixT (ev_var R' rfl) ev_c rfl) (fun e _ => jouD_noL e) (by omega)).toD fun v H1 e1 r1 => q v H1 e1 r1
/-! ### a deed is done -/
abbrev s_House_go : Stmt := inClass (top 47) 7
theorem sc_House_go : FnScope ["self", "deed", "later", "number", "trace"] ["self", "deed"] (defScope s_House_go) := ⟨rfl, rfl, rfl, by decide +kernel, rfl, by decide +kernel, by decide +kernel⟩
def spGo (K : PySem.W.Frag) (a : Ad) (TT : List (Addr × Str)) : Sp := fun vs H Q _ => ∃ (pl : Pl) (h dx : Addr) (st : Sto) (past : List Ent) (fl : Nat) (dd : Dd) (vd : V), vs = [.ref h, vd] ∧ HsI K a pl h dx st past fl H ∧ past.length < 24 ∧ dd.ok pl ∧ Rep K a.FC H dd.d vd ∧ Tabs TT H ∧
  ∀ nd st' tr H', HsI K a pl h dx st' (past ++ [⟨dd, nd, st, tr⟩]) fl H' → KeepX [h] H H' → Tabs TT H' → Q (ndV nd) H'
theorem ok_Hgo {kD : Nat} (F : FnP K "go" "House.go" s_House_go f fd) (T : Tx K w mg a) (c_done : C8.Cal P w K mg base kD "done" (spDone K a TT) []) : FnOk P w K mg base CX0 (kD + 1) f fd ["self", "deed"] (spGo K a TT) := by
  refine fnG0 F sc_House_go (fun vs H Q E h => ?_) (fun cdv Ar outer s H E hr => ⟨_, (pss_cons (ps_asg (C8.pe_c c_done hr (by omega) (by rfl) (pa_cons (pe_fldK (K := K) (pv 0)) (pa_cons (pe_fldK (K := K) (pv 0)) (pa_cons (pv 1) pa_nil)))) (pg_tupK (K := K) (n := 3) (by rfl) (pgs_cons (pg_name (i := 2) sc_House_go.nd (by rfl) (.inl (by rfl)) (by first | exact .inl rfl | exact .inr rfl)) (pgs_cons (pg_name (i := 3) sc_House_go.nd (by rfl) (.inl (by rfl)) (by first | exact .inl rfl | exact .inr rfl)) (pgs_cons (pg_name (i := 4) sc_House_go.nd (by rfl) (.inl (by rfl)) (by first | exact .inl rfl | exact .inr rfl)) pgs_nil)))))
    (pss_cons (ps_fld (pv 0) (pe_tup (StX.pa_star (pe_fldK (K := K) (pv 0)) (pa_cons (pe_tup (pa_cons (pe_tup (pa_cons (pv 1) (pa_cons (pv 3) pa_nil))) (pa_cons (pe_fldK (K := K) (pv 0)) (pa_cons (pe_callTy (call_tupK (K := K)) (by rfl) T.f_tuple (by decide +kernel) (pa_cons (pv 4) pa_nil)) pa_nil)))) pa_nil))) rfl)
    (pss_cons (ps_fld (pv 0) (pv 2) rfl)
    (pss_one (ps_ret (pv 3)))))), ?_⟩)
  · obtain ⟨pl, h, dx, st, past, fl, dd, vd, rfl, _⟩ := h
    rfl
  · rintro vs Q ⟨pl, h, dx, st, past, fl, dd, vd, rfl, I, hl, hdd, rd, tb, q⟩
    have R : RepE K a.FC H [some (.at (.ref h)), some dd.d, none, none, none] (start ["self", "deed", "later", "number", "trace"] [.ref h, vd]) := RepE.start (N := ["self", "deed", "later", "number", "trace"]) (ds := [.at (.ref h), dd.d]) (.cons (.at _) (.cons rd .nil))
    refine st_asg ?_
    refine (ea_cons (ev_source T I R (n := 0) rfl) (ea_cons (ev_heldH T I R (n := 0) rfl) (ea_cons (ev_var R (n := 1) rfl) ea_nil)) : EvA K a.FC _ _ H [pl.d a, st.d, dd.d]).go fun vs1 H1 e1 r1 => ?_
    obtain ⟨va, vb, vc, rfl, ra, rb, rc⟩ : ∃ va vb vc, vs1 = [va, vb, vc] ∧ Rep K a.FC H1 (pl.d a) va ∧ Rep K a.FC H1 st.d vb ∧ Rep K a.FC H1 dd.d vc := by
      cases r1 with
      | cons r1 rr =>
        cases rr with
        | cons r2 rr =>
          cases rr with
          | cons r3 rr => cases rr; exact ⟨_, _, _, rfl, r1, r2, r3⟩
    refine ⟨pl, st, dd, past.length, va, vb, vc, rfl, ra, rb, rc, I.po.ok, hdd, I.po.st, hl, tabs_same tb e1, fun v2 lt st' nD ts us H2 rv hnd hlt rts htr htl so kp t2 => ?_⟩
    obtain ⟨nd, rfl⟩ : ∃ nd, nD = ndD nd := by
      rcases hnd with rfl | ⟨z, rfl⟩
      · exact ⟨none, rfl⟩
      · exact ⟨some z, rfl⟩
    obtain ⟨ar, us3, rfl, hs3, rr3⟩ := rv.tup_inv
    obtain ⟨w1, w2, w3, rfl, q1, q2, q3⟩ : ∃ w1 w2 w3, us3 = [w1, w2, w3] ∧ Rep K a.FC H2 st'.d w1 ∧ Rep K a.FC H2 (ndD nd) w2 ∧ Rep K a.FC H2 (.at (.ref lt)) w3 := by
      cases rr3 with
      | cons r1 rr =>
        cases rr with
        | cons r2 rr =>
          cases rr with
          | cons r3 rr => cases rr; exact ⟨_, _, _, rfl, r1, r2, r3⟩
    have z2 : Frz a.FC H1 H2 := kp.frz fun _ h => (nomatch h)
    have I2 := (I.same e1).off kp z2 fun h => nomatch h
    have R2 : RepE K a.FC H2 [some (.at (.ref h)), some dd.d, some st'.d, some (ndD nd), some (.at (.ref lt))] _ := ((((R.mono e1).frz z2 fun d hd => by
      have hd : some d ∈ ([some (.at (.ref h)), some dd.d, none, none, none] : SD) := hd
      simp at hd
      rcases hd with rfl | rfl
      · exact .at _
      · exact dd.noL).set (i := 2) q1).set (i := 3) q2).set (i := 4) q3
    refine ⟨ar, _, rfl, hs3, rfl, _, _, rfl, _, _, rfl, _, _, rfl, rfl, ?_⟩
    have nol : ∀ d, some d ∈ ([some (.at (.ref h)), some dd.d, some st'.d, some (ndD nd), some (.at (.ref lt))] : SD) → NoL d := fun d hd => by
      simp at hd
      rcases hd with rfl | rfl | rfl | rfl | rfl
      · exact .at _
      · exact dd.noL
      · exact st'.noL
      · rw [ndD_eq]; exact .at _
      · exact .at _
    obtain ⟨σ2, hσ⟩ : ∃ σ2 : L2.St, σ2 = (((start ["self", "deed", "later", "number", "trace"] [.ref h, vd]).set 2 (some w1)).set 3 (some w2)).set 4 (some w3) := ⟨_, rfl⟩
    rw [← hσ] at R2 ⊢
    have s0 := R2.ref (i := 0) rfl
    obtain ⟨vp, vh, vq, g1, g2, g3, g4⟩ := I2.ex
    refine st_fldS s0 g1 T.oH.cl T.nHpast (by show 4 < 1000; decide) (ev_tup (ea_starT (ev_past T I2 R2 (n := 0) rfl) (ea_cons (ev_tup (ea_cons (ev_tup (ea_cons (ev_var R2 (n := 1) rfl) (ea_cons (ev_var R2 (n := 3) rfl) ea_nil)) (by show 2 ≤ sizeLine; decide)) (ea_cons (ev_heldH T I2 R2 (n := 0) rfl) (ea_cons (ev_tupR (n := 4) (R2.ref (i := 4) rfl) hlt rts) ea_nil))) (by show 3 ≤ sizeLine; decide)) ea_nil)) (by
      rw [List.length_append, List.length_map]
      exact Nat.le_trans (show past.length + 1 ≤ 24 by omega) (by decide))) fun v5 H5 e5 r5 h5 => ?_
    obtain ⟨H6, h6⟩ : ∃ H6, H6 = upd H5 h (.ins a.CH dx [("source", vp), ("held", vh), ("past", v5), ("floor", .int (fl : Int))]) := ⟨_, rfl⟩
    have z6 : Frz a.FC H5 H6 := by rw [h6]; exact Frz.upd_ins h5 T.nHF
    have g6 : H6 h = some (.ins a.CH dx [("source", vp), ("held", vh), ("past", v5), ("floor", .int (fl : Int))]) := by rw [h6]; exact upd_same
    have k6 : KeepX [h] H5 H6 := by rw [h6]; exact KeepX.upd (by simp)
    have t6 : Tabs TT H6 := by rw [h6]; exact tabs_upd (tabs_same t2 e5) (.inr (.inr ⟨_, _, _, h5, T.nHF⟩))
    show tSeq _ _ _ σ2 (upd H5 h (.ins a.CH dx [("source", vp), ("held", vh), ("past", v5), ("floor", .int (fl : Int))]))
    rw [← h6]
    have R6 := (R2.mono e5).frz z6 nol
    refine st_fldS s0 g6 T.oH.cl T.nHheld (by show 4 < 1000; decide) (ev_var R6 (n := 2) rfl) fun v7 H7 e7 r7 h7 => ?_
    have z8 : Frz a.FC H7 (upd H7 h (.ins a.CH dx [("source", vp), ("held", v7), ("past", v5), ("floor", .int (fl : Int))])) := Frz.upd_ins h7 T.nHF
    have k8 : KeepX [h] H7 (upd H7 h (.ins a.CH dx [("source", vp), ("held", v7), ("past", v5), ("floor", .int (fl : Int))])) := KeepX.upd (by simp)
    have po' : PastOk pl st' (past ++ [⟨dd, nd, st, ts⟩]) := ⟨I.po.ok, by rw [List.length_append]; exact so, fun i e hi => by
      by_cases hil : i < past.length
      · rw [List.getElem?_append_left hil] at hi
        exact I.po.en i e hi
      · rw [List.getElem?_append_right (by omega)] at hi
        have h0 : i - past.length = 0 := by
          have := (List.getElem?_eq_some_iff.mp hi).1
          simp at this
          omega
        rw [h0] at hi
        cases hi
        rw [show i = past.length by omega]
        exact ⟨I.po.st, htr, htl, hdd⟩⟩
    have zz : Frz a.FC H5 (upd H7 h (.ins a.CH dx [("source", vp), ("held", v7), ("past", v5), ("floor", .int (fl : Int))])) := (z6.trans (Same.frz e7)).trans z8
    have r5' : Rep K a.FC H5 (.tup ((past ++ [(⟨dd, nd, st, ts⟩ : Ent)]).map entD)) v5 := by
      rw [List.map_append]
      exact r5
    refine ⟨_, R2.ref (i := 3) (v := ndV nd) (by rw [← ndD_eq]; rfl), ?_⟩
    have kAll := (((((KeepX.of (L := [h]) e1).trans (kp.mono fun _ h => (nomatch h))).trans (KeepX.of e5)).trans k6).trans ((KeepX.of e7).trans k8))
    have tAll : Tabs TT (upd H7 h (.ins a.CH dx [("source", vp), ("held", v7), ("past", v5), ("floor", .int (fl : Int))])) := tabs_upd (tabs_same t6 e7) (.inr (.inr ⟨_, _, _, h7, T.nHF⟩))
    exact q nd st' ts (upd H7 h (.ins a.CH dx [("source", vp), ("held", v7), ("past", v5), ("floor", .int (fl : Int))])) ⟨⟨vp, v7, v5, upd_same, (g2.mono e5).frz zz (pl.noL a), r7.frz z8 st'.noL, r5'.frz zz (.tup po'.noL)⟩, po'⟩ kAll tAll
end
end T34

/-! Kd15 -/
set_option maxHeartbeats 4000000
namespace T34
open PySem PySem.Spec PyProof.Rows L2
local macro_rules | `(tactic| walk_at "ev") => `(tactic| (first
  | (with_reducible exact ev_c)
  | ((with_reducible refine' ev_var ?R ?h); (case R => assumption); (case h => rfl))
  | (with_reducible refine' ea_cons ?_ ?_)
  | (with_reducible exact ea_nil)
  | (with_reducible refine' ev_add ?_ ?_)
  | (with_reducible refine' ev_sub ?_ ?_)
  | (with_reducible refine' ev_mul ?_ ?_ ?_)
  | (with_reducible refine' ev_mod ?_ ?_ ?_)
  | (with_reducible refine' ev_div ?_ ?_ ?_)
  | (with_reducible refine' ev_lt ?_ ?_)
  | (with_reducible refine' ev_le ?_ ?_)
  | (with_reducible refine' ev_gt ?_ ?_)
  | (with_reducible refine' ev_ge ?_ ?_)
  | (with_reducible refine' ev_int ?_)
  | (with_reducible refine' ev_not ?_)
  | (with_reducible refine' ev_tup ?_)
  | (with_reducible refine' ev_between ?_ ?_ ?_)
  | (with_reducible refine' et_test ?_)
  | (with_reducible refine' et_B ?_)
  | (with_reducible refine' et_not ?_)))
section
variable {P : Program} {w : World} {K : PySem.W.Frag} {mg : Str → Option Value} {base : Heap} {a : Ad} {TT : List (Addr × Str)} {f : Addr} {fd : FuncData}
open LamX (Tabs)
def firstS (p : Pl) : Sto := ⟨List.replicate p.c 0, List.replicate p.pls.length []⟩
theorem firstS_d (p : Pl) : firstD p = (firstS p).d := by
  show D.tup [.tup (List.replicate p.c (di 0)), .tup (List.replicate p.pls.length (.tup []))] = D.tup [.tup ((List.replicate p.c 0).map fun (k : Nat) => di (k : Int)), .tup ((List.replicate p.pls.length []).map fun rs : List Row => .tup (rs.map rowD))]
  rw [List.map_replicate, List.map_replicate]
  rfl
theorem firstS_ok {p : Pl} (ok : p.ok) : StOk p 0 (firstS p) := by
  have b2 := ok.b2
  refine ⟨List.length_replicate, fun x h => ?_, List.length_replicate, fun i rs h r hr => ?_, fun i rs h => ?_⟩
  · rw [(List.mem_replicate.mp h).2]
    omega
  · have := (List.mem_replicate.mp (List.mem_of_getElem? h)).2
    subst this
    cases hr
  · have := (List.mem_replicate.mp (List.mem_of_getElem? h)).2
    subst this
    exact ⟨fun _ => Nat.zero_le _, fun _ => Nat.zero_le _⟩
abbrev s_House___init__ : Stmt := inClass (top 47) 0
theorem sc_House___init__ : FnScope ["self", "plan"] ["self", "plan"] (defScope s_House___init__) := ⟨rfl, rfl, rfl, by decide +kernel, rfl, by decide +kernel, by decide +kernel⟩
def spHinit (K : PySem.W.Frag) (a : Ad) : Sp := fun vs H Q _ => ∃ (p dx : Addr) (pl : Pl) (vp : V), vs = [.ref p, vp] ∧ H p = some (.ins a.CH dx []) ∧ Rep K a.FC H (pl.d a) vp ∧ pl.ok ∧ ∀ H', HsI K a pl p dx (firstS pl) [] 0 H' → (∀ b o, H b = some o → b ≠ p → H' b = some o) → Q .non H'
theorem ok_Hinit {dvs : List V} (F : FunD K "__init__" "House.__init__" (defArgs s_House___init__) (defBody s_House___init__) (defScope s_House___init__) dvs [] f fd) (T : Tx K w mg a) (c_check_plan : C8.Cal P w K mg base 1 "check_plan" (spN K a.FC (rCheckPlan a)) []) (c_first_of : C8.Cal P w K mg base 5 "first_of" (spN K a.FC (rFirst a)) []) :
    FnOk P w K mg base CX0 6 f fd ["self", "plan"] (spHinit K a) := by
  refine fnG0 F sc_House___init__ (fun vs H Q E h => ?_) (fun cdv Ar outer s H E hr => ⟨_, (pss_cons (ps_expr (C8.pe_c c_check_plan hr (by omega) (by rfl) (pa_cons (pv 1) pa_nil)))
    (pss_cons (ps_fld (pv 0) (pv 1) rfl)
    (pss_cons (ps_fld (pv 0) (C8.pe_c c_first_of hr (by omega) (by rfl) (pa_cons (pv 1) pa_nil)) rfl)
    (pss_cons (ps_fld (pv 0) (pe_tup pa_nil) rfl)
    (pss_one (ps_fld (pv 0) pe_int rfl)))))), ?_⟩)
  · obtain ⟨p, dx, pl, vp, rfl, _⟩ := h
    rfl
  · rintro vs Q ⟨p, dx, pl, vp, rfl, hp, rp, ok, q⟩
    have c2 := ok.c2
    have n2 := ok.n2
    have R : RepE K a.FC H [some (.at (.ref p)), some (pl.d a)] (start ["self", "plan"] [.ref p, vp]) := RepE.start (N := ["self", "plan"]) (ds := [.at (.ref p), pl.d a]) (.cons (.at _) (.cons rp .nil))
    have nol : ∀ d, some d ∈ ([some (.at (.ref p)), some (pl.d a)] : SD) → NoL d := fun d h => by
      simp at h
      rcases h with rfl | rfl
      · exact .at _
      · exact pl.noL a
    obtain ⟨σ, hσ⟩ : ∃ σ : L2.St, σ = start ["self", "plan"] [.ref p, vp] := ⟨_, rfl⟩
    rw [← hσ] at R ⊢
    have s0 : σ[0]? = some (some (.ref p)) := by rw [hσ]; rfl
    clear hσ
    refine st_seq (st_drop (ev_callD (ea_cons (ev_var R (n := 1) rfl) ea_nil) ⟨pl, rfl, rfl⟩) fun H0 e0 => ?_)
    have hp0 := e0 _ _ hp
    have R0 := R.mono e0
    refine st_fldS s0 hp0 T.oH.cl T.nHsource (by show 0 < 1000; decide) (ev_var R0 (n := 1) rfl) fun v1 H1 e1 r1 hp1 => ?_
    obtain ⟨H1', h1'⟩ : ∃ H1', H1' = upd H1 p (.ins a.CH dx [("source", v1)]) := ⟨_, rfl⟩
    have z1 : Frz a.FC H1 H1' := by rw [h1']; exact Frz.upd_bare hp1
    have hq1 : H1' p = some (.ins a.CH dx [("source", v1)]) := by rw [h1']; exact upd_same
    have k1 : ∀ b o, H b = some o → b ≠ p → H1' b = some o := fun b o e n => by rw [h1', upd_ne n]; exact e1 _ _ (e0 _ _ e)
    have R1 := (R0.mono e1).frz z1 nol
    have rv1 := r1.frz z1 (pl.noL a)
    show tSeq _ _ _ σ (upd H1 p (.ins a.CH dx [("source", v1)]))
    rw [← h1']
    refine st_fldS s0 hq1 T.oH.cl T.nHheld (by show 1 < 1000; decide) ((ev_callD (ea_cons (ev_var R1 (n := 1) rfl) ea_nil) ⟨pl, c2, n2, rfl, rfl⟩).to (firstS_d pl)) fun v2 H2 e2 r2 hp2 => ?_
    obtain ⟨H2', h2'⟩ : ∃ H2', H2' = upd H2 p (.ins a.CH dx [("source", v1), ("held", v2)]) := ⟨_, rfl⟩
    have z2 : Frz a.FC H2 H2' := by rw [h2']; exact Frz.upd_ins hp2 T.nHF
    have hq2 : H2' p = some (.ins a.CH dx [("source", v1), ("held", v2)]) := by rw [h2']; exact upd_same
    have k2 : ∀ b o, H b = some o → b ≠ p → H2' b = some o := fun b o e n => by rw [h2', upd_ne n]; exact e2 _ _ (k1 b o e n)
    have R2 := (R1.mono e2).frz z2 nol
    have rv12 := (rv1.mono e2).frz z2 (pl.noL a)
    have rv2 := r2.frz z2 (firstS pl).noL
    show tSeq _ _ _ σ (upd H2 p (.ins a.CH dx [("source", v1), ("held", v2)]))
    rw [← h2']
    refine st_fldS (FC := a.FC) s0 hq2 T.oH.cl T.nHpast (by show 2 < 1000; decide) (ev_tup ea_nil) fun v3 H3 e3 r3 hp3 => ?_
    obtain ⟨H3', h3'⟩ : ∃ H3', H3' = upd H3 p (.ins a.CH dx [("source", v1), ("held", v2), ("past", v3)]) := ⟨_, rfl⟩
    have z3 : Frz a.FC H3 H3' := by rw [h3']; exact Frz.upd_ins hp3 T.nHF
    have hq3 : H3' p = some (.ins a.CH dx [("source", v1), ("held", v2), ("past", v3)]) := by rw [h3']; exact upd_same
    have k3 : ∀ b o, H b = some o → b ≠ p → H3' b = some o := fun b o e n => by rw [h3', upd_ne n]; exact e3 _ _ (k2 b o e n)
    show sFld K (tVar 0) (tC (.int 0)) "floor" _ σ (upd H3 p (.ins a.CH dx [("source", v1), ("held", v2), ("past", v3)]))
    rw [← h3']
    refine st_fld (FC := a.FC) s0 hq3 T.oH.cl T.nHfloor (by show 3 < 1000; decide) (ev_c (v := .int 0)) fun v4 H4 e4 r4 hp4 => ?_
    cases r4.at_inv
    have z4 : Frz a.FC H4 (upd H4 p (.ins a.CH dx [("source", v1), ("held", v2), ("past", v3), ("floor", .int 0)])) := Frz.upd_ins hp4 T.nHF
    have zz : Frz a.FC H3 (upd H4 p (.ins a.CH dx [("source", v1), ("held", v2), ("past", v3), ("floor", .int 0)])) := (z3.trans (Same.frz e4)).trans z4
    exact q _ ⟨⟨v1, v2, v3, upd_same, (rv12.mono e3).frz zz (pl.noL a), (rv2.mono e3).frz zz (firstS pl).noL, r3.frz zz (.tup .nil)⟩, ⟨ok, firstS_ok ok, fun i e h => by rw [List.getElem?_nil] at h; cases h⟩⟩ fun b o e n => by
      show upd H4 p _ b = some o
      rw [upd_ne n]
      exact e4 _ _ (k3 b o e n)
/-! ### the two ways to do a deed -/
abbrev s_House___setitem__ : Stmt := inClass (top 47) 5
theorem sc_House___setitem__ : FnScope ["self", "cell", "number"] ["self", "cell", "number"] (defScope s_House___setitem__) := ⟨rfl, rfl, rfl, by decide +kernel, rfl, by decide +kernel, by decide +kernel⟩
def spSet (K : PySem.W.Frag) (a : Ad) (TT : List (Addr × Str)) : Sp := fun vs H Q _ => ∃ (pl : Pl) (h dx : Addr) (st : Sto) (past : List Ent) (fl c m : Nat), vs = [.ref h, .int (c : Int), .int (m : Int)] ∧ HsI K a pl h dx st past fl H ∧ past.length < 24 ∧ Dd.ok pl (.set c m) ∧ Tabs TT H ∧
  ∀ v nd st' tr H', HsI K a pl h dx st' (past ++ [⟨.set c m, nd, st, tr⟩]) fl H' → KeepX [h] H H' → Tabs TT H' → Q v H'
theorem ok_Hset {kG : Nat} (F : FnP K "__setitem__" "House.__setitem__" s_House___setitem__ f fd) (T : Tx K w mg a) (c_is_number : C8.Cal P w K mg base 1 "is_number" (spN K a.FC rNumber) []) (p_Pcells : Prp P w K mg base 1 a.CP "cells" (spN K a.FC (rPcells a))) (p_Pbase : Prp P w K mg base 1 a.CP "base" (spN K a.FC (rPbase a)))
    (m_go : C8.Met P w K mg base kG a.CH "go" (spGo K a TT) []) (hk : 5 ≤ kG) : FnOk P w K mg base CX0 (kG + 1) f fd ["self", "cell", "number"] (spSet K a TT) := by
  refine fnG0 F sc_House___setitem__ (fun vs H Q E h => ?_) (fun cdv Ar outer s H E hr => ⟨_, (pss_cons (ps_if (PW.pt (pw_or (pt_not (pt_val (C8.pe_c c_is_number hr (by omega) (by rfl) (pa_cons (pv 1) (pa_cons (pe_pp p_Pcells hr (by omega) (pe_fldK (K := K) (pv 0))) pa_nil))))) (pw_or1 (pt_not (pt_val (C8.pe_c c_is_number hr (by omega) (by rfl) (pa_cons (pv 2) (pa_cons (pe_pp p_Pbase hr (by omega) (pe_fldK (K := K) (pv 0))) pa_nil)))))))) (pss_one ps_never) pss_nil)
    (pss_one (ps_expr (C8.pe_mt m_go hr (by omega) (pv 0) (pa_cons (pe_tup (pa_cons pe_str (pa_cons (pv 1) (pa_cons (pv 2) pa_nil)))) pa_nil))))), ?_⟩)
  · obtain ⟨pl, h, dx, st, past, fl, c, m, rfl, _⟩ := h
    rfl
  · rintro vs Q ⟨pl, h, dx, st, past, fl, c, m, rfl, I, hl, hd, tb, q⟩
    obtain ⟨hc, hm⟩ : c < pl.c ∧ m < pl.b := hd
    have R : RepE K a.FC H [some (.at (.ref h)), some (di (c : Int)), some (di (m : Int))] (start ["self", "cell", "number"] [.ref h, .int (c : Int), .int (m : Int)]) := RepE.start (N := ["self", "cell", "number"]) (ds := [.at (.ref h), di (c : Int), di (m : Int)]) (.cons (.at _) (.cons (.at _) (.cons (.at _) .nil)))
    refine st_skipS ((et_or (et_not (et_B (ev_callD (d := db true) (ea_cons (ev_var R rfl) (ea_cons (ev_prop (ev_source T I R rfl) ⟨pl, rfl, rfl⟩) ea_nil)) ⟨_, _, rfl, num_fn (by omega) (by omega)⟩))) fun _ => et_not (et_B (ev_callD (d := db true) (ea_cons (ev_var R rfl) (ea_cons (ev_prop (ev_source T I R rfl) ⟨pl, rfl, rfl⟩) ea_nil)) ⟨_, _, rfl, num_fn (by omega) (by omega)⟩))).to rfl) fun H1 e1 => ?_
    have R1 := R.mono e1
    have I1 := I.same e1
    obtain ⟨vp, vh, vq, g1, _⟩ := I1.ex
    refine ⟨.ref h, rfl, h, dx, _, rfl, g1, rfl, (ea_cons (ev_tup (ea_cons (ev_c (v := .str "set")) (ea_cons (ev_var R1 (n := 1) rfl) (ea_cons (ev_var R1 (n := 2) rfl) ea_nil))) (by show 3 ≤ sizeLine; decide)) ea_nil : EvA K a.FC _ _ H1 [Dd.d (.set c m)]).go fun vs2 H2 e2 r2 => ?_⟩
    obtain ⟨vd, rfl, rd⟩ : ∃ vd, vs2 = [vd] ∧ Rep K a.FC H2 (Dd.d (.set c m)) vd := by
      cases r2 with
      | cons r rr => cases rr; exact ⟨_, rfl, r⟩
    exact ⟨pl, h, dx, st, past, fl, .set c m, vd, rfl, I1.same e2, hl, ⟨hc, hm⟩, rd, tabs_same tb (e1.trans e2), fun nd st' tr H' I' kp t' => q _ nd st' tr H' I' ((KeepX.of (e1.trans e2)).trans kp) t'⟩
abbrev s_House___call__ : Stmt := inClass (top 47) 6
theorem sc_House___call__ : FnScope ["self", "place", "fields"] ["self", "place", "fields"] (defScope s_House___call__) := ⟨rfl, rfl, rfl, by decide +kernel, rfl, by decide +kernel, by decide +kernel⟩
def spCallH (K : PySem.W.Frag) (a : Ad) (TT : List (Addr × Str)) : Sp := fun vs H Q _ => ∃ (pl : Pl) (h dx : Addr) (st : Sto) (past : List Ent) (fl i : Nat) (fs : List Nat) (vf : V), vs = [.ref h, .int (i : Int), vf] ∧ Rep K a.FC H (natsD fs) vf ∧ HsI K a pl h dx st past fl H ∧ past.length < 24 ∧ Dd.ok pl (.ask i fs) ∧ Tabs TT H ∧
  ∀ v nd st' tr H', HsI K a pl h dx st' (past ++ [⟨.ask i fs, nd, st, tr⟩]) fl H' → KeepX [h] H H' → Tabs TT H' → Q v H'
theorem ok_Hcall {kG : Nat} (F : FnP K "__call__" "House.__call__" s_House___call__ f fd) (T : Tx K w mg a) (c_check_place : C8.Cal P w K mg base 5 "check_place" (spN K a.FC (rCheckPlace a)) []) (c_is_deed : C8.Cal P w K mg base 5 "is_deed" (spN K a.FC (rIsDeed a)) [])
    (m_go : C8.Met P w K mg base kG a.CH "go" (spGo K a TT) []) (hk : 5 ≤ kG) : FnOk P w K mg base CX0 (kG + 1) f fd ["self", "place", "fields"] (spCallH K a TT) := by
  refine fnG0 F sc_House___call__ (fun vs H Q E h => ?_) (fun cdv Ar outer s H E hr => ⟨_, (pss_cons (ps_expr (C8.pe_c c_check_place hr (by omega) (by rfl) (pa_cons (pe_fldK (K := K) (pv 0)) (pa_cons (pv 1) pa_nil))))
    (pss_cons (ps_if (pt_not (pt_val (C8.pe_c c_is_deed hr (by omega) (by rfl) (pa_cons (pe_fldK (K := K) (pv 0)) (pa_cons (pe_tup (pa_cons pe_str (pa_cons (pv 1) (pa_cons (pv 2) pa_nil)))) pa_nil))))) (pss_one ps_never) pss_nil)
    (pss_one (ps_ret (C8.pe_mt m_go hr (by omega) (pv 0) (pa_cons (pe_tup (pa_cons pe_str (pa_cons (pv 1) (pa_cons (pv 2) pa_nil)))) pa_nil)))))), ?_⟩)
  · obtain ⟨pl, h, dx, st, past, fl, i, fs, vf, rfl, _⟩ := h
    rfl
  · rintro vs Q ⟨pl, h, dx, st, past, fl, i, fs, vf, rfl, rf, I, hl, hd, tb, q⟩
    have n2 := I.po.ok.n2
    have R : RepE K a.FC H [some (.at (.ref h)), some (di (i : Int)), some (natsD fs)] (start ["self", "place", "fields"] [.ref h, .int (i : Int), vf]) := RepE.start (N := ["self", "place", "fields"]) (ds := [.at (.ref h), di (i : Int), natsD fs]) (.cons (.at _) (.cons (.at _) (.cons rf .nil)))
    refine st_seq (st_drop (ev_callD (ea_cons (ev_source T I R (n := 0) rfl) (ea_cons (ev_var R (n := 1) rfl) ea_nil)) ⟨pl, i, hd.1, n2, rfl, rfl⟩) fun H0 e0 => ?_)
    have R0 := R.mono e0
    have I0 := I.same e0
    refine st_skipS ((et_not (et_B (ev_callD (d := db true) (ea_cons (ev_source T I0 R0 rfl) (ea_cons (ev_tup (ea_cons ev_c (ea_cons (ev_var R0 rfl) (ea_cons (ev_var R0 rfl) ea_nil))) (by show 3 ≤ sizeLine; decide)) ea_nil)) ⟨pl, i, fs, I.po.ok, hd, rfl, rfl⟩))).to rfl) fun H1 e1 => ?_
    have R1 := R0.mono e1
    have I1 := I0.same e1
    have e01 := e0.trans e1
    obtain ⟨vp, vh, vq, g1, _⟩ := I1.ex
    refine ⟨.ref h, rfl, h, dx, _, rfl, g1, rfl, (ea_cons (ev_tup (ea_cons (ev_c (v := .str "ask")) (ea_cons (ev_var R1 (n := 1) rfl) (ea_cons (ev_var R1 (n := 2) rfl) ea_nil))) (by show 3 ≤ sizeLine; decide)) ea_nil : EvA K a.FC _ _ H1 [Dd.d (.ask i fs)]).go fun vs2 H2 e2 r2 => ?_⟩
    obtain ⟨vd, rfl, rd⟩ : ∃ vd, vs2 = [vd] ∧ Rep K a.FC H2 (Dd.d (.ask i fs)) vd := by
      cases r2 with
      | cons r rr => cases rr; exact ⟨_, rfl, r⟩
    exact ⟨pl, h, dx, st, past, fl, .ask i fs, vd, rfl, I1.same e2, hl, hd, rd, tabs_same tb (e01.trans e2), fun nd st' tr H' I' kp t' => q _ nd st' tr H' I' ((KeepX.of (e01.trans e2)).trans kp) t'⟩
end
end T34

/-! K34n -/
set_option maxHeartbeats 4000000
namespace T34
open PySem PySem.Spec PyProof.Rows L2
def cntS (ws : List Str) (z : Str) : Nat := (ws.map V.str).countP fun y => eqV y (.str z)
theorem count_vals {z : Str} : ∀ {ws : List Str} {us : List Value}, Vals (ws.map V.str) us → us.countP (eqU (.str z)) = cntS ws z
  | [], _, r => by cases r; rfl
  | y :: ws, _, r => by
    cases r with
    | cons r1 rr =>
      have ih := count_vals (z := z) rr
      unfold cntS at ih ⊢
      rw [List.map_cons, List.countP_cons, List.countP_cons, ih, eqU_of r1 rfl]
def rCountS : V → List V → Hp → VK → Prop := fun x vs H Q => ∃ (l : Addr) (ws : List Str) (z : Str), x = .ref l ∧ vs = [.str z] ∧ H l = some (.lst (ws.map V.str)) ∧ Q (.int (cntS ws z : Nat)) H
theorem mt_countS {X : Cx} : MtR X "list.count" rCountS := by
  intro pins s σ H x vs v us Q I rx rv h
  obtain ⟨l, ws, z, rfl, rfl, hH, q⟩ := h
  cases rx
  obtain ⟨u, rfl, ru⟩ := rv.one
  obtain ⟨_, its, n, r, hl, e⟩ := I.lstM hH
  obtain ⟨t, rfl⟩ := ru
  refine call_meets F.slot_list_count ⟨_, e, rfl⟩ F.entry_list_count (F.args_list_count_2 _ _) (SeqAt.list_countAt l its.toArray n none #[] (.str z t) (eqU (.str z))) ⟨e, fun y hy => mem_eqAt (x := .str z) ⟨t, rfl⟩ rfl r (flat_strs ws) y (by simpa using hy), ?_⟩
  rw [show its.toArray.toList = its from rfl, count_vals r]
  exact ⟨.int (cntS ws z : Nat), H, I.tok _, ⟨_, rfl⟩, q⟩
/-- [f(b) for a in xs for b in ys(a) if p(b)] -/
theorem el_lc2 {K : PySem.W.Frag} {FC : Addr → Prop} {α β : Type} {ρ : SD} {σ : L2.St} {H : Hp} {wi wi1 : TI} {g g1 : TG} {tt1 : TT} {te : TE} {vs vs1 : List Nat} {xs : List α} {dof : α → D} {ys : α → List β} {eof f : β → D} {p : β → Bool} {ρ1 : α → SD} {ρ2 : α → β → SD}
    (R : RepE K FC H ρ σ) (hi : EvI K FC wi σ H (xs.map dof)) (hb : ∀ a ∈ xs, Bind K FC g (dof a) vs (wipeD ρ vs) (ρ1 a)) (hi1 : ∀ a ∈ xs, ∀ σ' H', RepE K FC H' (ρ1 a) σ' → EvZ K FC wi1 σ' H' ((ys a).map eof)) (n1 : ∀ a ∈ xs, ∀ d, some d ∈ ρ1 a → NoL d)
    (hb1 : ∀ a ∈ xs, ∀ b ∈ ys a, Bind K FC g1 (eof b) vs1 (wipeD (ρ1 a) vs1) (ρ2 a b)) (ht : ∀ a ∈ xs, ∀ b ∈ ys a, ∀ σ' H', RepE K FC H' (ρ2 a b) σ' → EvT tt1 σ' H' (p b)) (he : ∀ a ∈ xs, ∀ b ∈ ys a, ∀ σ' H', RepE K FC H' (ρ2 a b) σ' → EvD K FC te σ' H' (f b)) (hn : ∀ a ∈ xs, ∀ b ∈ ys a, NoL (f b))
    (hl : (xs.flatMap ys).length ≤ 10000000) : EvL K FC (tLc2 wi g tYes wi1 g1 tt1 te vs vs1) σ H (xs.flatMap fun a => ((ys a).filter p).map f) := fun H1 e Q q => hi H1 e _ fun J H2 e2 ⟨G, Y, W, g0, gm, gy⟩ DL hD => by
  rw [List.length_map] at W gy
  obtain ⟨res, hres⟩ : ∃ res : List α → List D, res = fun l => l.flatMap fun a => ((ys a).filter p).map f := ⟨_, rfl⟩
  have nres : ∀ l : List α, (∀ a ∈ l, a ∈ xs) → NoLs (res l) := fun l hl => .of fun d hd => by
    rw [hres] at hd
    dsimp only at hd
    obtain ⟨a, ha, hd⟩ := List.mem_flatMap.mp hd
    obtain ⟨b, hb, rfl⟩ := List.mem_map.mp hd
    exact hn a (hl a ha) b (List.mem_filter.mp hb).1
  have lres : ∀ l : List α, (res l).length ≤ (l.flatMap ys).length := fun l => by
    rw [hres]
    dsimp only
    induction l with
    | nil => exact Nat.le_refl _
    | cons a l ih =>
      rw [List.flatMap_cons, List.flatMap_cons, List.length_append, List.length_append, List.length_map]
      have := List.length_filter_le p (ys a)
      omega
  refine ⟨fun i m H3 => m = xs.length - i ∧ i ≤ xs.length ∧ Same H2 H3 ∧ ∃ acc, H3 DL = some (.lst acc) ∧ Reps K FC H3 (res (xs.take i)) acc, ⟨xs.length, rfl, Nat.zero_le _, Same.new hD, [], upd_same, by rw [hres]; exact .nil⟩, ?_⟩
  rintro i m H3 ⟨rfl, hile, e3, acc, ha, ra⟩
  have gH3 := gm _ _ e3 g0
  by_cases hlt : i < xs.length
  · refine .inr ⟨W.goes i H3 hlt gH3, fun H' => Same H2 H' ∧ ∃ acc, H' DL = some (.lst acc) ∧ Reps K FC H' (res (xs.take (i + 1))) acc, fun H' h => ⟨xs.length - (i + 1), by omega, rfl, hlt, h⟩, fun x H4 y => ?_⟩
    obtain ⟨e4, d, hd, rd⟩ := gy i H3 x H4 e3 hlt (W.yields i H3 x H4 hlt gH3 y)
    have hx : xs[i]? = some xs[i] := List.getElem?_eq_getElem hlt
    rw [List.getElem?_map, hx] at hd
    cases hd
    have hm : xs[i] ∈ xs := List.getElem_mem hlt
    have htake : xs.take (i + 1) = xs.take i ++ [xs[i]] := by rw [List.take_succ, hx]; rfl
    have s4 : Same H H4 := ((e.trans e2).trans e3).trans e4
    refine hb _ hm _ H4 x ((R.mono s4).wipe vs) rd _ fun σ2 H5 e5 R5 hw => ⟨hw.trans (wipe_idem σ vs), ?_⟩
    refine hi1 _ hm σ2 H5 R5 H5 (Same.refl _) _ fun J1 H6 e6 ⟨G1, Y1, W1, g10, g1m, g1y⟩ => ?_
    rw [List.length_map] at W1 g1y
    have e36 : Same H3 H6 := (e4.trans e5).trans e6
    have R6 := R5.mono e6
    refine ⟨fun j k H7 => k = (ys xs[i]).length - j ∧ j ≤ (ys xs[i]).length ∧ Frz FC H6 H7 ∧ Same H2 H7 ∧ ∃ acc, H7 DL = some (.lst acc) ∧ Reps K FC H7 (res (xs.take i) ++ (((ys xs[i]).take j).filter p).map f) acc, ⟨(ys xs[i]).length, rfl, Nat.zero_le _, Frz.refl _, e3.trans e36, acc, e36 _ _ ha, by rw [List.take_zero, List.filter_nil, List.map_nil, List.append_nil]; exact ra.mono e36⟩, ?_⟩
    rintro j k H7 ⟨rfl, hjle, z7, e7, acc7, ha7, ra7⟩
    have gH7 := g1m _ _ z7 g10
    by_cases hjt : j < (ys xs[i]).length
    · refine .inr ⟨W1.goes j H7 hjt gH7, fun H' => Frz FC H6 H' ∧ Same H2 H' ∧ ∃ acc, H' DL = some (.lst acc) ∧ Reps K FC H' (res (xs.take i) ++ (((ys xs[i]).take (j + 1)).filter p).map f) acc, fun H' h => ⟨(ys xs[i]).length - (j + 1), by omega, rfl, hjt, h⟩, fun x' H8 y' => ?_⟩
      obtain ⟨e8, d', hd', rd'⟩ := g1y j H7 x' H8 z7 hjt (W1.yields j H7 x' H8 hjt gH7 y')
      have hy : (ys xs[i])[j]? = some (ys xs[i])[j] := List.getElem?_eq_getElem hjt
      rw [List.getElem?_map, hy] at hd'
      cases hd'
      have hmy : (ys xs[i])[j] ∈ ys xs[i] := List.getElem_mem hjt
      have hty : (ys xs[i]).take (j + 1) = (ys xs[i]).take j ++ [(ys xs[i])[j]] := by rw [List.take_succ, hy]; rfl
      refine hb1 _ hm _ hmy _ H8 x' (((R6.frz z7 (n1 _ hm)).mono e8).wipe vs1) rd' _ fun σ3 H9 e9 R9 hw9 => ⟨hw9.trans (wipe_idem σ2 vs1), ?_⟩
      have e89 := e8.trans e9
      refine ht _ hm _ hmy σ3 H9 R9 H9 (Same.refl _) _ fun HA eA => ?_
      have e8A := e89.trans eA
      cases hp : p (ys xs[i])[j] with
      | true =>
        refine he _ hm _ hmy σ3 HA (R9.mono eA) HA (Same.refl _) _ fun v HB eB rB => ?_
        have e8B := e8A.trans eB
        have zB : Frz FC HB (upd HB DL (.lst (acc7 ++ [v]))) := Frz.upd_lst (e8B _ _ ha7)
        have nl7 : NoLs (res (xs.take i) ++ (((ys xs[i]).take j).filter p).map f) := .append (nres _ fun a h => List.mem_of_mem_take h) (.of fun d hd => by
          obtain ⟨b, hb', rfl⟩ := List.mem_map.mp hd
          exact hn _ hm b (List.mem_of_mem_take (List.mem_filter.mp hb').1))
        have lacc : acc7.length ≤ 10000000 := by
          rw [ra7.length, List.length_append, List.length_map]
          have h1 := lres (xs.take i)
          have h2 := List.length_filter_le p ((ys xs[i]).take j)
          have h3 : ((xs.take i).flatMap ys).length + (ys xs[i]).length ≤ (xs.flatMap ys).length := by
            have : xs = xs.take i ++ (xs[i] :: xs.drop (i + 1)) := by
              rw [List.getElem_cons_drop, List.take_append_drop]
            rw [show (xs.flatMap ys) = ((xs.take i ++ (xs[i] :: xs.drop (i + 1))).flatMap ys) by rw [← this], List.flatMap_append, List.flatMap_cons, List.length_append, List.length_append]
            omega
          rw [List.length_take] at h2
          omega
        refine ⟨acc7, e8B _ _ ha7, Nat.lt_of_le_of_lt lacc (by decide +kernel), (z7.trans (Same.frz e8B)).trans zB, Same.mut (e7.trans e8B) hD, _, upd_same, ?_⟩
        rw [hty, List.filter_append, List.map_append, ← List.append_assoc, List.filter_cons, if_pos hp]
        exact ((ra7.mono e8B).append (.cons rB .nil)).frz zB (.append nl7 (.cons (hn _ hm _ hmy) .nil))
      | false =>
        refine ⟨z7.trans (Same.frz e8A), e7.trans e8A, acc7, e8A _ _ ha7, ?_⟩
        rw [hty, List.filter_append, List.map_append, ← List.append_assoc, List.filter_cons, if_neg (by rw [hp]; exact Bool.false_ne_true)]
        simp only [List.filter_nil, List.map_nil, List.append_nil]
        exact ra7.mono e8A
    · have ej : j = (ys xs[i]).length := by omega
      subst ej
      refine .inl ⟨W1.stops H7 gH7, e7, acc7, ha7, ?_⟩
      rw [htake]
      rw [List.take_length] at ra7
      rw [hres] at ra7 ⊢
      show Reps K FC H7 (List.flatMap (fun a => ((ys a).filter p).map f) (xs.take i ++ [xs[i]])) acc7
      rw [List.flatMap_append, List.flatMap_cons, List.flatMap_nil, List.append_nil]
      exact ra7
  · have ei : i = xs.length := by omega
    subst ei
    rw [List.take_length] at ra
    refine .inl ⟨W.stops H3 gH3, q DL acc H3 (fresh_back e2 hD) (e2.trans e3) ha (by rw [hres] at ra; exact ra)⟩
end T34

/-! K34o -/
set_option maxHeartbeats 4000000
/-! A tuple unpacked, and walked by a comprehension, while an exception is handled. -/
namespace T34
open PySem PySem.Spec PyProof.Rows L2 HotX
section
variable {prog : Program} {w : World} {A : Around} {E : Value → Shared → Prop} {s : Shared}
/-- the end of a tuple's iterator: a StopIteration is made, chained to what is handled, caught -/
theorem tupEndH {j t x1 : Addr} {i : Nat} {its : Array Value} {Q : Option Value → Shared → Prop} (hot : HotAt A x1 s.heap) (hj : s.heap.IsTupleIter j t i) (ht : s.heap.IsTuple t its) (nx : its[i]? = none) (nj : x1 ≠ j)
    (q : ∀ h', Heap.ExtBut j s.heap h' → Q none { s with heap := h' }) : wpAny (model prog w) A (pyNext (.ref j)) Q E s := by
  have tj := hj.typeIs
  obtain ⟨oj, gj, _, dj⟩ := id hj
  obtain ⟨ot, gt, _, k, dt⟩ := ht
  obtain ⟨hh, o1, v1, g1, d1, c1⟩ := hot
  unfold pyNext
  refine wpAny_bind (wpAny_attempt (wpAny_callSpecial?_slot (name := Str.ofString "__next__") tj F.slot_tuple_iterator_next (wpAny_call_entry F.slot_tuple_iterator_next tj F.entry_tuple_iterator_next ?_ (F.args_tuple_iterator_next_1 _))))
  refine wpAny_bind (m := field (.ref j) 0) (wpAny_field gj dj (x := .ref t) rfl ?_)
  dsimp only
  rw [if_neg (show ¬ ((Value.ref t == Value.none) = true) from fun z => nomatch z)]
  refine wpAny_bind (m := field (.ref j) 1) (wpAny_field gj dj (x := .int i 0) rfl ?_)
  refine wpAny_bind (m := seqItems? (.ref t)) (wpAny_seqItems gt dt ?_)
  simp only [Int.toNat_natCast, nx]
  refine wpAny_bind (wpAny_rule (wpAny_bind (wpAny_setField gj dj (by simp) ?_)))
  have g1' := (Heap.get?_update_other s.heap (Obj.mapFields (·.setIfInBounds 0 Value.none)) (Ne.symm nj)).trans g1
  refine wpAny_bind (m := newExc (.type "StopIteration") []) ?_
  simp only [newExc, newTuple]
  refine wpAny_bind (wpAny_newObj_type ?_ (by size_fits))
  refine wpAny_bind (m := firstArgMember _ _) (wpAny_of_eq (a := Value.none) (by first | rfl | (simp only [firstArgMember]; rfl)) ?_)
  refine wpAny_newObj_type ?_ (by size_fits)
  have g2 := Heap.get?_push_of_some { cls := Value.type "tuple", data := Data.seq ([] : List Value).toArray } g1'
  refine raiseNew_hot ⟨hh, o1, v1, Heap.get?_push_of_some _ g2, d1, c1⟩ (Nat.ne_of_lt (Heap.lt_size g2)) (Heap.get?_push_size _ rfl) rfl (by first | (simp; done) | (simp; omega) | (simp only [Array.size_append]; simp; omega)) ?_
  refine wpAny_bind (wpAny_isInstance (T := "StopIteration") (b := true) ⟨_, Heap.get?_update_self _ (Heap.get?_push_size _ rfl) rfl, rfl⟩ isSubtype_stop (wpAny_pure (q _ fun b o nb e => ?_)))
  have e1 := Heap.get?_push_of_some { cls := Value.type "tuple", data := Data.seq ([] : List Value).toArray } ((Heap.get?_update_other s.heap (Obj.mapFields (·.setIfInBounds 0 Value.none)) (Ne.symm nb)).trans e)
  rw [Heap.get?_update_other _ _ (Nat.ne_of_gt (Heap.lt_size e1))]
  exact Heap.get?_push_of_some _ e1
/-- so many items of a tuple, unpacked -/
theorem unpackH {t x1 : Addr} {its : Array Value} {tgs : List (Bool × (Value → Sem Unit))} {Q : Unit → Shared → Prop} (hot : HotAt A x1 s.heap) (ht : s.heap.IsTuple t its) (hn : tgs.length = its.size) (hs : tgs.findIdx? (·.1) = none)
    (h : ∀ h', Heap.ExtBut s.heap.objs.size s.heap h' → wpAny (model prog w) A (assignInOrder (tgs.map (·.2)) its.toList) Q E { s with heap := h' }) : wpAny (model prog w) A (unpack (.ref t) tgs) Q E s := by
  have nt : t ≠ s.heap.objs.size := let ⟨o, g, _⟩ := ht; Nat.ne_of_lt (Heap.lt_size g)
  obtain ⟨hh, o1, v1, g1, d1, c1⟩ := hot
  have n1 : x1 ≠ s.heap.objs.size := Nat.ne_of_lt (Heap.lt_size g1)
  unfold unpack
  rw [hn, hs]
  refine wpAny_bind (wpAny_holding ?_)
  unfold unpackItems notIterableAtAll
  refine wpAny_bind (wpAny_bind (wpAny_specialOf ht.typeIs slot_tuple_iter.lookup (wpAny_pure ?_)))
  rw [if_neg (by simp)]
  refine wpAny_bind (wpAny_holding (wpAny_pyIter_tuple ht (wpAny_bind (wpAny_holding (wpAny_draw_tuple nt its.size 0 _ _ ⟨_, Heap.get?_push_size _ rfl, rfl, rfl⟩ (ht.push _) (by omega) fun h1 j1 b1 => ?_)))))
  rw [List.drop_zero, List.take_of_length_le (Nat.le_of_eq (Array.length_toList ..)), if_neg (by simp)]
  have b2 := b1.extBut
  have g2 : h1.get? x1 = some o1 := b2 x1 o1 n1 (Heap.get?_push_of_some _ g1)
  refine wpAny_bind (wpAny_holding (tupEndH ⟨hh, o1, v1, g2, d1, c1⟩ j1 ((ht.push _).extBut b2 nt) (by simp) n1 fun h2 b3 => ?_))
  rw [if_neg (by simp)]
  exact wpAny_pure (h h2 fun b o nb e => b3 b o nb (b2 b o nb (Heap.get?_push_of_some _ e)))
end
section
variable {X : Cx}
/-- (a, b, ..) = a tuple of that length, there -/
theorem pg_tupH {pos : Pos} {es : List Expr} {k : Nat} {t : TGs} {n : Nat} (hc : L2H.HotC X) (h : PGs X es t) (hn : (assignEach es X.env).length = n := by rfl) (hs : (assignEach es X.env).findIdx? (·.1) = none := by rfl) : PG X (.Tuple es k pos) (gTup X.K n t) := by
  refine ⟨fun pins s σ H v u Q I r ⟨a, xs, ev, hq, hl, hw⟩ => ?_⟩
  subst ev
  cases r
  obtain ⟨its, rv, ht, _⟩ := I.tuple hq
  obtain ⟨x1, hot⟩ := hc.at I
  rw [PyProof.Rows.assign_Tuple]
  refine wpAny_bind (wpAny_standAt (unpackH hot ht (by rw [hn, ← hl, rv.length]; rfl) hs fun h' x => ?_))
  have J : Inv X pins σ H { s with heap := h' } := I.kept (t' := s.toks) fun b o e => x b o (Nat.ne_of_lt (Heap.lt_size e)) e
  exact h.run pins _ σ H xs _ Q J rv hw
end
end T34

/-! K34p -/
set_option maxHeartbeats 4000000
/-! try: return e / finally: suite, the exception of e pinned as an object whose context is None. -/
namespace T34
open PySem PySem.Spec PyProof.Rows L2
section
variable {X : Cx} {pins : List (Addr × Obj)} {σ : L2.St} {H : Hp} {s : Shared}
/-- two untracked records are pinned in a suite -/
theorem two_pins {a T : Addr} {oe oT : Obj} {ve vT : Array Value} (J : Inv X pins σ H s) (hf : X.env.frame = some X.env.locals) (ga : s.heap.get? a = some oe) (da : oe.data = .fields ve) (na : H a = none) (fa : a ∉ frs (X.env :: X.outer))
    (gT : s.heap.get? T = some oT) (dT : oT.data = .fields vT) (nT : H T = none) (fT : T ∉ frs (X.env :: X.outer)) : Inv (X.suite a ((a, oe) :: (T, oT) :: (X.pn ++ pins))) [] σ H s := by
  have inL : X.env.locals ∈ frs (X.env :: X.outer) := List.mem_filterMap.mpr ⟨X.env, List.mem_cons_self, hf⟩
  have inF : ∀ b ∈ X.fs, b ∈ frs (X.env :: X.outer) := fun b hb => let ⟨e, he, q⟩ := List.mem_filterMap.mp hb; List.mem_filterMap.mpr ⟨e, List.mem_cons_of_mem _ he, q⟩
  have one : ∀ {b : Addr} {o : Obj} {vs : Array Value}, s.heap.get? b = some o → o.data = .fields vs → H b = none → b ∉ frs (X.env :: X.outer) → s.heap.get? b = some o ∧ H b = none ∧ b ≠ X.env.locals ∧ b ∉ X.fs ∧ ∀ v, o.data ≠ .cell v := fun g d n f =>
    ⟨g, n, fun z => f (z ▸ inL), fun z => f (inF _ z), fun v z => by rw [d] at z; cases z⟩
  exact ⟨J.ok.suite _ _, J.os, J.bare, J.base, J.loc, J.cell, J.free, J.freeC, fun p hp => by
    simp only [List.append_nil, List.mem_cons] at hp
    rcases hp with rfl | rfl | hp
    · exact one ga da na fa
    · exact one gT dT nT fT
    · exact J.pin p hp, J.hok, J.len⟩
/-- what the finally suite is to reach on the raising way -/
def wFinN (tfs : Addr → Value → Option Addr → TS) (Wout : WX) : WX := fun cls d σ H => ∀ a, H a = none → tfs a cls d { nx := fun σ2 H2 => Wout cls d σ2 H2, rt := fun _ _ => False } σ H
/-- the exception meets the finally: noted; the suite; on it goes -/
theorem finN_exc {f₀ : Stmt} {fs : List Stmt} {tfs : Addr → Value → Option Addr → TS} {Wout : WX} {D : Ends} {u : Value} {s' : Shared} (hs : X.stack = X.env :: X.outer) (hf : X.env.frame = some X.env.locals) (hex : X.ex = []) (ok : X.Ok) (tk : L2N.Takes X Wout)
    (hsu : ∀ (a : Addr) (oe : Obj) (cls : Value) (d : Option Addr) (pn : List (Addr × Obj)), L2N.Zn cls d oe → (∃ vs, oe.data = .fields vs) → PSs (X.suite a ((a, oe) :: pn)) (f₀ :: fs) (tfs a cls d))
    {xe : Value → Shared → Prop} (xx : L2N.XE (X.tr (X.pn ++ pins) xe) (wFinN tfs Wout) u s') :
    wpAny (model X.prog X.w) X.A (noteFrame u X.env) (fun _ s₂ => FinallyRaised X.prog X.w X.A X.xe X.env (f₀ :: fs) (SP X pins D) u s₂) (FinallyRaised X.prog X.w X.A X.xe X.env (f₀ :: fs) (SP X pins D)) s' := by
  obtain ⟨a, B, sI, pI, σ1, H1, cls, d, rfl, J0, nb, up, sky, na, os, ag, hw⟩ := xx
  have J : Inv X pins σ1 H1 sI := J0.ofTry ok
  have hfr : X.A.frames = some (X.env :: X.outer) := ok.frames.trans (congrArg some hs)
  have sky : L2.Sky B (X.env :: X.outer) a (L2N.Zn cls d) X.env.locals s'.heap := hs ▸ sky
  have tail : ∀ h1, HandSPX.HeldZ B (X.env :: X.outer) a (L2N.Zn cls d) X.env.locals h1 → s'.heap.UpToSlots h1 → FinallyRaised X.prog X.w X.A X.xe X.env (f₀ :: fs) (SP X pins D) (.ref a) { s' with heap := h1 } := by
    intro h1 held up1
    refine ⟨ref_ne_byPass a, HandSPX.againZ hf held.2.2.2 (HandSPX.landsZ held fun h3 fly up3 => ?_)⟩
    have J3 : Inv X pins σ1 H1 { s' with heap := h3 } := J.landed nb fly.1 ((up.trans up1).trans up3) os ag
    obtain ⟨_, k2, k3, oe, ve, T, oT, vT, ga, hz, da, v1, nBT, neT, gT, dT, t3⟩ := id fly
    have notFr : ∀ {b : Addr} {o : Obj} {vs : Array Value}, h3.get? b = some o → o.data = .fields vs → b ∉ frs (X.env :: X.outer) := fun g dd hm => by
      obtain ⟨_, o2, g2, nf⟩ := k3.mem hm
      cases g.symm.trans g2
      exact nf _ dd
    have fa := notFr ga da
    have fT := notFr gT dT
    have S3 := two_pins J3 hf ga da na fa gT dT ((J.inGround nb).gone nBT) fT
    refine wpAny_mono ((hsu a oe cls d ((T, oT) :: (X.pn ++ pins)) hz ⟨_, da⟩).run [] _ σ1 H1 _ S3 (hw a na)) (fun g s6 hq => ?_) fun _ _ z => z.elim
    cases g with
    | ret u => exact let ⟨_, _, _, _, _, z⟩ := hq; z.elim
    | brk => exact let ⟨_, _, _, z⟩ := hq; z.elim
    | cont => exact let ⟨_, _, _, z⟩ := hq; z.elim
    | next =>
      obtain ⟨σ6, H6, S6, q6⟩ := hq
      have J6 : Inv X pins σ6 H6 s6 := ⟨ok, S6.os, S6.bare, S6.base, S6.loc, S6.cell, S6.free, S6.freeC, fun p hp => S6.pin p (List.mem_append_left _ (List.mem_cons_of_mem _ (List.mem_cons_of_mem _ hp))), S6.hok, S6.len⟩
      obtain ⟨pa, na6, _⟩ := S6.pin (a, oe) (List.mem_append_left _ List.mem_cons_self)
      obtain ⟨pT, nT6, _⟩ := S6.pin (T, oT) (List.mem_append_left _ (List.mem_cons_of_mem _ List.mem_cons_self))
      have pa : s6.heap.get? a = some oe := pa
      have pT : s6.heap.get? T = some oT := pT
      have far : ∀ b o, sI.heap.get? b = some o → b ≠ a ∧ b ≠ T := fun b o e => by
        by_cases hb : b ∈ frs X.stack
        · have hb' : b ∈ frs (X.env :: X.outer) := hs ▸ hb
          exact ⟨fun z => fa (z ▸ hb'), fun z => fT (z ▸ hb')⟩
        · have q := nb b o e hb
          exact ⟨fun z => (by rw [z, k2] at q; cases q), fun z => (by rw [z, nBT] at q; cases q)⟩
      obtain ⟨G, gY, gN⟩ := restrict s6.heap fun b => decide (b ≠ a ∧ b ≠ T)
      have gTo : ∀ b o, G.get? b = some o → s6.heap.get? b = some o ∧ b ≠ a ∧ b ≠ T := fun b o e => by
        by_cases z : b ≠ a ∧ b ≠ T
        · rw [gY b (decide_eq_true z)] at e
          exact ⟨e, z⟩
        · rw [gN b (decide_eq_false z)] at e
          cases e
      have I6 := J6.less (G := G) (fun b o e => (gTo b o e).1) (fun b o z1 z2 e => (gY b (decide_eq_true ⟨z1, z2⟩)).trans e) ⟨oe, ve, pa, da⟩ ⟨oT, vT, pT, dT⟩ na6 nT6 (fun b o e => by
        obtain ⟨o2, q⟩ := J.base.there b o e (by rw [hex]; exact List.not_mem_nil)
        exact far b o2 q) fun p hp => far p.1 p.2 (J.pin p hp).1
      have none2 : ∀ b, ¬(b ≠ a ∧ b ≠ T) → (PySem.W.hideAll G (frs X.stack)).get? b = none := fun b hb => by
        cases q : (PySem.W.hideAll G (frs X.stack)).get? b with
        | none => rfl
        | some o => exact absurd (gTo b o (PySem.W.of_hideAll _ q)).2 hb
      have fly6 : HandSPX.FlyingZ (PySem.W.hideAll G (frs X.stack)) (X.env :: X.outer) a (L2N.Zn cls d) s6.heap :=
        ⟨fun b o e => (gTo b o (PySem.W.of_hideAll _ e)).1, none2 a fun z => z.1 rfl, hs ▸ funFrames_none (B := PySem.W.hideAll G (frs X.stack)) J6.stack fun b hb => PySem.W.hideAll_none _ hb, oe, ve, T, oT, vT, pa, hz, da, v1, none2 T fun z => z.2 rfl, neT, pT, dT, t3⟩
      show wpAny (model X.prog X.w) X.A (PySem.passOn "try.finally" (.ref a) X.env) (SP X pins D) X.xe s6
      have up7 : wpAny (model X.prog X.w) X.A (setFlight (.ref a) X.env.frame) (fun _ s7 => wpAny (model X.prog X.w) X.A (throw (.ref a) : Sem Flow) (SP X pins D) X.xe s7) X.xe s6 := by
        rw [hf]
        exact HandSPX.setFlight_upZ fly6 fun h7 held7 u7 => wpAny_throw (tk _ _ ⟨a, _, { s6 with heap := G }, pins, σ6, H6, cls, d, rfl, I6, fun b o e hb => PySem.W.hideAll_get _ e hb,
          Heap.UpToSlots.trans (Heap.UpToSlots.of_keeps fun b o e => (gTo b o e).1) u7, .inr (.inr (hs ▸ held7)), na6, rfl, J6.bare, q6⟩)
      unfold PySem.passOn
      refine wpAny_bind (wpAny_field pa da v1 ?_)
      rw [if_neg (by simp)]
      first
        | exact wpAny_bind (wpAny_pure (wpAny_bind up7))
        | exact wpAny_bind up7
  rcases sky with ⟨hB, hn, hl, oe, ve, g0, hz, hd, v1⟩ | fly | held
  · exact PXN.look_newZ L2N.Zn.steady hfr hl hf g0 hB hn hd v1 hz tail
  · exact PXN.looks_onZ L2N.Zn.steady hfr hf fly tail
  · exact HandSPX.againZ hf held.2.2.2 (tail s'.heap held (Heap.UpToSlots.refl _))
def tRetFinN (te : WX → TE) (tf : TS) (tfs : Addr → Value → Option Addr → TS) (Wout : WX) : TS := fun D σ H => te (wFinN tfs Wout) σ H fun v H1 => tf { D with nx := fun _ H2 => D.rt v H2 } σ H1
theorem ps_retFinN {e : Expr} {f₀ : Stmt} {fs : List Stmt} {rp pos : Pos} {te : WX → TE} {tf : TS} {tfs : Addr → Value → Option Addr → TS} {Wout : WX} (hs : X.stack = X.env :: X.outer) (hf : X.env.frame = some X.env.locals) (hex : X.ex = []) (tk : L2N.Takes X Wout)
    (he : ∀ (W : WX) (pn : List (Addr × Obj)) (xe : Value → Shared → Prop), L2N.Takes (X.tr pn xe) W → PE (X.tr pn xe) e (te W)) (hfin : PSs X.nox (f₀ :: fs) tf)
    (hsu : ∀ (a : Addr) (oe : Obj) (cls : Value) (d : Option Addr) (pn : List (Addr × Obj)), L2N.Zn cls d oe → (∃ vs, oe.data = .fields vs) → PSs (X.suite a ((a, oe) :: pn)) (f₀ :: fs) (tfs a cls d)) :
    PS X (.Try [.Return (some e) rp] [] [] (f₀ :: fs) pos) (tRetFinN te tf tfs Wout) := by
  refine ⟨fun pins s σ H D I h => wpAny_Try_finally (wpAny_execs_cons (wpAny_Return_some ?_))⟩
  have ok := I.ok
  refine wpAny_mono ((he (wFinN tfs Wout) (X.pn ++ pins) _ fun u s' xx => finN_exc hs hf hex ok tk hsu xx).run [] s σ H _ (I.toTry _) h) (fun u s1 ⟨v, H1, I1, r1, q1⟩ => ?_) fun _ _ z => z
  exact fin_ret hfin (I1.ofTry ok) r1 q1
end
end T34

/-! K34q -/
set_option maxHeartbeats 4000000
/-! A comprehension over a tuple while an exception is handled; KeyError made. -/
namespace T34
open PySem PySem.Spec PyProof.Rows L2 HotX
section
variable {X : Cx}
theorem pe_lcH {elt tg iter : Expr} {ifs : List Expr} {scope : Scope} {own : List (Str × Nat)} {pos : Pos} {t0 te : TE} {g : TG} {tt : TT} (hot : L2H.HotC X) (nd : X.N.Nodup) (hi : PE X iter t0) (ok : BlkOk X.N X.env.scope scope own)
    (hg : ∀ (s : Shared) (H : Hp) (C : Addr) (cl : List (Str × Addr)) (fp : List Addr), PG (X.blk s H scope (compEnvC scope cl C X.env) fp) tg g) (ht : ∀ (s : Shared) (H : Hp) (C : Addr) (cl : List (Str × Addr)) (fp : List Addr), PTs (X.blk s H scope (compEnvC scope cl C X.env) fp) ifs tt)
    (he : ∀ (s : Shared) (H : Hp) (C : Addr) (cl : List (Str × Addr)) (fp : List Addr), PE (X.blk s H scope (compEnvC scope cl C X.env) fp) elt te) (hs : ∀ x, foldedSetIterable iter X.env x = pure x := by intro _; rfl) :
    PE X (.ListComp elt [⟨tg, iter, ifs, 0⟩] scope pos) (tLc (iTup X.K t0) g tt te (own.map (·.2))) := by
  refine ⟨fun pins s σ H Q I h => ?_⟩
  rw [eval_ListComp]
  have cells : ∀ y ∈ scope.names, y.2 = .free → ∃ c, X.env.cells.lookup y.1 = some c := fun y hy e => I.ok.has _ ((ok.free y hy e).elim .inl .inr)
  refine wpAny_comprehension_free (use := none) rfl hs (closure_ok cells) ok.kind (fun y hy e => (ok.uniq y hy).trans (congrArg some e)) (thn (hi.run pins s σ H _ I h) fun u s1 ⟨x, H1, I1, r1, a, ex, ⟨xs, hq⟩, q⟩ => ?_)
  subst ex
  cases r1
  obtain ⟨its, rv, tup, _⟩ := I1.tuple hq
  refine wpAny_pyIter_tuple (show s1.heap.IsTuple a its.toArray from tup) (wpAny_newObj_type (newEnv_comp ?_) (by show 0 ≤ sizeLine; decide))
  -- the iterator j, the new list l
  generalize ej : s1.heap.objs.size = j
  generalize eh2 : s1.heap.push { cls := Value.type "tuple_iterator", data := Data.fields #[.ref a, .int 0 0] } = h2
  generalize el : h2.objs.size = l
  have k2 : ∀ b o, s1.heap.get? b = some o → h2.get? b = some o := fun b o e => eh2 ▸ Heap.get?_push_of_some _ e
  have lj : l = j + 1 := by rw [← el, ← eh2, Heap.size_push, ej]
  have nj1 : H1 j = none := I1.hok.fresh (Nat.le_of_eq ej)
  have nl1 : H1 l = none := I1.hok.fresh (by omega)
  obtain ⟨W, ⟨m0, w0⟩, turn⟩ := q l nl1
  generalize eh3 : h2.push { cls := Value.type "list", data := Data.seq ([] : List Value).toArray } = h3
  have k3 : ∀ b o, h2.get? b = some o → h3.get? b = some o := fun b o e => eh3 ▸ Heap.get?_push_of_some _ e
  have sz3 : h3.objs.size = l + 1 := by rw [← eh3, Heap.size_push, el]
  have J3 : Inv X pins σ (upd H1 l (.lst [])) { s1 with heap := h3 } := I1.laid (t' := s1.toks) (fun b o e => k3 b o (k2 b o e)) (by omega) ⟨Nat.zero_le _, [], 0, .nil, by rw [← eh3, ← el]; exact Heap.get?_push_size _ rfl⟩
  have gj3 : h3.get? j = some { cls := Value.type "tuple_iterator", data := Data.fields #[.ref a, .int 0 0] } := k3 _ _ (by rw [← eh2, ← ej]; exact Heap.get?_push_size _ rfl)
  have njl : j ≠ l := by rw [lj]; exact Nat.ne_of_lt (Nat.lt_succ_self _)
  have nj : upd H1 l (.lst []) j = none := (upd_ne njl).trans nj1
  have fj : FpOk X pins (upd H1 l (.lst [])) j := ⟨nj, (I1.fpOk (Nat.le_of_eq ej) nj1).2⟩
  have B0 := block_start (fp := [j]) J3 ok nd fun b hb => by
    rw [List.mem_singleton.mp hb]
    exact ⟨fj, (show j < h3.objs.size from by rw [sz3, lj]; exact Nat.lt_succ_of_lt (Nat.lt_succ_self _))⟩
  have eL : (compEnvC scope (cellsFrom (h3.objs.size + 1) scope.names (cloFrom X.env.cells scope.names [])) h3.objs.size X.env).locals = h3.objs.size := rfl
  have pg := hg { s1 with heap := h3 } (upd H1 l (.lst [])) h3.objs.size (cellsFrom (h3.objs.size + 1) scope.names (cloFrom X.env.cells scope.names [])) [j]
  have pt := ht { s1 with heap := h3 } (upd H1 l (.lst [])) h3.objs.size (cellsFrom (h3.objs.size + 1) scope.names (cloFrom X.env.cells scope.names [])) [j]
  have pe := he { s1 with heap := h3 } (upd H1 l (.lst [])) h3.objs.size (cellsFrom (h3.objs.size + 1) scope.names (cloFrom X.env.cells scope.names [])) [j]
  show codeAny _ _ (.compStart (.ListComp elt [⟨tg, iter, ifs, 0⟩] scope pos) 0 (.ref j) (.ref l) (compEnvC scope (cellsFrom (h3.objs.size + 1) scope.names (cloFrom X.env.cells scope.names [])) h3.objs.size X.env)) (compPost (model X.prog X.w) X.A X.xe none (EP X pins σ Q) (.ref l) h3.objs.size) { s1 with heap := pushCells (h3.push { cls := .type "dict", data := .dict #[] }) scope.names }
  generalize ece : compEnvC scope (cellsFrom (h3.objs.size + 1) scope.names (cloFrom X.env.cells scope.names [])) h3.objs.size X.env = ce at B0 pg pt pe eL ⊢
  generalize eH3 : upd H1 l (.lst []) = H3 at J3 B0 pg pt pe w0 nj fj
  have k4 : ∀ b o, h3.get? b = some o → (pushCells (h3.push { cls := .type "dict", data := .dict #[] }) scope.names).get? b = some o := fun b o e => pushCells_keeps _ _ _ _ (Heap.get?_push_of_some _ e)
  generalize eh4 : pushCells (h3.push { cls := .type "dict", data := .dict #[] }) scope.names = h4 at B0 k4 ⊢
  -- the exception that is handled
  obtain ⟨p, ⟨hh, v1, d1, c1⟩, hp⟩ := hot
  have P3 := J3.pin p (List.mem_append_left _ hp)
  have nfs : p.1 ∉ frs X.stack := fun hm => (List.mem_cons.mp (J3.stkSub p.1 hm)).elim P3.2.2.1 P3.2.2.2.1
  have pj : p.1 ≠ j := (fj.2.2.2.2.2 p (List.mem_append_left _ hp))
  have B4 : Inv (X.blk { s1 with heap := h3 } H3 scope ce [j]) [p] (wipe σ (own.map (·.2))) H3 { s1 with heap := h4 } := B0.pins_of fun p' hp' => by
    rw [List.mem_singleton.mp hp']
    exact ⟨k4 _ _ P3.1, P3.2.1, fun z => absurd (Heap.lt_size P3.1) (by rw [z, eL]; exact Nat.lt_irrefl _), nfs, P3.2.2.2.2⟩
  have fjB : ∀ {σ' : L2.St} {H' : Hp} {s' : Shared}, Inv (X.blk { s1 with heap := h3 } H3 scope ce [j]) [p] σ' H' s' → H' j = none → FpOk (X.blk { s1 with heap := h3 } H3 scope ce [j]) [p] H' j := fun {σ' H' s'} J n =>
    ⟨n, (J.ok.exf j List.mem_cons_self).1, J.ok.exfs j List.mem_cons_self, .inl List.mem_cons_self, fun x c e => (J.ok.exf j List.mem_cons_self).2 x c e, fun p' hp' => by
      rw [List.mem_singleton.mp hp']
      exact pj⟩
  have loop : codeAny (model X.prog X.w) X.A (.compLoop (.ListComp elt [⟨tg, iter, ifs, 0⟩] scope pos) 0 (.ref j) (.ref l) ce) (compPost (model X.prog X.w) X.A X.xe none (EP X pins σ Q) (.ref l) h3.objs.size) { s1 with heap := h4 } := by
    refine compLoop_any (fun n s' => ∃ i H', Inv (X.blk { s1 with heap := h3 } H3 scope ce [j]) [p] (wipe σ (own.map (·.2))) H' s' ∧ s'.heap.IsTupleIter j a i ∧ H' j = none ∧ W i n H') ?_ m0 ⟨0, H3, B4, ⟨_, k4 _ _ gj3, rfl, rfl⟩, nj, w0⟩
    rintro n s5 ⟨i, H5, J5, i5, n5, w5⟩
    have f5 := fjB J5 n5
    have hot5 : HotAt X.A p.1 s5.heap := ⟨hh, p.2, v1, (J5.pin p (by simp)).1, d1, c1⟩
    rcases turn i n H5 w5 with ⟨⟨ys, hys, hyl⟩, qq⟩ | ⟨⟨ys, y, hys, hy⟩, Nx, hNx, step⟩
    · obtain ⟨its5, rv5, tup5, _⟩ := J5.tuple (show SqT X.K H5 a ys from hys)
      refine tupEndH hot5 i5 (show s5.heap.IsTuple a its5.toArray from tup5) (by simp [← rv5.length]; omega) pj fun h6 x6 => ?_
      have J6 : Inv (X.blk { s1 with heap := h3 } H3 scope ce [j]) [p] (wipe σ (own.map (·.2))) H5 { s5 with heap := h6 } := J5.turned (t' := s5.toks) (fun b o hb e => x6 b o hb e) f5.1 f5.2.1 f5.2.2.2.1 f5.2.2.2.2.1 f5.2.2.2.2.2
      have J7 : Inv X pins σ H5 { s5 with heap := h6 } := J3.call' (ch := [j]) J6.os J6.base J6.hok J6.bare fun b hb => by
        rw [List.mem_singleton.mp hb]
        exact ⟨fj.2.2.2.1, fj.2.1, fj.2.2.2.2.1, fj.2.2.2.2.2⟩
      have nC : H5 h3.objs.size = none := eL ▸ (show H5 ce.locals = none from J6.free)
      obtain ⟨m, hn, _⟩ := J6.loc
      have hn : h6.Ns ce.locals m := hn
      obtain ⟨f0, f1, f2, f3, f4, f6⟩ := J3.fpOk (Nat.le_refl _) nC
      exact ⟨m, eL ▸ hn, fun h8 sb => ⟨.ref l, H5, J7.turned (t' := s5.toks) (fun b o hb e => (sb.2 b hb).trans e) f0 f1 f3 f4 f6, rfl, qq⟩⟩
    · obtain ⟨its5, rv5, tup5, _⟩ := J5.tuple (show SqT X.K H5 a ys from hys)
      obtain ⟨u, hu, ru⟩ := rv5.get hy
      refine wpAny_pyNext_tuple_item i5 (show s5.heap.IsTuple a its5.toArray from tup5) (x := u) (by simpa using hu) fun h6 i6 sb => ?_
      have J6 : Inv (X.blk { s1 with heap := h3 } H3 scope ce [j]) [p] (wipe σ (own.map (·.2))) H5 { s5 with heap := h6 } := J5.turned (t' := s5.toks) (fun b o hb e => (sb.2 b hb).trans e) f5.1 f5.2.1 f5.2.2.2.1 f5.2.2.2.2.1 f5.2.2.2.2.2
      obtain ⟨oj, g6, c6, d6⟩ := id i6
      refine go_of (s := { s5 with heap := h6 }) g6 c6 d6 (by decide) ?_
      have f6 := fjB J6 n5
      have J7 := J6.pinned (fp := [j]) (fun b hb => by rw [List.mem_singleton.mp hb]; exact f6) fun b hb => by
        rw [List.mem_singleton.mp hb]
        exact ⟨oj, g6, fun v z => by rw [d6] at z; cases z⟩
      refine thnF (pg.run _ _ _ H5 y u _ J7 ru (step y H5 ⟨rfl, fun zs hz => by rw [J6.tuple_inj (show SqT X.K H5 a zs from hz) hys]; exact hy⟩)) fun _ s8 ⟨σ8, H8, J8, hw8, q8⟩ => ?_
      refine thnF (pt.run _ s8 σ8 H8 _ J8 q8) fun b s9 ⟨H9, J9, q9⟩ => ?_
      have next : ∀ {s' : Shared} {H' : Hp}, Inv (X.blk { s1 with heap := h3 } H3 scope ce [j]) ([p] ++ pinsAt [j] h6) σ8 H' s' → Nx H' → ∃ m, m < n ∧ ∃ i H', Inv (X.blk { s1 with heap := h3 } H3 scope ce [j]) [p] (wipe σ (own.map (·.2))) H' s' ∧ s'.heap.IsTupleIter j a i ∧ H' j = none ∧ W i m H' := fun {s' H'} J' nx => by
        obtain ⟨m', hm, w'⟩ := hNx H' nx
        obtain ⟨g', n', _⟩ := J'.pin (j, oj) (List.mem_append_right _ (List.mem_append_right _ (mem_pinsAt List.mem_cons_self g6)))
        refine ⟨m', hm, i + 1, H', J'.unpinned.weak (by rw [← hw8, wipe_length]) fun k v e => ?_, ⟨oj, g', c6, d6⟩, n', w'⟩
        rw [← hw8] at e
        exact (wipe_some e).1
      cases b with
      | false => exact next J9 q9
      | true =>
        refine thnF (pe.run _ s9 σ8 H9 _ J9 q9) fun z s10 ⟨yv, H10, J10, r10, acc, hD, hz, nx⟩ => ?_
        exact app_ok (X := X.blk { s1 with heap := h3 } H3 scope ce [j]) J10 hD hz r10 fun s11 J11 => next J11 nx
  exact codeAny_compStart_list loop (wpAny_pyIter_tupleiter ⟨_, k4 _ _ gj3, rfl, rfl⟩ loop)
/-- KeyError('m'): its context is None -/
theorem pmk_keyN {N I : String} {m : Str} {j : Nat} {p p2 pos : Pos} (hc : ExcClass "KeyError" N I) (hg : Gl X "KeyError") (hm : X.mg "KeyError" = none) : L2N.PMk X (.Call (.Name "KeyError" p) [.Constant (.str m) j p2] [] pos) (fun _ H Q => ∀ d, Q (.type "KeyError") d H) := by
  intro pins s σ H Q I0 h
  refine wpAny_Call_Name_kw (ld_blt I0 hg hm boot_KeyError (PyProof.Rows.callWith_type1 (thn ((pa_cons pe_str pa_nil : PA X [.Constant (.str m) j p2] (tCons (tC (.str m)) tNil)).run pos pins s σ H (fun vs H1 => vs.length = 1 ∧ H1 = H) I0 ⟨rfl, rfl⟩) fun us s1 ⟨vs, H1, I1, r1, q0, q1⟩ => ?_) rfl rfl) (by decide) (by decide))
  subst q1
  refine PyProof.Rows.call_exc hc (fun h' a mk => ?_) (by rw [← r1.length, q0]; decide)
  obtain ⟨ob, t0, ha, hcls, hd⟩ := mk.there
  refine ⟨a, ob, _, s1, H1, .type "KeyError", ob.dict, rfl, I1, mk.keeps, mk.new, ha, ⟨hcls, rfl, fun vs e => ?_⟩, hd, rfl, I1.hok.gone mk.new, rfl, I1.bare, fun _ _ _ => ⟨PySem.W.Looks.of_pure hc.base, PySem.W.Looks.of_pure ty_KeyError⟩, h ob.dict⟩
  rw [hd] at e
  cases e
  rfl
end
end T34

/-! K34r -/
set_option maxHeartbeats 4000000
/-! == of two shots: tuples of data and one dict. -/
namespace T34
open PySem PySem.Spec PyProof.Rows L2
theorem pairs_mem {P : Program} {w : World} {es : List DictEntry} {kvs : List (L2.Key × Value)} (h : Pairs (mixKind P w) es kvs) : ∀ e ∈ es, ∃ p ∈ kvs, keyIs p.1 e.key = true := by
  induction h with
  | nil => exact fun e he => nomatch he
  | cons h1 _ _ ih => exact fun e he => (List.mem_cons.mp he).elim (fun z => z ▸ ⟨_, List.mem_cons_self, h1⟩) fun z => let ⟨p, hp, q⟩ := ih e z; ⟨p, List.mem_cons_of_mem _ hp, q⟩
/-- a dict whose keys are ints is one in every world -/
theorem dict_any {P P' : Program} {w w' : World} {h : Heap} {a : Addr} {kvs : List (L2.Key × Value)} (hd : h.DictOf (mixKind P w) a kvs) (hi : ∀ p ∈ kvs, ∃ i, p.1 = .inl i) : h.DictOf (mixKind P' w') a kvs := by
  obtain ⟨o, es, ep, g, ex, d, ks, pr, nd⟩ := hd
  refine ⟨o, es, ep, g, ex, d, fun e he => ?_, ?_, nd⟩
  · obtain ⟨k, hk, hh⟩ := ks e he
    obtain ⟨p, hp, hq⟩ := pairs_mem pr e (by simpa using he)
    obtain ⟨i, hi⟩ := hi p hp
    have ek : k = .inl i := ((mixKind P w).inj _ _ _ hk hq).trans hi
    subst ek
    exact ⟨_, hk, hh⟩
  · clear ks nd hi
    generalize es.toList = el at pr
    induction pr with
    | nil => exact .nil
    | cons h1 h2 _ ih => exact .cons h1 h2 ih
section
variable {X : Cx} {pins : List (Addr × Obj)} {σ : L2.St} {H : Hp} {s : Shared}
/-- the same data -/
def SameD (K : PySem.W.Frag) (H : Hp) (x y : V) : Prop := ∃ d, Dp K H x d ∧ Dp K H y d ∧ SeqAt.shaped d = true
theorem eqAt_data (I : Inv X pins σ H s) {x y : V} (h : SameD X.K H x y) {v u : Value} (rx : RelV x v) (ry : RelV y u) {A : Around} (hu : A.units + 64 < cLine) : SeqAt.EqAt A s v u true := by
  obtain ⟨d, h1, h2, sd⟩ := h
  obtain ⟨as, r1⟩ := Dp.reads I d x v h1 rx
  obtain ⟨bs, r2⟩ := Dp.reads I d y u h2 ry
  have c := SeqAt.canLay_of_shaped sd
  have q := SeqAt.eqAt_reads d d A s v u as bs r1 r2 c c (SeqAt.room_of_shaped sd hu)
  rw [SeqAt.eqv_refl d c] at q
  exact q
/-- two dicts with ints as keys -/
structure SameK (K : PySem.W.Frag) (H : Hp) (ks ls : List (L2.Key × V)) : Prop where
  len : ks.length = ls.length
  k1 : ∀ p ∈ ks, ∃ i, p.1 = .inl i
  k2 : ∀ p ∈ ls, ∃ i, p.1 = .inl i
  val : ∀ p ∈ ks, ∃ u, valV ls p.1 = some u ∧ SameD K H p.2 u
theorem keys_kv {ks : List (L2.Key × V)} {va : List (L2.Key × Value)} (r : KV ks va) (h : ∀ p ∈ ks, ∃ i, p.1 = .inl i) : ∀ p ∈ va, ∃ i, p.1 = .inl i := by
  unfold KV at r
  induction r with
  | nil => exact fun p hp => nomatch hp
  | @cons p q ps qs h1 _ ih =>
    intro p' hp'
    rcases List.mem_cons.mp hp' with rfl | z
    · obtain ⟨i, hi⟩ := h p List.mem_cons_self
      exact ⟨i, h1.1.symm.trans hi⟩
    · exact ih (fun p hp => h p (List.mem_cons_of_mem _ hp)) p' z
theorem eqAt_dict (I : Inv X pins σ H s) {a b : Addr} {ks ls : List (L2.Key × V)} (ha : H a = some (.dK ks)) (hb : H b = some (.dK ls)) (h : SameK X.K H ks ls) {A : Around} (hu : A.units + 65 < cLine) : SeqAt.EqAt A s (.ref a) (.ref b) true := by
  by_cases e : a = b
  · subst e
    exact SeqAt.EqAt.same _
  · obtain ⟨_, ya, va, ra, da⟩ := (show ObjOk X.prog X.w H s.heap a (.dK ks) from I.hok a _ ha)
    obtain ⟨_, yb, vb, rb, db⟩ := (show ObjOk X.prog X.w H s.heap b (.dK ls) from I.hok b _ hb)
    refine SeqAt.EqAt.of_refs e fun prog w E Q q => ?_
    refine PySem.W.rcP_dicts (knd := mixKind prog w) (r := true) ya yb (dict_any da (keys_kv ra h.k1)) (dict_any db (keys_kv rb h.k2)) (by omega) (fun _ => hits_run (F := SameD X.K H) (fun x y v u f rx ry => (eqAt_data I f rx ry (by show A.units + 1 + 64 < cLine; omega)).eqP) rb ra h.val) E Q ?_
    have el : va.length = vb.length := by rw [← ra.length, ← rb.length]; exact h.len
    rw [el, beq_self_eq_true]
    exact q
/-- (data, data, dict, int) twice -/
def rEqShot (K : PySem.W.Frag) : R2 := fun x y H Q => ∃ (a b p q : Addr) (v1 v2 u1 u2 : V) (n : Int) (ks ls : List (L2.Key × V)), x = .ref a ∧ y = .ref b ∧ SqT K H a [v1, v2, .ref p, .int n] ∧ SqT K H b [u1, u2, .ref q, .int n] ∧
  SameD K H v1 u1 ∧ SameD K H v2 u2 ∧ H p = some (.dK ks) ∧ H q = some (.dK ls) ∧ SameK K H ks ls ∧ Q (.bl true) H
theorem op_eqShot {j : Nat} {K : PySem.W.Frag} (hr : Room (j + 1) X.A) (hK : X.K = K := by rfl) : OpR X (compareOp .Eq) (rEqShot K) := by
  subst hK
  intro pins s σ H x y v u Q I rx ry h
  obtain ⟨a, b, p, q, v1, v2, u1, u2, n, ks, ls, rfl, rfl, h1, h2, s1, s2, hp, hq, sk, hQ⟩ := h
  cases rx
  cases ry
  have un := hr.un
  have hu : X.A.units + 66 < cLine := by omega
  obtain ⟨its, r1, t1, _⟩ := I.tuple h1
  obtain ⟨jts, r2, t2, _⟩ := I.tuple h2
  obtain ⟨w1, w2, w3, w4, rfl, q1, q2, q3, q4⟩ : ∃ w1 w2 w3 w4, its = [w1, w2, w3, w4] ∧ RelV v1 w1 ∧ RelV v2 w2 ∧ RelV (.ref p) w3 ∧ RelV (.int n) w4 := by
    cases r1 with
    | cons z1 rr => cases rr with
      | cons z2 rr => cases rr with
        | cons z3 rr => cases rr with
          | cons z4 rr => cases rr; exact ⟨_, _, _, _, rfl, z1, z2, z3, z4⟩
  obtain ⟨y1, y2, y3, y4, rfl, c1, c2, c3, c4⟩ : ∃ w1 w2 w3 w4, jts = [w1, w2, w3, w4] ∧ RelV u1 w1 ∧ RelV u2 w2 ∧ RelV (.ref q) w3 ∧ RelV (.int n) w4 := by
    cases r2 with
    | cons z1 rr => cases rr with
      | cons z2 rr => cases rr with
        | cons z3 rr => cases rr with
          | cons z4 rr => cases rr; exact ⟨_, _, _, _, rfl, z1, z2, z3, z4⟩
  obtain rfl : w3 = Value.ref p := q3
  obtain rfl : y3 = Value.ref q := c3
  obtain ⟨k4, rfl⟩ := q4
  obtain ⟨k5, rfl⟩ := c4
  have u1' : X.A.in1.units + 65 < cLine := by show X.A.units + 1 + 65 < cLine; omega
  refine SeqAt.eq_tupleAt (e := fun _ => true) (show s.heap.IsTuple a _ from t1) (show s.heap.IsTuple b _ from t2) (by omega) (fun k g1 g2 => ?_) ?_
  · have g : k < 4 := by simpa using g1
    match k, g with
    | 0, _ => exact eqAt_data I s1 q1 c1 (by omega)
    | 1, _ => exact eqAt_data I s2 q2 c2 (by omega)
    | 2, _ => exact eqAt_dict I hp hq sk u1'
    | 3, _ =>
      have z := SeqAt.EqAt.int_int (A := X.A.in1) (s := s) n k4 n k5
      rw [beq_self_eq_true] at z
      exact z
  · exact ⟨.bl true, H, I, rfl, hQ⟩
end
end T34

/-! Kd16 -/
set_option maxHeartbeats 4000000
namespace T34
open PySem PySem.Spec PyProof.Rows L2
local macro_rules | `(tactic| walk_at "ev") => `(tactic| (first
  | (with_reducible exact ev_c)
  | ((with_reducible refine' ev_var ?R ?h); (case R => assumption); (case h => rfl))
  | (with_reducible refine' ea_cons ?_ ?_)
  | (with_reducible exact ea_nil)
  | (with_reducible refine' ev_add ?_ ?_)
  | (with_reducible refine' ev_sub ?_ ?_)
  | (with_reducible refine' ev_mul ?_ ?_ ?_)
  | (with_reducible refine' ev_mod ?_ ?_ ?_)
  | (with_reducible refine' ev_div ?_ ?_ ?_)
  | (with_reducible refine' ev_lt ?_ ?_)
  | (with_reducible refine' ev_le ?_ ?_)
  | (with_reducible refine' ev_gt ?_ ?_)
  | (with_reducible refine' ev_ge ?_ ?_)
  | (with_reducible refine' ev_int ?_)
  | (with_reducible refine' ev_not ?_)
  | (with_reducible refine' ev_tup ?_)
  | (with_reducible refine' ev_between ?_ ?_ ?_)
  | (with_reducible refine' et_test ?_)
  | (with_reducible refine' et_B ?_)
  | (with_reducible refine' et_not ?_)))
section
variable {P : Program} {w : World} {K : PySem.W.Frag} {mg : Str → Option Value} {base : Heap} {a : Ad} {TT : List (Addr × Str)} {f : Addr} {fd : FuncData}
open LamX (Tabs)
theorem pi_tupK {X : Cx} {K : PySem.W.Frag} {tg l : Expr} {tl : TE} (hl : PE X l tl) (hK : X.K = K := by rfl) : PI X tg l (iTup K tl) := by
  subst hK
  exact pi_tup hl
/-! ### the bill -/
def trOf : D → Int × Str × Int
  | .tup [.at (.int p), .at (.str x), .at (.int z)] => (p, x, z)
  | _ => (0, "", 0)
def trD (b : Int × Str × Int) : D := .tup [di b.1, dz b.2.1, di b.2.2]
theorem trD_of {d : D} (h : TrOk d) : trD (trOf d) = d := by
  obtain ⟨p, x, z, rfl⟩ := h
  rfl
def wordsOf (past : List Ent) (k : Nat) : List Str := past.flatMap fun e => ((e.tr.map trOf).filter fun b => decide (b.1 = (k : Int))).map (·.2.1)
abbrev cntD (past : List Ent) (k : Nat) : D := .tup [di (cntS (wordsOf past k) "run" : Nat), di (cntS (wordsOf past k) "served" : Nat)]
def BillR (K : PySem.W.Frag) (FC : Addr → Prop) (H : Hp) (past : List Ent) (n : Nat) (kvs : List (L2.Key × V)) : Prop := kvs.length = n ∧ ∀ i, i < n → ∃ v, kvs[i]? = some (Sum.inl (i : Int), v) ∧ Rep K FC H (cntD past i) v
section
variable {FC : Addr → Prop} {past : List Ent} {n : Nat} {kvs ls : List (L2.Key × V)} {H H' : Hp}
theorem BillR.frz (h : BillR K FC H past n kvs) (z : Frz FC H H') : BillR K FC H' past n kvs := ⟨h.1, fun i hi => let ⟨v, h1, h2⟩ := h.2 i hi; ⟨v, h1, h2.frz z (.tup (.cons (.at _) (.cons (.at _) .nil)))⟩⟩
theorem BillR.key (h : BillR K FC H past n kvs) {p : L2.Key × V} (hp : p ∈ kvs) : ∃ i : Nat, i < n ∧ p.1 = Sum.inl (i : Int) ∧ Rep K FC H (cntD past i) p.2 := by
  obtain ⟨i, hi⟩ := List.getElem?_of_mem hp
  have lt := (List.getElem?_eq_some_iff.mp hi).1
  rw [h.1] at lt
  obtain ⟨v, h1, h2⟩ := h.2 i lt
  rw [hi] at h1
  cases h1
  exact ⟨i, lt, rfl, h2⟩
theorem BillR.none (h : BillR K FC H past n kvs) : valV kvs (Sum.inl (n : Int)) = none := by
  unfold valV
  rw [List.find?_eq_none.mpr fun p hp => ?_]
  · rfl
  · obtain ⟨i, hi, e, _⟩ := h.key hp
    rw [e]
    simp
    omega
theorem BillR.at (h : BillR K FC H past n kvs) {i : Nat} (hi : i < n) : ∃ v, valV kvs (Sum.inl (i : Int)) = some v ∧ Rep K FC H (cntD past i) v := by
  obtain ⟨v, h1, h2⟩ := h.2 i hi
  refine ⟨v, ?_, h2⟩
  obtain ⟨hl, e⟩ := List.getElem?_eq_some_iff.mp h1
  unfold valV
  rw [List.find?_eq_some_iff_getElem.mpr ⟨by simp, i, hl, e, fun j hj => ?_⟩]
  · rfl
  · have lj : j < n := Nat.lt_trans hj hi
    obtain ⟨w, h3, _⟩ := h.2 j lj
    obtain ⟨hl2, e2⟩ := List.getElem?_eq_some_iff.mp h3
    rw [e2]
    simp
    omega
theorem BillR.push (h : BillR K FC H past n kvs) {v : V} (r : Rep K FC H (cntD past n) v) : BillR K FC H past (n + 1) (kvs ++ [(Sum.inl (n : Int), v)]) := by
  refine ⟨by rw [List.length_append, h.1]; rfl, fun i hi => ?_⟩
  by_cases e : i < n
  · obtain ⟨w, h1, h2⟩ := h.2 i e
    exact ⟨w, by rw [List.getElem?_append_left (by rw [h.1]; exact e)]; exact h1, h2⟩
  · obtain rfl : i = n := by omega
    exact ⟨v, by rw [List.getElem?_append_right (by rw [h.1]; exact Nat.le_refl _), h.1, Nat.sub_self]; rfl, r⟩
theorem cnt_dp {k : Nat} {v : V} (r : Rep K FC H (cntD past k) v) : Dp K H v (.tuple [.int (cntS (wordsOf past k) "run" : Nat), .int (cntS (wordsOf past k) "served" : Nat)]) := (PyD.tup (.cons (.int _) (.cons (.int _) .nil))).dp r
theorem bills_same (h : BillR K FC H past n kvs) (h' : BillR K FC H past n ls) : SameK K H kvs ls := by
  refine ⟨h.1.trans h'.1.symm, fun p hp => let ⟨i, _, e, _⟩ := h.key hp; ⟨_, e⟩, fun p hp => let ⟨i, _, e, _⟩ := h'.key hp; ⟨_, e⟩, fun p hp => ?_⟩
  obtain ⟨i, hi, e, r⟩ := h.key hp
  obtain ⟨u, hu, ru⟩ := h'.at hi
  refine ⟨u, by rw [e]; exact hu, _, cnt_dp r, cnt_dp ru, by rfl⟩
end
theorem Reps.strs {FC : Addr → Prop} {H : Hp} : ∀ {ws : List Str} {us : List V}, Reps K FC H (ws.map dz) us → us = ws.map V.str
  | [], _, r => by cases r; rfl
  | x :: ws, _, r => by
    cases r with
    | cons r1 rr => rw [r1.at_inv, Reps.strs rr]; rfl
theorem ev_count {FC : Addr → Prop} {σ : L2.St} {H : Hp} {n : Nat} {p : Addr} {ws : List Str} {z : Str} (hs : σ[n]? = some (some (.ref p))) (hp : H p = some (.lst (ws.map V.str))) : EvD K FC (tBM K "list" rCountS (tVar n) (tCons (tC (.str z)) tNil)) σ H (di (cntS ws z : Nat)) := fun H1 e Q q =>
  ⟨_, hs, .inl ⟨rfl, _, SqL.of (e _ _ hp)⟩, p, ws, z, rfl, rfl, e _ _ hp, q _ H1 (Same.refl _) (.at _)⟩
theorem words_d (past : List Ent) (k : Nat) : (wordsOf past k).map dz = past.flatMap fun e => ((e.tr.map trOf).filter fun b => decide (b.1 = (k : Int))).map fun b => dz b.2.1 := by
  unfold wordsOf
  rw [List.map_flatMap]
  refine congrArg (fun g => List.flatMap g past) (funext fun e => ?_)
  rw [List.map_map]
  rfl
theorem bind_trip {FC : Addr → Prop} {vs : List Nat} {ρ : SD} {c d e : D} {i n m : Nat} (hi : i ∈ vs) (hn : n ∈ vs) (hm : m ∈ vs) : Bind K FC (gTup K 3 (gCons (gName i) (gCons (gName n) (gCons (gName m) gNil)))) (.tup [c, d, e]) vs ρ (((ρ.set i (some c)).set n (some d)).set m (some e)) := fun σ H x R r Q q => by
  obtain ⟨a, us, rfl, hs, rr⟩ := r.tup_inv
  cases rr with
  | cons r1 rr => cases rr with
    | cons r2 rr => cases rr with
      | cons r3 rr =>
        cases rr
        exact ⟨a, _, rfl, hs, rfl, _, _, rfl, _, _, rfl, _, _, rfl, rfl, q _ H (Same.refl H) (((R.set r1).set r2).set r3) (((wipe_set hm).trans (wipe_set hn)).trans (wipe_set hi))⟩
theorem words_len {pl : Pl} {st : Sto} {past : List Ent} (I : PastOk pl st past) (hl : past.length ≤ 24) : (past.flatMap fun e => e.tr.map trOf).length ≤ 10000000 := by
  have key : ∀ l : List Ent, (∀ e ∈ l, e.tr.length ≤ most) → (l.flatMap fun e => e.tr.map trOf).length ≤ l.length * most := fun l => by
    induction l with
    | nil => exact fun _ => Nat.zero_le _
    | cons e l ih =>
      intro h
      have h1 := h e List.mem_cons_self
      have h2 := ih fun e he => h e (List.mem_cons_of_mem _ he)
      rw [List.flatMap_cons, List.length_append, List.length_map, List.length_cons, Nat.add_mul]
      omega
  refine Nat.le_trans (key past fun e he => ?_) (Nat.le_trans (Nat.mul_le_mul_right _ hl) (by decide))
  obtain ⟨i, hi⟩ := List.getElem?_of_mem he
  exact (I.en i e hi).2.2.1
def spBill (K : PySem.W.Frag) (a : Ad) : Sp := fun vs H Q _ => ∃ (pl : Pl) (h dx : Addr) (st : Sto) (past : List Ent) (fl : Nat), vs = [.ref h] ∧ HsI K a pl h dx st past fl H ∧ past.length ≤ 24 ∧ ∀ p kvs H', Same H H' → H p = none → H' p = some (.dK kvs) → BillR K a.FC H' past pl.pls.length kvs → Q (.ref p) H'
abbrev s_House_bill : Stmt := inClass (top 47) 11
theorem sc_House_bill : FnScope ["self", "found", "place", "words", "row", "one", "word", "number"] ["self"] (defScope s_House_bill) := ⟨rfl, rfl, rfl, by decide +kernel, rfl, by decide +kernel, by decide +kernel⟩
theorem ok_Hbill (F : FnP K "bill" "House.bill" s_House_bill f fd) (T : Tx K w mg a) (c_len : LenP P w K mg base a) : FnOk P w K mg base CX0 5 f fd ["self"] (spBill K a) := by
  refine fnG0 F sc_House_bill (fun vs H Q E h => ?_) (fun cdv Ar outer s H E hr => ⟨_, (pss_cons (ps_set (i := 1) sc_House_bill.nd rfl (Or.inl rfl) pe_dnewK)
    (pss_cons (ps_for PassesOwn.never rfl (pi_range1 (by rfl) T.f_range (pa_cons (pe_callB (call_lenO c_len hr (by omega)) (by rfl) T.f_len (by decide +kernel) (pa_cons (pe_fldK (K := K) (pv 0)) pa_nil)) pa_nil)) (pg_name (i := 2) sc_House_bill.nd (by rfl) (.inr (by rfl)) (by first | exact .inl rfl | exact .inr rfl))
      (pss_cons (ps_setLc2 (i := 3) (own := [("row", 4), ("one", 5), ("word", 6), ("number", 7)]) (vs1 := [5, 6, 7]) rfl sc_House_bill.nd rfl rfl (sw_true rfl rfl rfl (by decide +kernel)) (pi_tup (pe_fldK (K := K) (pv 0))) (blkOk_by (own := [("row", 4), ("one", 5), ("word", 6), ("number", 7)]) (N := ["self", "found", "place", "words", "row", "one", "word", "number"]) (sc := defScope s_House_bill) (by decide +kernel)) (by decide) (fun _ _ _ _ _ => (pg_name (i := 4) sc_House_bill.nd (by rfl) (.inl (by rfl)) (by first | exact .inl rfl | exact .inr rfl))) (fun _ _ _ _ _ => pts_nil) (fun _ _ _ _ _ => (pi_tupK (K := K) (pe_ix (ix_tupK (K := K)) (pv 4) pe_int (fun _ _ => rfl)))) (fun _ _ _ _ _ => (pg_tupK (K := K) (n := 3) (by rfl) (pgs_cons (pg_name (i := 5) sc_House_bill.nd (by rfl) (.inl (by rfl)) (by first | exact .inl rfl | exact .inr rfl)) (pgs_cons (pg_name (i := 6) sc_House_bill.nd (by rfl) (.inl (by rfl)) (by first | exact .inl rfl | exact .inr rfl)) (pgs_cons (pg_name (i := 7) sc_House_bill.nd (by rfl) (.inl (by rfl)) (by first | exact .inl rfl | exact .inr rfl)) pgs_nil))))) (fun _ _ _ _ _ => (pts_one (pt_cmpR op_eq (pv 5) (pv 2) (nomark _)))) (fun _ _ _ _ _ => (pv 6)))
    (pss_one (ps_dput (hu_of hr) (pv 1) (pv 2) (pe_tup (pa_cons (pe_bm PySem.F.plainAttrs_list PySem.F.slot_list_count PySem.F.type_list_count mt_countS (pv 3) (pa_cons pe_str pa_nil)) (pa_cons (pe_bm PySem.F.plainAttrs_list PySem.F.slot_list_count PySem.F.type_list_count mt_countS (pv 3) (pa_cons pe_str pa_nil)) pa_nil))) rfl))))
    (pss_one (ps_ret (pv 1))))), ?_⟩)
  · obtain ⟨pl, h, dx, st, past, fl, rfl, _⟩ := h
    rfl
  · rintro vs Q ⟨pl, h, dx, st, past, fl, rfl, I, hl, q⟩
    have n2 := I.po.ok.n2
    have R : RepE K a.FC H [some (.at (.ref h)), none, none, none, none, none, none, none] (start ["self", "found", "place", "words", "row", "one", "word", "number"] [.ref h]) := RepE.start (N := ["self", "found", "place", "words", "row", "one", "word", "number"]) (ds := [.at (.ref h)]) (.cons (.at _) .nil)
    refine st_seq fun p hp => ?_
    dsimp only
    have e1 : Same H (upd H p (.dK [])) := Same.new hp
    have R1 : RepE K a.FC (upd H p (.dK [])) [some (.at (.ref h)), some (.at (.ref p)), none, none, none, none, none, none] _ := (R.mono e1).set (i := 1) (.at (.ref p))
    obtain ⟨σ1, hσ⟩ : ∃ σ1 : L2.St, σ1 = (start ["self", "found", "place", "words", "row", "one", "word", "number"] [.ref h]).set 1 (some (.ref p)) := ⟨_, rfl⟩
    rw [← hσ] at R1
    show tSeq _ _ _ ((start ["self", "found", "place", "words", "row", "one", "word", "number"] [.ref h]).set 1 (some (.ref p))) _
    rw [← hσ]
    refine st_seq (st_forZ (evz_range (n := pl.pls.length) (ea_cons (ev_lenO (ev_source T (I.same e1) R1 (n := 0) rfl) ⟨pl, rfl, rfl⟩ (by omega)) ea_nil)) fun H2 e2 => ⟨fun i σ' H' => Frz a.FC H2 H' ∧ Same H H' ∧ ∃ kvs, H' p = some (.dK kvs) ∧ BillR K a.FC H' past i kvs ∧ RepE K a.FC H' [some (.at (.ref h)), some (.at (.ref p)), none, none, none, none, none, none] σ',
      ⟨Frz.refl _, e1.trans e2, [], e2 _ _ upd_same, ⟨rfl, fun i hi => absurd hi (Nat.not_lt_zero _)⟩, R1.mono e2⟩, fun i σ' H' h => h.1, ?_, ?_⟩)
    · rintro i d x σ3 H3 H4 hd ⟨z3, s3, kvs, hp3, br, R3⟩ e4 rd
      have hi : i < pl.pls.length := by
        have := (List.getElem?_eq_some_iff.mp hd).1
        rwa [List.length_map, List.length_range] at this
      rw [List.getElem?_map, List.getElem?_range hi] at hd
      cases hd
      cases rd.at_inv
      have R4 : RepE K a.FC H4 [some (.at (.ref h)), some (.at (.ref p)), some (di (i : Int)), none, none, none, none, none] (σ3.set 2 (some (.int (i : Int)))) := (R3.mono e4).set (i := 2) (.at _)
      have s4 := s3.trans e4
      have I4 := I.same s4
      have hp4 := e4 _ _ hp3
      refine st_seq (st_setL (n := 3) R4 (el_lc2 (α := Ent) (β := Int × Str × Int) (xs := past) (dof := entD) (ys := fun e => e.tr.map trOf) (eof := trD) (p := fun b => decide (b.1 = (i : Int))) (f := fun b => dz b.2.1) R4 (evi_tup (ev_past T I4 R4 (n := 0) rfl)) (fun e _ => bind_name (by decide)) (fun e he σ5 H5 R5 => ?_) (fun e he d hd => ?_)
        (fun e _ b _ => bind_trip (by decide) (by decide) (by decide)) (fun e _ b _ σ5 H5 R5 => ?_) (fun e _ b _ σ5 H5 R5 => ev_var R5 rfl) (fun e _ b _ => .at _) (words_len I.po hl)) fun l us H5 nl e5 hl5 r5 R5 => ?_)
      · have htr : ∀ d ∈ e.tr, TrOk d := by
          obtain ⟨j, hj⟩ := List.getElem?_of_mem he
          exact (I.po.en j e hj).2.1
        have tr : (e.tr.map trOf).map trD = e.tr := by
          rw [List.map_map]
          exact (List.map_congr_left fun d hd => trD_of (htr d hd)).trans (List.map_id _)
        rw [tr]
        exact evz_tup (ev_ixT (ev_var R5 rfl) ev_c rfl) (.of fun d hd => (htr d hd).noL)
      · have htr : ∀ d ∈ e.tr, TrOk d := by
          obtain ⟨j, hj⟩ := List.getElem?_of_mem he
          exact (I.po.en j e hj).2.1
        have hd : some d ∈ ([some (.at (.ref h)), some (.at (.ref p)), some (di (i : Int)), none, some (entD e), none, none, none] : SD) := hd
        simp at hd
        rcases hd with rfl | rfl | rfl | rfl
        · exact .at _
        · exact .at _
        · exact .at _
        · exact entD_noL htr
      · exact (et_test (ev_eq (ev_var R5 rfl) (ev_var R5 rfl) rfl)).to (decide_eq_decide.mpr ⟨fun h => V.int.inj h, fun h => congrArg V.int h⟩)
      · dsimp only
        have hw : us = (wordsOf past i).map V.str := by
          rw [← words_d] at r5
          exact r5.strs
        subst hw
        have c1 := ev_count (K := K) (FC := a.FC) (z := "run") (R5.ref (i := 3) rfl) hl5
        have c2 := ev_count (K := K) (FC := a.FC) (z := "served") (R5.ref (i := 3) rfl) hl5
        refine (ev_tup (ea_cons c1 (ea_cons c2 ea_nil)) (by show 2 ≤ sizeLine; decide)).go fun v H6 e6 r6 => ?_
        have hp6 := e6 _ _ (e5 _ _ hp4)
        refine ⟨.ref p, R5.ref (i := 1) rfl, .int (i : Int), R5.ref (i := 2) rfl, p, _, rfl, DPut.k (k := Sum.inl (i : Int)) hp6 (by rw [br.1]; exact Nat.lt_of_lt_of_le hi (Nat.le_trans (show pl.pls.length ≤ 3 by omega) (by decide))), ?_⟩
        have s6 := (s4.trans e5).trans e6
        have z6 : Frz a.FC H6 (upd H6 p (.dK (putK kvs (Sum.inl (i : Int)) v))) := Frz.upd_dK hp6
        have e46 := (e4.trans e5).trans e6
        have R6 : RepE K a.FC (upd H6 p (.dK (putK kvs (Sum.inl (i : Int)) v))) [some (.at (.ref h)), some (.at (.ref p)), none, none, none, none, none, none] _ := ((((R5.mono e6).drop0 3).drop0 2).frz z6 fun d hd => by
          have hd : some d ∈ ([some (.at (.ref h)), some (.at (.ref p)), none, none, none, none, none, none] : SD) := hd
          simp at hd
          rcases hd with rfl | rfl
          · exact .at _
          · exact .at _)
        refine ⟨(z3.trans (Same.frz e46)).trans z6, Same.mut s6 hp, _, upd_same, ?_, R6⟩
        rw [putK_new _ br.none]
        have br6 := ((br.frz (Same.frz e46)).push r6).frz z6
        rw [putK_new _ br.none] at br6
        exact br6
    · rw [List.length_map, List.length_range]
      rintro σ3 H3 ⟨z3, s3, kvs, hp3, br, R3⟩
      dsimp only
      exact ⟨.ref p, R3.ref (i := 1) rfl, q p kvs H3 s3 hp hp3 br⟩
end
end T34

/-! K34s -/
set_option maxHeartbeats 4000000
/-! Calls that may raise, the wish by the slots. -/
namespace T34
open PySem PySem.Spec PyProof.Rows L2
/-- a method's promise, with exceptions -/
structure MetN (P : Program) (w : World) (K : PySem.W.Frag) (mg : Str → Option Value) (base : Heap) (k : Nat) (C : Addr) (m : Str) (sp : Sp) : Prop where
  ex : ∃ (f : Addr) (fd : FuncData) (ps : List Str), Cls K C ∧ Meth K C m f ∧ FnOk P w K mg base (L2N.CX P w) k f fd ps sp ∧ Binds K fd ps []
def tCallVS (P : Program) (w : World) (K : PySem.W.Frag) (mg : Str → Option Value) (base : Heap) (CX : CXT) (kc i : Nat) (E : L2.St → XK) (t : TA) : TE := fun σ H Q => ∃ f, σ[i]? = some (some (.ref f)) ∧ FnPin H f ∧ t σ H fun vs H1 => FnPin H1 f ∧ ∃ sp, FnR P w K mg base CX kc f sp ∧ sp vs H1 Q (E σ)
def tMethE (C : Addr) (m : Str) (sp : Sp) (E : L2.St → XK) (ta : TE) : TE := fun σ H Q => ta σ H fun x H1 => ∃ a dx fs, x = .ref a ∧ H1 a = some (.ins C dx fs) ∧ fs.lookup m = none ∧ sp [.ref a] H1 Q (E σ)
section
variable {X : Cx}
theorem pe_callVS {P : Program} {w : World} {K : PySem.W.Frag} {mg : Str → Option Value} {base : Heap} {CX : CXT} {kc j i : Nat} {E : L2.St → XK} {a : Str} {e : Expr} {es : List Expr} {t : TA} {p pos : Pos} (hr : Room j X.A) (hk : kc ≤ j) (hx : ∀ σ, PassesAt CX X σ (E σ)) (hN : X.N[i]? = some a) (hv : Vis X.env.scope a) (ha : PA X (e :: es) t) (h1 : X.prog = P := by rfl) (h2 : X.w = w := by rfl) (h3 : X.K = K := by rfl) (h4 : X.mg = mg := by rfl) (h5 : X.base = base := by rfl)
    (hd : (a == ("__debug__" : Str)) = false := by decide) (hcd : (a == ("__classdict__" : Str)) = false := by decide) (he : starEach (e :: es) X.env = (false, eval e X.env) :: starEach es X.env := by rfl) (hpl : (backTo pos (starEach es X.env)).any (·.1) = false := by rfl) :
    PE X (.Call (.Name a p) (e :: es) [] pos) (tCallVS P w K mg base CX kc i E t) := by
  subst h1 h2 h3 h4 h5
  refine ⟨fun pins s σ H Q I ⟨f, hs, hp, h⟩ => ?_⟩
  refine wpAny_Call_Name_kw (thn ((pe_var (pos := p) hN hv hd hcd).run pins s σ H (fun v H1 => v = .ref f ∧ H1 = H) I ⟨.ref f, hs, rfl, rfl⟩) fun u s1 ⟨v, H1, I1, r1, q1⟩ => ?_)
  obtain ⟨rfl, rfl⟩ := q1
  obtain rfl : u = Value.ref f := r1
  refine PySem.W.callWith_F (fnPin_at I1 hp) (thn (ha.run pos pins s1 σ _ _ I1 h) fun us s2 ⟨vs, H2, I2, r, hp2, sp, F, q⟩ => ⟨fnPin_at I2 hp2, ?_⟩) he hpl
  refine wpAny_call (codeAny_mono (F X.A X.stack s2 H2 us vs Q (E σ) (hr.mono hk) I2.env0 r q) fun r s' hq => ?_)
  cases r with
  | error e => exact hx σ pins H2 s2 e s' I2 hq
  | ok fl =>
    cases fl with
    | ret u => exact I2.after hq
    | next => exact hq.elim
    | brk => exact hq.elim
    | cont => exact hq.elim
/-- o.m(), m may raise -/
theorem pe_methE {pl : Sem Bool} {k j : Nat} {C : Addr} {m : Str} {sp : Sp} {E : L2.St → XK} {o : Expr} {ta : TE} {apos pos : Pos} (c : MetN X.prog X.w X.K X.mg X.base k C m sp) (hr : Room j X.A) (hk : k ≤ j) (hx : ∀ σ, PassesAt (L2N.CX X.prog X.w) X σ (E σ)) (he : PE X o ta)
    (ht : eval (.Call (.Attribute o m apos) [] [] pos) X.env = (do
      let ov ← eval o X.env
      standAt apos.atName
      let (f, first) ← holding [ov] (getMethod ov m pl)
      callWith pos f first (backTo pos (starEach [] X.env)) (backToKw pos (keywordEach [] X.env))) := by rfl) :
    PE X (.Call (.Attribute o m apos) [] [] pos) (tMethE C m sp E ta) := by
  obtain ⟨g, fd, ps, hc, hm, F, hb⟩ := c.ex
  refine ⟨fun pins s σ H Q I h => ?_⟩
  refine PySem.W.methodCall_KW (pl := pl) (thn (he.run pins s σ H _ I h) fun u s1 ⟨x, H1, I1, rx, a, dx, fs, ex, ea, l, q⟩ => ?_) ht
  subst ex
  obtain rfl : u = Value.ref a := rx
  refine getmeth_ok I1 ea hc hm l ?_
  exact PySem.W.callWith_K0 (first := [.ref a]) I1.kIn hm.kp (run_fnS (us := [.ref a]) (vs := [.ref a]) F (hr.mono hk) hb (hx σ) I1 (.cons rfl .nil) q)
end
/-- a global def's promise, with exceptions -/
structure CalN (P : Program) (w : World) (K : PySem.W.Frag) (mg : Str → Option Value) (base : Heap) (k : Nat) (x : Str) (sp : Sp) : Prop where
  ex : ∃ (f : Addr) (fd : FuncData) (ps : List Str), FnOk P w K mg base (L2N.CX P w) k f fd ps sp ∧ mg x = some (.ref f) ∧ PySem.W.keepIn K (.ref f) = true ∧ Binds K fd ps []
theorem pe_callE {X : Cx} {k j : Nat} {x : Str} {sp : Sp} {E : L2.St → XK} {e : Expr} {es : List Expr} {t : TA} {p pos : Pos} (c : CalN X.prog X.w X.K X.mg X.base k x sp) (hr : Room j X.A) (hk : k ≤ j) (hx : ∀ σ, PassesAt (L2N.CX X.prog X.w) X σ (E σ)) (hg : Gl X x) (ha : PA X (e :: es) t)
    (hdb : (x == ("__debug__" : Str)) = false := by decide) (he : starEach (e :: es) X.env = (false, eval e X.env) :: starEach es X.env := by rfl) (hpl : (backTo pos (starEach es X.env)).any (·.1) = false := by rfl) : PE X (.Call (.Name x p) (e :: es) [] pos) (tCallS sp E t) := by
  obtain ⟨f, fd, ps, F, hm, kp, hb⟩ := c.ex
  exact pe_callS F (hr.mono hk) hg hm kp hb hx ha hdb he hpl
/-- what a def's body may let out -/
theorem takesN {P : Program} {w : World} {K : PySem.W.Frag} {mg : Str → Option Value} {base : Heap} {N : List Str} {qual : Str} {scope : Scope} {f : Addr} {cd : Value} {A : Around} {outer : List Env} {s : Shared} {H : Hp} {E : XK} :
    L2N.Takes (cxOf (L2N.CX P w) P w K mg base N qual scope f cd A outer s H E) (fun cls d _ H => E cls d H) := L2N.takes_of rfl rfl rfl rfl
theorem takesC {P : Program} {w : World} {K : PySem.W.Frag} {mg : Str → Option Value} {base : Heap} {N : List Str} {q : Str} {scope : Scope} {f c' : Addr} {cl : List (Str × Addr)} {A : Around} {outer : List Env} {s : Shared} {H : Hp} {E : XK} :
    L2N.Takes (cloCx P w K mg base N q scope f c' cl A outer s H E) (fun cls d _ H => E cls d H) := L2N.takes_of rfl rfl rfl rfl
end T34

/-! Kd17 -/
set_option maxHeartbeats 4000000
namespace T34
open PySem PySem.Spec PyProof.Rows L2
local macro_rules | `(tactic| walk_at "ev") => `(tactic| (first
  | (with_reducible exact ev_c)
  | ((with_reducible refine' ev_var ?R ?h); (case R => assumption); (case h => rfl))
  | (with_reducible refine' ea_cons ?_ ?_)
  | (with_reducible exact ea_nil)
  | (with_reducible refine' ev_add ?_ ?_)
  | (with_reducible refine' ev_sub ?_ ?_)
  | (with_reducible refine' ev_mul ?_ ?_ ?_)
  | (with_reducible refine' ev_mod ?_ ?_ ?_)
  | (with_reducible refine' ev_div ?_ ?_ ?_)
  | (with_reducible refine' ev_lt ?_ ?_)
  | (with_reducible refine' ev_le ?_ ?_)
  | (with_reducible refine' ev_gt ?_ ?_)
  | (with_reducible refine' ev_ge ?_ ?_)
  | (with_reducible refine' ev_int ?_)
  | (with_reducible refine' ev_not ?_)
  | (with_reducible refine' ev_tup ?_)
  | (with_reducible refine' ev_between ?_ ?_ ?_)
  | (with_reducible refine' et_test ?_)
  | (with_reducible refine' et_B ?_)
  | (with_reducible refine' et_not ?_)))
section
variable {P : Program} {w : World} {K : PySem.W.Frag} {mg : Str → Option Value} {base : Heap} {a : Ad} {TT : List (Addr × Str)} {f : Addr} {fd : FuncData}
open LamX (Tabs)
/-! ### a branch -/
def spBranch (K : PySem.W.Frag) (a : Ad) : Sp := fun vs H Q _ => ∃ (pl : Pl) (h dx : Addr) (st : Sto) (past : List Ent) (fl : Nat), vs = [.ref h] ∧ HsI K a pl h dx st past fl H ∧ ∀ h2 dx2 H', H h2 = none → Same H H' → HsI K a pl h2 dx2 st past 0 H' → Q (.ref h2) H'
abbrev s_House_branch : Stmt := inClass (top 47) 13
theorem sc_House_branch : FnScope ["self", "other"] ["self"] (defScope s_House_branch) := ⟨rfl, rfl, rfl, by decide +kernel, rfl, by decide +kernel, by decide +kernel⟩
theorem ok_Hbranch (F : FnP K "branch" "House.branch" s_House_branch f fd) (T : Tx K w mg a) (c_House : C8.Mak P w K mg base 6 "House" a.CH (spHinit K a) []) : FnOk P w K mg base CX0 8 f fd ["self"] (spBranch K a) := by
  refine fnG0 F sc_House_branch (fun vs H Q E h => ?_) (fun cdv Ar outer s H E hr => ⟨_, (pss_cons (ps_set (i := 1) sc_House_branch.nd rfl (Or.inl rfl) (C8.pe_mk c_House hr (by omega) (by rfl) (pa_cons (pe_fldK (K := K) (pv 0)) pa_nil)))
    (pss_cons (ps_asg (pe_tup (pa_cons (pe_fldK (K := K) (pv 0)) (pa_cons (pe_fldK (K := K) (pv 0)) pa_nil))) (pg_tupK (K := K) (n := 2) (by rfl) (pgs_cons (pg_fld (K := K) (pv 1)) (pgs_cons (pg_fld (K := K) (pv 1)) pgs_nil))))
    (pss_one (ps_ret (pv 1))))), ?_⟩)
  · obtain ⟨pl, h, dx, st, past, fl, rfl, _⟩ := h
    rfl
  · rintro vs Q ⟨pl, h, dx, st, past, fl, rfl, I, q⟩
    have R : RepE K a.FC H [some (.at (.ref h)), none] (start ["self", "other"] [.ref h]) := RepE.start (N := ["self", "other"]) (ds := [.at (.ref h)]) (.cons (.at _) .nil)
    refine st_asg ?_
    refine (ea_cons (ev_source T I R (n := 0) rfl) ea_nil : EvA K a.FC _ _ H [pl.d a]).go fun vs1 H1 e1 r1 x dx2 hx hdx ne => ?_
    obtain ⟨vp, rfl, rp⟩ : ∃ vp, vs1 = [vp] ∧ Rep K a.FC H1 (pl.d a) vp := by
      cases r1 with
      | cons r rr => cases rr; exact ⟨_, rfl, r⟩
    have sM : Same H1 (upd (upd H1 dx2 (.own x)) x (.ins a.CH dx2 [])) := (Same.new hdx).trans (Same.new (by rw [upd_ne (Ne.symm ne)]; exact hx))
    refine ⟨x, dx2, pl, vp, rfl, upd_same, rp.mono sM, I.po.ok, fun H4 I4 keep => ⟨rfl, ?_⟩⟩
    have e4 : Same H1 H4 := fun b o e => keep b o (sM b o e) (fun z => by rw [z, hx] at e; cases e)
    have e04 := e1.trans e4
    have hx0 : H x = none := fresh_back e1 hx
    have J4 := I.same e04
    have R4 : RepE K a.FC H4 [some (.at (.ref h)), some (.at (.ref x))] _ := (R.mono e04).set (i := 1) (.at (.ref x))
    obtain ⟨σ4, hσ4⟩ : ∃ σ4 : L2.St, σ4 = (start ["self", "other"] [.ref h]).set 1 (some (.ref x)) := ⟨_, rfl⟩
    show tSeq _ _ _ ((start ["self", "other"] [.ref h]).set 1 (some (.ref x))) H4
    rw [← hσ4] at R4 ⊢
    refine st_asg ?_
    refine (ev_tup (ea_cons (ev_heldH T J4 R4 (n := 0) rfl) (ea_cons (ev_past T J4 R4 (n := 0) rfl) ea_nil)) (by show 2 ≤ sizeLine; decide)).go fun v5 H5 e5 r5 => ?_
    obtain ⟨ar, us, rfl, hs, rr⟩ := r5.tup_inv
    obtain ⟨w1, w2, rfl, q1, q2⟩ : ∃ w1 w2, us = [w1, w2] ∧ Rep K a.FC H5 st.d w1 ∧ Rep K a.FC H5 (.tup (past.map entD)) w2 := by
      cases rr with
      | cons r1 rr =>
        cases rr with
        | cons r2 rr => cases rr; exact ⟨_, _, rfl, r1, r2⟩
    obtain ⟨vp5, vh5, vq5, g1, g2, g3, g4⟩ := (I4.same e5).ex
    have s1 := R4.ref (i := 1) rfl
    have hu : upd H5 x (.ins a.CH dx2 (putF "held" w1 [("source", vp5), ("held", vh5), ("past", vq5), ("floor", .int ((0 : Nat) : Int))])) x = some (.ins a.CH dx2 [("source", vp5), ("held", w1), ("past", vq5), ("floor", .int ((0 : Nat) : Int))]) := upd_same
    refine ⟨ar, _, rfl, hs, rfl, _, _, rfl, ⟨.ref x, s1, x, a.CH, dx2, _, rfl, g1, T.oH.cl, T.nHheld, (by show 4 < 1000; decide), _, _, rfl, ⟨.ref x, s1, x, a.CH, dx2, _, rfl, hu, T.oH.cl, T.nHpast, (by show 4 < 1000; decide), rfl, ?_⟩⟩⟩
    dsimp only
    have e05 := e04.trans e5
    have z1 : Frz a.FC H5 (upd (upd H5 x (.ins a.CH dx2 (putF "held" w1 [("source", vp5), ("held", vh5), ("past", vq5), ("floor", .int ((0 : Nat) : Int))]))) x (.ins a.CH dx2 (putF "past" w2 [("source", vp5), ("held", w1), ("past", vq5), ("floor", .int ((0 : Nat) : Int))]))) := (Frz.upd_ins g1 T.nHF).trans (Frz.upd_ins hu T.nHF)
    refine ⟨.ref x, s1, q x dx2 _ hx0 (Same.mut (Same.mut e05 hx0) hx0) ⟨⟨vp5, w1, w2, upd_same, g2.frz z1 (pl.noL a), q1.frz z1 st.noL, q2.frz z1 (.tup I.po.noL)⟩, I.po⟩⟩
/-! ### the last deed is taken back -/
theorem ev_neg {FC : Addr → Prop} {σ : L2.St} {H : Hp} {ta : TE} {i : Int} (ha : EvD K FC ta σ H (di i)) : EvD K FC (tUn (rU fun i => .int (-i)) ta) σ H (di (-i)) := fun H1 e Q q => ha H1 e _ fun v H2 e2 r => ⟨i, r.at_inv, q _ H2 e2 (.at _)⟩
theorem atI_last {α : Type} (xs : List α) (x : α) : atI (xs ++ [x]) (-1) = some x := by
  have h : ixN (xs ++ [x]).length (-1) = some xs.length := by
    rw [List.length_append, List.length_singleton]
    unfold ixN
    rw [if_neg (by decide), if_pos (by omega)]
    exact congrArg some (by omega)
  unfold atI
  rw [h]
  show (xs ++ [x])[xs.length]? = some x
  rw [List.getElem?_append_right (Nat.le_refl _), Nat.sub_self]
  rfl
theorem cutD_last {α : Type} (xs : List α) (x : α) : cutD (xs ++ [x]) none (some (-1)) = xs := by
  unfold cutD
  have h : HT.sIx (xs ++ [x]).length (xs ++ [x]).length (some (-1)) = xs.length := by
    rw [List.length_append, List.length_singleton]
    show (if (-1 : Int) < 0 then ((-1 : Int) + ((xs.length + 1 : Nat) : Int)).toNat else min (-1 : Int).toNat (xs.length + 1)) = xs.length
    rw [if_pos (by decide)]
    omega
  rw [h, HT.sIx_none, List.drop_zero, Nat.sub_zero, List.take_left]
structure ExN (K : PySem.W.Frag) (mg : Str → Option Value) (CN : Addr) : Prop where
  g : mg "NothingDone" = some (.ref CN)
  kp : PySem.W.keepIn K (.ref CN) = true
  ex : ∃ (B newId initId : String) (bmB : List Value), ExcBaseFacts B newId initId bmB ∧ PySem.W.excIn K CN bmB newId = true
  sub : PySem.W.subIn K (.ref CN) (.type "BaseException") = some true
  ty : PySem.W.typeIn K (.ref CN) = some (.type "type")
  nn : PySem.W.exmOne K (.ref CN) (.ref CN) = some true
  nk : PySem.W.exmOne K (.ref CN) (.type "KeyError") = some false
theorem ps_nothing {X : Cx} {W : WX} {CN : Addr} {m : Str} {j : Nat} {p p2 pos pos' : Pos} (N : ExN X.K X.mg CN) (hc : X.calm = true) (tk : L2N.Takes X W) (hg : Gl X "NothingDone") : PS X (.Raise (some (.Call (.Name "NothingDone" p) [.Constant (.str m) j p2] [] pos)) none pos') (fun _ σ H => W (.ref CN) none σ H) := by
  obtain ⟨B, newId, initId, bmB, F, q⟩ := N.ex
  exact L2N.ps_raise hc tk (L2N.pmk_own F q N.g N.kp (raises_own N.sub N.ty) hg)
def spUndo (K : PySem.W.Frag) (a : Ad) (CN : Addr) (TT : List (Addr × Str)) : Sp := fun vs H Q E => ∃ (pl : Pl) (h dx : Addr) (st : Sto) (past : List Ent) (fl : Nat), vs = [.ref h] ∧ HsI K a pl h dx st past fl H ∧ past.length ≤ 24 ∧ Tabs TT H ∧
  (past.length ≤ fl → ∀ H', Same H H' → E (.ref CN) none H') ∧ (fl < past.length → ∀ past' e v H', past = past' ++ [e] → HsI K a pl h dx e.st past' fl H' → KeepX [h] H H' → Frz a.FC H H' → Tabs TT H' → Rep K a.FC H' (jouD e) v → Q v H')
abbrev s_House_undo : Stmt := inClass (top 47) 12
theorem sc_House_undo : FnScope ["self", "entry", "trace"] ["self"] (defScope s_House_undo) := ⟨rfl, rfl, rfl, by decide +kernel, rfl, by decide +kernel, by decide +kernel⟩
theorem ok_Hundo {CN : Addr} (F : FnP K "undo" "House.undo" s_House_undo f fd) (T : Tx K w mg a) (N : ExN K mg CN) : FnOk P w K mg base (L2N.CX P w) 2 f fd ["self"] (spUndo K a CN TT) := by
  refine fnG F sc_House_undo (fun vs H Q E h => ?_) (fun cdv Ar outer s H E hr => ⟨_, (pss_cons (ps_if (pt_cmpR op_le (pe_callB (call_lenK (K := K)) (by rfl) T.f_len (by decide +kernel) (pa_cons (pe_fldK (K := K) (pv 0)) pa_nil)) (pe_fldK (K := K) (pv 0)) (nomark _)) (pss_one (ps_nothing N rfl takesN (by rfl))) pss_nil)
    (pss_cons (ps_asg (pe_ix (ix_tupK (K := K)) (pe_fldK (K := K) (pv 0)) (pe_un un_neg pe_int) (fun _ _ => rfl)) (pg_tupK (K := K) (n := 3) (by rfl) (pgs_cons (pg_name (i := 1) sc_House_undo.nd (by rfl) (.inl (by rfl)) (by first | exact .inl rfl | exact .inr rfl)) (pgs_cons (pg_fld (K := K) (pv 0)) (pgs_cons (pg_name (i := 2) sc_House_undo.nd (by rfl) (.inl (by rfl)) (by first | exact .inl rfl | exact .inr rfl)) pgs_nil)))))
    (pss_cons (ps_fld (pv 0) (pe_slice (sl_tupK (K := K)) (pe_fldK (K := K) (pv 0)) po_none (po_some (pe_un un_neg pe_int))) rfl)
    (pss_one (ps_ret (pv 1)))))), ?_⟩)
  · obtain ⟨pl, h, dx, st, past, fl, rfl, _⟩ := h
    rfl
  · rintro vs Q ⟨pl, h, dx, st, past, fl, rfl, I, hl, tb, q1, q2⟩
    have R : RepE K a.FC H [some (.at (.ref h)), none, none] (start ["self", "entry", "trace"] [.ref h]) := RepE.start (N := ["self", "entry", "trace"]) (ds := [.at (.ref h)]) (.cons (.at _) .nil)
    obtain ⟨σS, hσS⟩ : ∃ σS : L2.St, σS = start ["self", "entry", "trace"] [.ref h] := ⟨_, rfl⟩
    rw [← hσS] at R ⊢
    have ht := (et_test (ev_le (ev_lenT (ev_past T I R (n := 0) rfl)) (ev_floor T I R (n := 0) rfl)))
    by_cases hle : past.length ≤ fl
    · refine st_seq (st_yes (ht.to (by rw [List.length_map]; exact decide_eq_true (Int.ofNat_le.mpr hle))) fun H1 e1 => ?_)
      exact q1 hle H1 e1
    · refine st_skipS (ht.to (by rw [List.length_map]; exact decide_eq_false fun z => hle (Int.ofNat_le.mp z))) fun H1 e1 => ?_
      have lt : fl < past.length := by omega
      obtain ⟨past', e, rfl⟩ : ∃ past' e, past = past' ++ [e] := by
        rcases List.eq_nil_or_concat past with rfl | ⟨l, x, rfl⟩
        · exact absurd lt (Nat.not_lt_zero _)
        · exact ⟨l, x, by simp⟩
      have R1 := R.mono e1
      have I1 := I.same e1
      refine st_asg ?_
      refine (ev_ixT (ev_past T I1 R1 (n := 0) rfl) (ev_neg (ev_c (v := .int 1))) (by rw [List.map_append]; exact atI_last _ _)).go fun v2 H2 e2 r2 => ?_
      obtain ⟨ar, us, rfl, hs, rr⟩ := r2.tup_inv
      obtain ⟨w1, w2, w3, rfl, c1, c2, c3⟩ : ∃ w1 w2 w3, us = [w1, w2, w3] ∧ Rep K a.FC H2 (jouD e) w1 ∧ Rep K a.FC H2 e.st.d w2 ∧ Rep K a.FC H2 (.tup e.tr) w3 := by
        cases rr with
        | cons r1 rr => cases rr with
          | cons r2 rr => cases rr with
            | cons r3 rr => cases rr; exact ⟨_, _, _, rfl, r1, r2, r3⟩
      have R2 := R1.mono e2
      have I2 := I1.same e2
      obtain ⟨vp, vh, vq, g1, g2, g3, g4⟩ := I2.ex
      have he : StOk pl past'.length e.st ∧ (∀ d ∈ e.tr, TrOk d) ∧ e.tr.length ≤ most ∧ e.dd.ok pl := I.po.en past'.length e (by rw [List.getElem?_append_right (Nat.le_refl _), Nat.sub_self]; rfl)
      have po' : PastOk pl e.st past' := ⟨I.po.ok, he.1, fun i x hx => I.po.en i x (by rw [List.getElem?_append_left (List.getElem?_eq_some_iff.mp hx).1]; exact hx)⟩
      have s0 := R2.ref (i := 0) rfl
      have s1 : (σS.set 1 (some w1))[0]? = some (some (.ref h)) := by rw [List.getElem?_set_ne (by decide)]; exact s0
      refine ⟨ar, _, rfl, hs, rfl, _, _, rfl, _, _, rfl, ⟨.ref h, s1, h, a.CH, dx, _, rfl, g1, T.oH.cl, T.nHheld, (by show 4 < 1000; decide), _, _, rfl, rfl, ?_⟩⟩
      obtain ⟨H3, h3⟩ : ∃ H3, H3 = upd H2 h (.ins a.CH dx (putF "held" w2 [("source", vp), ("held", vh), ("past", vq), ("floor", .int (fl : Int))])) := ⟨_, rfl⟩
      have hu : H3 h = some (.ins a.CH dx [("source", vp), ("held", w2), ("past", vq), ("floor", .int (fl : Int))]) := by rw [h3]; exact upd_same
      have z3 : Frz a.FC H2 H3 := by rw [h3]; exact Frz.upd_ins g1 T.nHF
      have k3 : KeepX [h] H2 H3 := by rw [h3]; exact KeepX.upd (by simp)
      have t3 : Tabs TT H3 := by rw [h3]; exact tabs_upd (tabs_same tb (e1.trans e2)) (.inr (.inr ⟨_, _, _, g1, T.nHF⟩))
      show sFld K _ _ _ _ _ (upd H2 h (.ins a.CH dx (putF "held" w2 [("source", vp), ("held", vh), ("past", vq), ("floor", .int (fl : Int))])))
      rw [← h3]
      have nj : NoL (jouD e) := jouD_noL e
      have R3 : RepE K a.FC H3 [some (.at (.ref h)), some (jouD e), some (.tup e.tr)] ((σS.set 1 (some w1)).set 2 (some w3)) := ((R2.set (i := 1) c1).set (i := 2) c3).frz z3 fun d hd => by
        have hd : some d ∈ ([some (.at (.ref h)), some (jouD e), some (.tup e.tr)] : SD) := hd
        simp at hd
        rcases hd with rfl | rfl | rfl
        · exact .at _
        · exact nj
        · exact .tup (.of fun d hd => (he.2.1 d hd).noL)
      have g4' := g4.frz z3 (.tup I.po.noL)
      have sl := ev_slT (ev_fldM (ev_var R3 (n := 0) rfl) hu T.oH.cl T.nHpast rfl g4') eo_none (eo_some (ev_neg (FC := a.FC) (K := K) (ev_c (v := .int 1))))
      rw [List.map_append, List.map_cons, List.map_nil, cutD_last] at sl
      refine st_fldS (t2 := tRet (tVar 1)) (R3.ref (i := 0) rfl) hu T.oH.cl T.nHpast (by show 4 < 1000; decide) sl fun v4 H4 e4 r4 h4 => ?_
      have z4 : Frz a.FC H4 (upd H4 h (.ins a.CH dx (putF "past" v4 [("source", vp), ("held", w2), ("past", vq), ("floor", .int (fl : Int))]))) := Frz.upd_ins h4 T.nHF
      have z34 := (Same.frz (FC := a.FC) e4).trans z4
      have z24 := z3.trans z34
      obtain ⟨w, hw, rw1⟩ := R3.get 1 _ rfl
      refine ⟨w, hw, q2 lt past' e w _ rfl ⟨⟨vp, w2, v4, upd_same, g2.frz z24 (pl.noL a), c2.frz z24 e.st.noL, r4.frz z4 (.tup po'.noL)⟩, po'⟩ ((((KeepX.of (e1.trans e2)).trans k3).trans (KeepX.of e4)).trans (KeepX.upd (by simp))) ((Same.frz (e1.trans e2)).trans z24) (tabs_upd (tabs_same t3 e4) (.inr (.inr ⟨_, _, _, h4, T.nHF⟩))) (rw1.frz z34 nj)⟩
end
end T34

/-! Kd18 -/
set_option maxHeartbeats 4000000
namespace T34
open PySem PySem.Spec PyProof.Rows L2
local macro_rules | `(tactic| walk_at "ev") => `(tactic| (first
  | (with_reducible exact ev_c)
  | ((with_reducible refine' ev_var ?R ?h); (case R => assumption); (case h => rfl))
  | (with_reducible refine' ea_cons ?_ ?_)
  | (with_reducible exact ea_nil)
  | (with_reducible refine' ev_add ?_ ?_)
  | (with_reducible refine' ev_sub ?_ ?_)
  | (with_reducible refine' ev_mul ?_ ?_ ?_)
  | (with_reducible refine' ev_mod ?_ ?_ ?_)
  | (with_reducible refine' ev_div ?_ ?_ ?_)
  | (with_reducible refine' ev_lt ?_ ?_)
  | (with_reducible refine' ev_le ?_ ?_)
  | (with_reducible refine' ev_gt ?_ ?_)
  | (with_reducible refine' ev_ge ?_ ?_)
  | (with_reducible refine' ev_int ?_)
  | (with_reducible refine' ev_not ?_)
  | (with_reducible refine' ev_tup ?_)
  | (with_reducible refine' ev_between ?_ ?_ ?_)
  | (with_reducible refine' et_test ?_)
  | (with_reducible refine' et_B ?_)
  | (with_reducible refine' et_not ?_)))
section
variable {P : Program} {w : World} {K : PySem.W.Frag} {mg : Str → Option Value} {base : Heap} {a : Ad} {TT : List (Addr × Str)} {f : Addr} {fd : FuncData}
open LamX (Tabs)
/-! ### a trial -/
/-- h alone was written -/
structure Mv (a : Ad) (h : Addr) (H H' : Hp) : Prop where
  kp : KeepX [h] H H'
  fz : Frz a.FC H H'
  tb : ∀ TT, Tabs TT H → Tabs TT H'
theorem Mv.of {h : Addr} {H H' : Hp} (e : Same H H') : Mv a h H H' := ⟨KeepX.of e, Same.frz e, fun _ t => tabs_same t e⟩
theorem Mv.trans {h : Addr} {H H1 H2 : Hp} (x : Mv a h H H1) (y : Mv a h H1 H2) : Mv a h H H2 := ⟨x.kp.trans y.kp, x.fz.trans y.fz, fun TT t => y.tb TT (x.tb TT t)⟩
theorem Mv.upd {h C dx : Addr} {H : Hp} {gs : List (Str × V)} {o : HO} (e : H h = some (.ins C dx gs)) (n : ¬ a.FC C) : Mv a h H (upd H h o) := ⟨KeepX.upd (by simp), Frz.upd_ins e n, fun _ t => tabs_upd t (.inr (.inr ⟨_, _, _, e, n⟩))⟩
/-- put back what was set aside -/
abbrev finT (K : PySem.W.Frag) : TS := tAsg (tTup (tCons (tVar 2) (tCons (tVar 3) (tCons (tVar 4) tNil)))) (gTup K 3 (gCons (gFld K (tVar 0) "held") (gCons (gFld K (tVar 0) "past") (gCons (gFld K (tVar 0) "floor") gNil))))
theorem fin_go (T : Tx K w mg a) {pl : Pl} {h dx : Addr} {wk : D} {st st2 : Sto} {past past2 : List Ent} {fl fl2 : Nat} {H : Hp} {σ : L2.St} {B : Ends} (I : HsI K a pl h dx st2 past2 fl2 H) (po : PastOk pl st past)
    (R : RepE K a.FC H [some (.at (.ref h)), some wk, some st.d, some (.tup (past.map entD)), some (di (fl : Int))] σ) (q : ∀ H', Mv a h H H' → HsI K a pl h dx st past fl H' → B.nx σ H') : finT K B σ H := by
  refine (ev_tup (ea_cons (ev_var R (n := 2) rfl) (ea_cons (ev_var R (n := 3) rfl) (ea_cons (ev_var R (n := 4) rfl) ea_nil))) (by show 3 ≤ sizeLine; decide)).go fun v1 H1 e1 r1 => ?_
  obtain ⟨ar, us, rfl, hs, rr⟩ := r1.tup_inv
  obtain ⟨w1, w2, w3, rfl, c1, c2, c3⟩ : ∃ w1 w2 w3, us = [w1, w2, w3] ∧ Rep K a.FC H1 st.d w1 ∧ Rep K a.FC H1 (.tup (past.map entD)) w2 ∧ Rep K a.FC H1 (di (fl : Int)) w3 := by
    cases rr with
    | cons r1 rr => cases rr with
      | cons r2 rr => cases rr with
        | cons r3 rr => cases rr; exact ⟨_, _, _, rfl, r1, r2, r3⟩
  cases c3.at_inv
  obtain ⟨vp, vh, vq, g1, g2, g3, g4⟩ := (I.same e1).ex
  have s0 := R.ref (i := 0) rfl
  obtain ⟨Ha, ha⟩ : ∃ Ha, Ha = upd H1 h (.ins a.CH dx (putF "held" w1 [("source", vp), ("held", vh), ("past", vq), ("floor", .int (fl2 : Int))])) := ⟨_, rfl⟩
  have ga : Ha h = some (.ins a.CH dx [("source", vp), ("held", w1), ("past", vq), ("floor", .int (fl2 : Int))]) := by rw [ha]; exact upd_same
  have ma : Mv a h H1 Ha := by rw [ha]; exact Mv.upd g1 T.nHF
  obtain ⟨Hb, hb⟩ : ∃ Hb, Hb = upd Ha h (.ins a.CH dx (putF "past" w2 [("source", vp), ("held", w1), ("past", vq), ("floor", .int (fl2 : Int))])) := ⟨_, rfl⟩
  have gb : Hb h = some (.ins a.CH dx [("source", vp), ("held", w1), ("past", w2), ("floor", .int (fl2 : Int))]) := by rw [hb]; exact upd_same
  have mb : Mv a h Ha Hb := by rw [hb]; exact Mv.upd ga T.nHF
  obtain ⟨Hc, hc⟩ : ∃ Hc, Hc = upd Hb h (.ins a.CH dx (putF "floor" (.int (fl : Int)) [("source", vp), ("held", w1), ("past", w2), ("floor", .int (fl2 : Int))])) := ⟨_, rfl⟩
  have gc : Hc h = some (.ins a.CH dx [("source", vp), ("held", w1), ("past", w2), ("floor", .int (fl : Int))]) := by rw [hc]; exact upd_same
  have mc : Mv a h Hb Hc := by rw [hc]; exact Mv.upd gb T.nHF
  have m3 := (ma.trans mb).trans mc
  refine ⟨ar, _, rfl, hs, rfl, _, _, rfl, ⟨.ref h, s0, h, a.CH, dx, _, rfl, g1, T.oH.cl, T.nHheld, (by show 4 < 1000; decide), _, _, rfl, ⟨.ref h, s0, h, a.CH, dx, _, rfl, by rw [← ha]; exact ga, T.oH.cl, T.nHpast, (by show 4 < 1000; decide), _, _, rfl, ⟨.ref h, s0, h, a.CH, dx, _, rfl, by rw [← ha, ← hb]; exact gb, T.oH.cl, T.nHfloor, (by show 4 < 1000; decide), rfl, ?_⟩⟩⟩⟩
  rw [← ha, ← hb, ← hc]
  exact q Hc ((Mv.of e1).trans m3) ⟨⟨vp, w1, w2, gc, g2.frz m3.fz (pl.noL a), c1.frz m3.fz st.noL, c2.frz m3.fz (.tup po.noL)⟩, po⟩
def spTry (P : Program) (w : World) (K : PySem.W.Frag) (mg : Str → Option Value) (base : Heap) (a : Ad) (kc : Nat) : Sp := fun vs H Q E => ∃ (pl : Pl) (h dx : Addr) (st : Sto) (past : List Ent) (fl : Nat) (f : Addr) (sp : Sp) (TV : V → Hp → Prop) (TX : Value → Option Addr → Hp → Prop),
  vs = [.ref h, .ref f] ∧ HsI K a pl h dx st past fl H ∧ FnPin H f ∧ FnR P w K mg base (L2N.CX P w) kc f sp ∧
  (∀ H1, Mv a h H H1 → HsI K a pl h dx st past past.length H1 → ∀ (Q' : VK) (E' : XK), (∀ v H2 st2 past2 fl2, HsI K a pl h dx st2 past2 fl2 H2 → Frz a.FC H1 H2 → TV v H2 → Q' v H2) → (∀ cls d H2 st2 past2 fl2, HsI K a pl h dx st2 past2 fl2 H2 → Frz a.FC H1 H2 → TX cls d H2 → E' cls d H2) → sp [.ref h] H1 Q' E') ∧
  (∀ v H2 H3, TV v H2 → Mv a h H2 H3 → HsI K a pl h dx st past fl H3 → Q v H3) ∧ ∀ cls d H2 H3, TX cls d H2 → Mv a h H2 H3 → HsI K a pl h dx st past fl H3 → E cls d H3
theorem pg_tupHK {X : Cx} {K : PySem.W.Frag} {es : List Expr} {k : Nat} {t : TGs} {n : Nat} {pos : Pos} (hc : L2H.HotC X) (h : PGs X es t) (hK : X.K = K := by rfl)
    (hn : (assignEach es X.env).length = n := by rfl) (hst : (assignEach es X.env).findIdx? (·.1) = none := by rfl) : PG X (.Tuple es k pos) (gTup K n t) := by
  subst hK
  exact pg_tupH hc h hn hst
theorem hot_suite {X : Cx} {a : Addr} {oe : Obj} {cls : Value} {d : Option Addr} {pn : List (Addr × Obj)} (hz : L2N.Zn cls d oe) (hd : ∃ vs, oe.data = .fields vs) : L2H.HotC (X.suite a ((a, oe) :: pn)) := by
  obtain ⟨vs, e⟩ := hd
  exact ⟨(a, oe), ⟨rfl, vs, e, hz.2.2 vs e⟩, List.mem_cons_self⟩
abbrev s_House_attempt : Stmt := inClass (top 47) 14
theorem sc_House_attempt : FnScope ["self", "work", "held", "past", "floor"] ["self", "work"] (defScope s_House_attempt) := ⟨rfl, rfl, rfl, by decide +kernel, rfl, by decide +kernel, by decide +kernel⟩
theorem ok_Hatt {kc : Nat} (F : FnP K "attempt" "House.attempt" s_House_attempt f fd) (T : Tx K w mg a) (h2 : 2 ≤ kc) : FnOk P w K mg base (L2N.CX P w) (kc + 1) f fd ["self", "work"] (spTry P w K mg base a kc) := by
  refine fnG F sc_House_attempt (fun vs H Q E h => ?_) (fun cdv Ar outer s H E hr => ⟨_, (pss_cons (ps_par3 (i := 2) (j := 3) (l := 4) (by rfl) sc_House_attempt.nd rfl rfl rfl (by decide) (by decide) (by decide) rfl rfl rfl (pa_cons (pe_fldK (K := K) (pv 0)) (pa_cons (pe_fldK (K := K) (pv 0)) (pa_cons (pe_fldK (K := K) (pv 0)) pa_nil))) (by rfl))
    (pss_cons (ps_fld (pv 0) (pe_callB (call_lenK (K := K)) (by rfl) T.f_len (by decide +kernel) (pa_cons (pv 3) pa_nil)) rfl)
    (pss_one (ps_retFinN rfl rfl rfl takesN (fun W pn xe tk => pe_callVS (P := P) (w := w) (K := K) (mg := mg) (base := base) (CX := L2N.CX P w) (i := 1) (E := WE W) hr (Nat.le_refl _) (fun σ => L2N.passAt tk σ) (by rfl) (.inl (by rfl)) (pa_cons (pv 0) pa_nil))
   (pss_one (ps_asg (pe_tup (pa_cons (pv 2) (pa_cons (pv 3) (pa_cons (pv 4) pa_nil)))) (pg_tupK (K := K) (n := 3) (by rfl) (pgs_cons (pg_fld (K := K) (pv 0)) (pgs_cons (pg_fld (K := K) (pv 0)) (pgs_cons (pg_fld (K := K) (pv 0)) pgs_nil))))))
   (fun a oe cls d pn hz hd => (pss_one (ps_asg (pe_tup (pa_cons (pv 2) (pa_cons (pv 3) (pa_cons (pv 4) pa_nil)))) (pg_tupHK (K := K) (n := 3) (hot_suite hz hd) (pgs_cons (pg_fld (K := K) (pv 0)) (pgs_cons (pg_fld (K := K) (pv 0)) (pgs_cons (pg_fld (K := K) (pv 0)) pgs_nil))))))))))), ?_⟩)
  · obtain ⟨pl, h, dx, st, past, fl, f, sp, TV, TX, rfl, _⟩ := h
    rfl
  · rintro vs Q ⟨pl, h, dx, st, past, fl, fw, sp, TV, TX, rfl, I, fp, FR, hcall, qv, qx⟩
    have R : RepE K a.FC H [some (.at (.ref h)), some (.at (.ref fw)), none, none, none] (start ["self", "work", "held", "past", "floor"] [.ref h, .ref fw]) := RepE.start (N := ["self", "work", "held", "past", "floor"]) (ds := [.at (.ref h), .at (.ref fw)]) (.cons (.at _) (.cons (.at _) .nil))
    obtain ⟨σS, hσS⟩ : ∃ σS : L2.St, σS = start ["self", "work", "held", "past", "floor"] [.ref h, .ref fw] := ⟨_, rfl⟩
    rw [← hσS] at R ⊢
    refine st_seq ?_
    refine (ea_cons (ev_heldH T I R (n := 0) rfl) (ea_cons (ev_past T I R (n := 0) rfl) (ea_cons (ev_floor T I R (n := 0) rfl) ea_nil)) : EvA K a.FC _ σS H [st.d, .tup (past.map entD), di (fl : Int)]).go fun vs1 H1 e1 r1 => ?_
    obtain ⟨w1, w2, w3, rfl, c1, c2, c3⟩ : ∃ w1 w2 w3, vs1 = [w1, w2, w3] ∧ Rep K a.FC H1 st.d w1 ∧ Rep K a.FC H1 (.tup (past.map entD)) w2 ∧ Rep K a.FC H1 (di (fl : Int)) w3 := by
      cases r1 with
      | cons r1 rr => cases rr with
        | cons r2 rr => cases rr with
          | cons r3 rr => cases rr; exact ⟨_, _, _, rfl, r1, r2, r3⟩
    refine ⟨w1, w2, w3, rfl, ?_⟩
    dsimp only
    have R1 : RepE K a.FC H1 [some (.at (.ref h)), some (.at (.ref fw)), some st.d, some (.tup (past.map entD)), some (di (fl : Int))] (((σS.set 2 (some w1)).set 3 (some w2)).set 4 (some w3)) := (((R.mono e1).set (i := 2) c1).set (i := 3) c2).set (i := 4) c3
    obtain ⟨σ1, hσ1⟩ : ∃ σ1 : L2.St, σ1 = ((σS.set 2 (some w1)).set 3 (some w2)).set 4 (some w3) := ⟨_, rfl⟩
    rw [← hσ1] at R1 ⊢
    have I1 := I.same e1
    obtain ⟨vp, vh, vq, g1, g2, g3, g4⟩ := I1.ex
    refine st_fldS (FC := a.FC) (R1.ref (i := 0) rfl) g1 T.oH.cl T.nHfloor (by show 4 < 1000; decide) ((ev_lenT (ev_var R1 (n := 3) rfl)).to (by rw [List.length_map])) fun v2 H2 e2 r2 h2 => ?_
    cases r2.at_inv
    obtain ⟨H3, h3⟩ : ∃ H3, H3 = upd H2 h (.ins a.CH dx (putF "floor" (.int (past.length : Int)) [("source", vp), ("held", vh), ("past", vq), ("floor", .int (fl : Int))])) := ⟨_, rfl⟩
    have g3' : H3 h = some (.ins a.CH dx [("source", vp), ("held", vh), ("past", vq), ("floor", .int (past.length : Int))]) := by rw [h3]; exact upd_same
    have m23 : Mv a h H2 H3 := by rw [h3]; exact Mv.upd h2 T.nHF
    rw [← h3]
    have nol : ∀ d, some d ∈ ([some (.at (.ref h)), some (.at (.ref fw)), some st.d, some (.tup (past.map entD)), some (di (fl : Int))] : SD) → NoL d := fun d hd => by
      simp at hd
      rcases hd with rfl | rfl | rfl | rfl | rfl
      · exact .at _
      · exact .at _
      · exact st.noL
      · exact .tup I.po.noL
      · exact .at _
    have R3 := (R1.mono e2).frz m23.fz nol
    have z13 : Frz a.FC H1 H3 := (Same.frz e2).trans m23.fz
    have I3 : HsI K a pl h dx st past past.length H3 := ⟨⟨vp, vh, vq, g3', g2.frz z13 (pl.noL a), g3.frz z13 st.noL, g4.frz z13 (.tup I.po.noL)⟩, I.po⟩
    have m03 : Mv a h H H3 := (Mv.of (e1.trans e2)).trans m23
    have pin : ∀ {H' : Hp}, Mv a h H H' → FnPin H' fw := fun {H'} m => by
      obtain ⟨oc, od, fd, sl, e⟩ := fp
      refine ⟨oc, od, fd, sl, m.kp _ _ e (fun z => ?_) fun _ z => by cases z⟩
      obtain ⟨_, _, _, g0, _⟩ := I.ex
      rw [List.mem_singleton.mp z, g0] at e
      cases e
    refine ⟨fw, R3.ref (i := 1) rfl, pin m03, ?_⟩
    refine (ea_cons (ev_var R3 (n := 0) rfl) ea_nil : EvA K a.FC _ σ1 H3 [.at (.ref h)]).go fun vs4 H4 e4 r4 => ?_
    have ev4 : vs4 = [.ref h] := Reps.ats_inv (vs := [.ref h]) r4
    subst ev4
    have m04 := m03.trans (Mv.of e4)
    have R4 := R3.mono e4
    refine ⟨pin m04, sp, FR, hcall H4 m04 (I3.same e4) _ _ (fun v H5 st2 past2 fl2 I5 z5 tv => ?_) fun cls d H5 st2 past2 fl2 I5 z5 tx => ?_⟩
    · exact fin_go T I5 I.po (R4.frz z5 nol) fun H6 m6 I6 => qv v H5 H6 tv m6 I6
    · exact fun a0 na => fin_go T I5 I.po (R4.frz z5 nol) fun H6 m6 I6 => qx cls d H5 H6 tx m6 I6
end
end T34

/-! Kd19 -/
set_option maxHeartbeats 4000000
namespace T34
open PySem PySem.Spec PyProof.Rows L2
local macro_rules | `(tactic| walk_at "ev") => `(tactic| (first
  | (with_reducible exact ev_c)
  | ((with_reducible refine' ev_var ?R ?h); (case R => assumption); (case h => rfl))
  | (with_reducible refine' ea_cons ?_ ?_)
  | (with_reducible exact ea_nil)
  | (with_reducible refine' ev_add ?_ ?_)
  | (with_reducible refine' ev_sub ?_ ?_)
  | (with_reducible refine' ev_mul ?_ ?_ ?_)
  | (with_reducible refine' ev_mod ?_ ?_ ?_)
  | (with_reducible refine' ev_div ?_ ?_ ?_)
  | (with_reducible refine' ev_lt ?_ ?_)
  | (with_reducible refine' ev_le ?_ ?_)
  | (with_reducible refine' ev_gt ?_ ?_)
  | (with_reducible refine' ev_ge ?_ ?_)
  | (with_reducible refine' ev_int ?_)
  | (with_reducible refine' ev_not ?_)
  | (with_reducible refine' ev_tup ?_)
  | (with_reducible refine' ev_between ?_ ?_ ?_)
  | (with_reducible refine' et_test ?_)
  | (with_reducible refine' et_B ?_)
  | (with_reducible refine' et_not ?_)))
section
variable {P : Program} {w : World} {K : PySem.W.Frag} {mg : Str → Option Value} {base : Heap} {a : Ad} {f : Addr} {fd : FuncData}
/-! ### the law's own defs: numbers, names, rules, forms -/
section
variable {FC : Addr → Prop} {ρ : SD} {σ : L2.St} {H : Hp} {ta tb te : TE} {t2 : TS} {B : Ends} {ds es : List D} {d e : D} {i j : Int}
/-- a list that may be written to -/
def EvW (K : PySem.W.Frag) (FC : Addr → Prop) (te : TE) (σ : L2.St) (H : Hp) (ds : List D) : Prop := ∀ H1, Same H H1 → ∀ Q : VK, (∀ p vs H2, Same H1 H2 → H2 p = some (.lst vs) → Reps K FC H2 ds vs → Q (.ref p) H2) → te σ H1 Q
theorem EvL.toW (h : EvL K FC te σ H ds) : EvW K FC te σ H ds := fun H1 e Q q => h H1 e Q fun p vs H2 _ s hp r => q p vs H2 s hp r
theorem ew_var {n : Nat} {p : Addr} {us : List V} (R : RepE K FC H ρ σ) (h : ρ[n]? = some (some (.at (.ref p)))) (hp : H p = some (.lst us)) (r : Reps K FC H ds us) : EvW K FC (tVar n) σ H ds := fun H1 e Q q => ⟨_, R.ref h, q p us H1 (Same.refl H1) (e _ _ hp) (r.mono e)⟩
theorem el_cat (ha : EvW K FC ta σ H ds) (hb : EvW K FC tb σ H es) (hl : ds.length + es.length ≤ 1000) : EvL K FC (tOp rCat ta tb) σ H (ds ++ es) := fun H1 a Q q =>
  ha H1 a _ fun p vs H2 e2 hp r2 => hb H2 (a.trans e2) _ fun p' us H3 e3 hp' r3 => ⟨p, p', vs, us, rfl, rfl, e3 _ _ hp, hp', by
    rw [r2.length, r3.length]
    exact Nat.le_trans hl (by decide), fun z hz => q z _ _ (fresh_back (e2.trans e3) hz) ((e2.trans e3).trans (Same.new hz)) upd_same (((r2.mono e3).append r3).mono (Same.new hz))⟩
/-- a list that others hold -/
theorem ev_varQ {n : Nat} {p : Addr} {us : List V} (R : RepE K FC H ρ σ) (h : ρ[n]? = some (some (.at (.ref p)))) (hp : SqL K H p us) (r : Reps K FC H ds us) : EvD K FC (tVar n) σ H (.lst ds) := fun H1 e Q q => ⟨_, R.ref h, q _ H1 (Same.refl H1) (.lst (e.seq hp) (r.mono e))⟩
theorem ev_pow (ha : EvD K FC ta σ H (di i)) (hb : EvD K FC tb σ H (di j)) (hc : CPow i j) : EvD K FC (tOp (rI CPow fun i j => .int (i ^ j.toNat)) ta tb) σ H (di (i ^ j.toNat)) := ev_opI ha hb hc
theorem EvP.go {P : D → Prop} {Q : VK} (h : EvP K FC te σ H P) (q : ∀ d v H', P d → Same H H' → Rep K FC H' d v → Q v H') : te σ H Q := h H (Same.refl H) Q q
theorem ep_ixT {P P' : D → Prop} (ha : EvP K FC ta σ H P) (hb : EvD K FC tb σ H (di i)) (h : ∀ d, P d → ∃ ds x, d = .tup ds ∧ atI ds i = some x ∧ P' x) : EvP K FC (tOp (rIxT K) ta tb) σ H P' := fun H1 e Q q =>
  ha H1 e _ fun d v H2 p e2 r2 => by
    obtain ⟨ds, x, rfl, hx, px⟩ := h d p
    refine (ev_ixT (ta := fun _ H Q => Q v H) (tb := tb) (σ := σ) (H := H2) (fun H3 e3 Q' q' => q' v H3 (Same.refl H3) (r2.mono e3)) (fun H3 e3 => hb H3 ((e.trans e2).trans e3)) hx) H2 (Same.refl H2) Q fun u H3 e3 r3 => q x u H3 px (e2.trans e3) r3
theorem st_par {n m : Nat} {ta : TA} (R : RepE K FC H ρ σ) (h : EvA K FC ta σ H [d, e]) (q : ∀ σ' H', Same H H' → RepE K FC H' ((ρ.set n (some d)).set m (some e)) σ' → t2 B σ' H') : tSeq (tPar n m ta) t2 B σ H := h.go fun vs H' a r => by
  cases r with
  | cons r1 rr => cases rr with
    | cons r2 rr => cases rr; exact ⟨_, _, rfl, q _ H' a (((R.mono a).set r1).set r2)⟩
theorem st_pairP {n m : Nat} {P : D → D → Prop} (hnm : n ≠ m) (R : RepE K FC H ρ σ) (h : EvP K FC te σ H fun x => ∃ d e, x = .tup [d, e] ∧ P d e) (q : ∀ d e σ' H', P d e → Same H H' → RepE K FC H' ((ρ.set n (some d)).set m (some e)) σ' → t2 B σ' H') :
    tSeq (tAsg te (gTup K 2 (gCons (gName n) (gCons (gName m) gNil)))) t2 B σ H := h.go fun x v H' px a r => by
  obtain ⟨d, e, rfl, p⟩ := px
  exact bind_pair (vs := [n, m]) (by simp) (by simp) _ H' v (R.mono a) r _ fun σ2 H2 e2 R2 _ => q d e σ2 H2 p (a.trans e2) R2
end
theorem py_ints : ∀ ns : List Int, PyDs (ns.map di) (ns.map PyData.int)
  | [] => .nil
  | n :: ns => .cons (.int n) (py_ints ns)
theorem ints_lay : ∀ ns : List Int, PyData.canLayAll0 (ns.map PyData.int) = true
  | [] => by simp [PyData.canLayAll0]
  | n :: ns => by rw [List.map_cons, PyData.canLayAll0, ints_lay ns, Bool.and_true]; simp [PyData.canLay0]
theorem ints_depth : ∀ ns : List Int, PyData.depthAll (ns.map PyData.int) = 0
  | [] => by simp [PyData.depthAll]
  | n :: ns => by rw [List.map_cons, PyData.depthAll, ints_depth ns]; simp [PyData.depth]
theorem ints_shaped (ns : List Int) : SeqAt.shaped (.list (ns.map PyData.int)) = true := by
  unfold SeqAt.shaped
  rw [PyData.canLay0, ints_lay, PyData.depth, ints_depth]
  simp
theorem ints_nil (ns : List Int) : PyData.eqv (.list (ns.map PyData.int)) (.list []) = decide (ns = []) := by
  cases ns with
  | nil => simp [PyData.eqv, PyData.eqvAll]
  | cons n ns => simp [PyData.eqv, PyData.eqvAll]
theorem atI_mod {α : Type} (xs : List α) (h : xs ≠ []) (r : Int) : ∃ x ∈ xs, atI xs (r % (xs.length : Int)) = some x := by
  have hl : 0 < xs.length := List.length_pos_iff.mpr h
  have h1 : 0 ≤ r % (xs.length : Int) := Int.emod_nonneg _ (by omega)
  have h2 : r % (xs.length : Int) < xs.length := Int.emod_lt_of_pos _ (by omega)
  obtain ⟨j, hj⟩ : ∃ j : Nat, r % (xs.length : Int) = (j : Int) := ⟨_, (Int.toNat_of_nonneg h1).symm⟩
  rw [hj]
  have lj : j < xs.length := by omega
  exact ⟨xs[j], List.getElem_mem lj, atI_nat (List.getElem?_eq_getElem lj)⟩
/-! ### _law_number -/
abbrev s_law_number : Stmt := top 49
theorem sc_law_number : FnScope ["script", "index", "cells", "cell", "low", "high", "total", "blend"] ["script", "index"] (defScope s_law_number) := ⟨rfl, rfl, rfl, by decide +kernel, rfl, by decide +kernel, by decide +kernel⟩
def numCells (ns : List Int) : List Int := if ns = [] then [5] else cutD ns none (some 63)
def numCell (ns : List Int) (ix : Int) : Int := (atI (numCells ns) (ix % ((numCells ns).length : Int))).getD 0 + 13 * (ix / ((numCells ns).length : Int))
def numLow (ns : List Int) (ix : Int) : Int := numCell ns ix % 1000003
def numHigh (ns : List Int) (ix : Int) : Int := numCell ns ix / 1000003 % 999983
def numBlend (ns : List Int) (ix : Int) : Int := ((numLow ns ix + 977 * ix) * 48271 + 31 * numHigh ns ix + (numCells ns).sum % 65521) % 2147483647
def lawNum (ns : List Int) (ix : Int) : Int := (numBlend ns ix * (numBlend ns ix + 31 * ix + 7)) % 2147483629 * 65537 + numHigh ns ix
theorem numCells_ne (ns : List Int) : numCells ns ≠ [] := by
  unfold numCells
  split
  · exact List.cons_ne_nil _ _
  · rename_i h
    intro z
    have := congrArg List.length z
    unfold cutD at this
    rw [HT.sIx_none, show (63 : Int) = ((63 : Nat) : Int) from rfl, HT.sIx_nat, List.drop_zero, Nat.sub_zero, List.length_take, List.length_nil] at this
    have : 0 < ns.length := List.length_pos_iff.mpr h
    omega
theorem numCells_le (ns : List Int) : (numCells ns).length ≤ 63 := by
  unfold numCells
  split
  · decide
  · unfold cutD
    rw [HT.sIx_none, show (63 : Int) = ((63 : Nat) : Int) from rfl, HT.sIx_nat, List.drop_zero, Nat.sub_zero, List.length_take]
    omega
theorem numHigh_b (ns : List Int) (ix : Int) : 0 ≤ numHigh ns ix ∧ numHigh ns ix < 999983 := ⟨Int.emod_nonneg _ (by decide), Int.emod_lt_of_pos _ (by decide)⟩
theorem numLow_b (ns : List Int) (ix : Int) : 0 ≤ numLow ns ix ∧ numLow ns ix < 1000003 := ⟨Int.emod_nonneg _ (by decide), Int.emod_lt_of_pos _ (by decide)⟩
theorem numBlend_b (ns : List Int) (ix : Int) : 0 ≤ numBlend ns ix ∧ numBlend ns ix < 2147483647 := ⟨Int.emod_nonneg _ (by decide), Int.emod_lt_of_pos _ (by decide)⟩
theorem lawNum_b (ns : List Int) (ix : Int) : 0 ≤ lawNum ns ix ∧ lawNum ns ix < 281474976710656 := by
  have h1 := numHigh_b ns ix
  have h2 : 0 ≤ (numBlend ns ix * (numBlend ns ix + 31 * ix + 7)) % 2147483629 := Int.emod_nonneg _ (by decide)
  have h3 : (numBlend ns ix * (numBlend ns ix + 31 * ix + 7)) % 2147483629 < 2147483629 := Int.emod_lt_of_pos _ (by decide)
  unfold lawNum
  constructor <;> omega
def rNum : List D → (D → Prop) → Prop := fun ds Pd => ∃ (ns : List Int) (ix : Int), ds = [.lst (ns.map di), di ix] ∧ Pd = fun d => d = di (lawNum ns ix)
theorem ok_law_number (F : FnP K "_law_number" "_law_number" s_law_number f fd) (T : Tx K w mg a) : FnOk P w K mg base CX0 1 f fd ["script", "index"] (spN K a.FC rNum) := by
  refine fnN F sc_law_number (fun ds Pd h => ?_) (fun cdv A outer s H E hr => ⟨_, (pss_cons (ps_set (i := 2) sc_law_number.nd rfl (Or.inl rfl) (pe_ifExp (pt_cmpR (op_neDK (K := K) hr) (pv 0) (pe_lst pa_nil) (nomark _)) (pe_slice (sl_listK (K := K)) (pv 0) po_none (po_some pe_int)) (pe_lst (pa_cons pe_int pa_nil))))
    (pss_cons (ps_set (i := 3) sc_law_number.nd rfl (Or.inl rfl) (pe_op op_add (pe_ix (ix_listK (K := K)) (pv 2) (pe_op op_mod (pe_callTy call_int1 (by rfl) T.f_int (by decide +kernel) (pa_cons (pv 1) pa_nil)) (pe_callB (call_lenK (K := K)) (by rfl) T.f_len (by decide +kernel) (pa_cons (pv 2) pa_nil))) (fun _ _ => rfl)) (pe_op op_mul pe_int (pe_op op_fdiv (pv 1) (pe_callB (call_lenK (K := K)) (by rfl) T.f_len (by decide +kernel) (pa_cons (pv 2) pa_nil))))))
    (pss_cons (ps_par (i := 4) (j := 5) (by rfl) sc_law_number.nd rfl rfl (by decide) rfl rfl (pa_cons (pe_op op_mod (pe_callTy call_int1 (by rfl) T.f_int (by decide +kernel) (pa_cons (pv 3) pa_nil)) pe_int) (pa_cons (pe_op op_mod (pe_callTy call_int1 (by rfl) T.f_int (by decide +kernel) (pa_cons (pe_op op_fdiv (pv 3) pe_int) pa_nil)) pe_int) pa_nil)) (by rfl))
    (pss_cons (ps_set (i := 6) sc_law_number.nd rfl (Or.inl rfl) (pe_op op_mod (pe_callTy call_int1 (by rfl) T.f_int (by decide +kernel) (pa_cons (pe_callB (cr_sumK (K := K) rfl) (by rfl) T.f_sum (by decide +kernel) (pa_cons (pv 2) pa_nil)) pa_nil)) pe_int))
    (pss_cons (ps_set (i := 7) sc_law_number.nd rfl (Or.inl rfl) (pe_op op_mod (pe_callTy call_int1 (by rfl) T.f_int (by decide +kernel) (pa_cons (pe_op op_add (pe_op op_add (pe_op op_mul (pe_op op_add (pv 4) (pe_op op_mul pe_int (pv 1))) pe_int) (pe_op op_mul pe_int (pv 5))) (pv 6)) pa_nil)) pe_int))
    (pss_one (ps_ret (pe_op op_add (pe_op op_mul (pe_op op_mod (pe_callTy call_int1 (by rfl) T.f_int (by decide +kernel) (pa_cons (pe_op op_mul (pv 7) (pe_op op_add (pe_op op_add (pv 7) (pe_op op_mul pe_int (pv 1))) pe_int)) pa_nil)) pe_int) pe_int) (pv 5))))))))), ?_⟩)
  · obtain ⟨ns, ix, rfl, _⟩ := h
    rfl
  · rintro ds Pd vs Q ⟨ns, ix, rfl, rfl⟩ R k
    have hne := numCells_ne ns
    have hle := numCells_le ns
    have hpos : 0 < (numCells ns).length := List.length_pos_iff.mpr hne
    refine st_setS R ((ev_if (b := !decide (ns = [])) (et_test ((ev_neD (ev_var R (n := 0) rfl) (ev_lst ea_nil).toD (.lst (py_ints ns)) (.lst .nil) (ints_shaped ns) (ints_shaped [])).to (by rw [ints_nil]))) (fun _ => (el_slL (ev_var R (n := 0) rfl) eo_none eo_c).toD) fun _ => (ev_lst (ea_cons ev_c ea_nil)).toD).to (d' := .lst ((numCells ns).map di)) (by
      unfold numCells
      by_cases h : ns = []
      · rw [if_pos h, h]; rfl
      · rw [if_neg h, decide_eq_false h, ← cutD_map]; rfl)) fun v1 H1 e1 r1 R1 => ?_
    obtain ⟨x, hx, hat⟩ := atI_mod (numCells ns) hne ix
    have hlen : (((numCells ns).map di).length : Int) = ((numCells ns).length : Int) := by rw [List.length_map]
    have hat' : atI ((numCells ns).map di) (ix % (((numCells ns).map di).length : Int)) = some (di x) := by
      rw [hlen]
      unfold atI at hat ⊢
      rw [List.length_map]
      cases q : ixN (numCells ns).length (ix % ((numCells ns).length : Int)) with
      | none => rw [q] at hat; cases hat
      | some k =>
        rw [q] at hat
        have hat : (numCells ns)[k]? = some x := hat
        show ((numCells ns).map di)[k]? = _
        rw [List.getElem?_map, hat]
        rfl
    have hcell : numCell ns ix = x + 13 * (ix / ((numCells ns).length : Int)) := by unfold numCell; rw [hat]; rfl
    have evl : ∀ {σ : L2.St} {H : Hp} {ρ : SD}, RepE K a.FC H ρ σ → ρ[2]? = some (some (.lst ((numCells ns).map di))) → EvD K a.FC (tCB (rLenS K) (tCons (tVar 2) tNil)) σ H (di ((numCells ns).length : Int)) := fun R h => (ev_lenL (ev_var R h)).to (by rw [hlen])
    refine st_setS R1 ((ev_add (ev_ixL (ev_var R1 (n := 2) rfl) (ev_mod (ev_int (ev_var R1 (n := 1) rfl)) (ev_lenL (ev_var R1 (n := 2) rfl)) (by rw [hlen]; omega)) hat') (ev_mul ev_c (ev_div (ev_var R1 (n := 1) rfl) (evl R1 rfl) ⟨by omega, by omega⟩) (.inl ⟨by decide, by decide⟩))).to (d' := di (numCell ns ix)) (by rw [hcell])) fun v2 H2 e2 r2 R2 => ?_
    refine st_par R2 (ea_cons (ev_mod (ev_int (ev_var R2 (n := 3) rfl)) ev_c (by decide)) (ea_cons (ev_mod (ev_int (ev_div (ev_var R2 (n := 3) rfl) ev_c ⟨by decide, by decide⟩)) ev_c (by decide)) ea_nil)) fun σ3 H3 e3 R3 => ?_
    have R3 : RepE K a.FC H3 [some (.lst (ns.map di)), some (di ix), some (.lst ((numCells ns).map di)), some (di (numCell ns ix)), some (di (numLow ns ix)), some (di (numHigh ns ix)), none, none] σ3 := R3
    refine st_setS R3 (ev_mod (ev_int (ev_sum (ev_var R3 (n := 2) rfl))) (ev_c (v := .int 65521)) (by decide)) fun v4 H4 e4 r4 R4 => ?_
    have h1 := numHigh_b ns ix
    have h2 := numLow_b ns ix
    have h3 := numBlend_b ns ix
    refine st_setS R4 (ev_mod (ev_int (ev_add (ev_add (ev_mul (ev_add (ev_var R4 (n := 4) rfl) (ev_mul (ev_c (v := .int 977)) (ev_var R4 (n := 1) rfl) (.inl ⟨by decide, by decide⟩))) (ev_c (v := .int 48271)) (.inr ⟨by decide, by decide⟩)) (ev_mul (ev_c (v := .int 31)) (ev_var R4 (n := 5) rfl) (.inl ⟨by decide, by decide⟩))) (ev_var R4 (n := 6) rfl))) (ev_c (v := .int 2147483647)) (by decide)) fun v5 H5 e5 r5 R5 => ?_
    have R5 : RepE K a.FC H5 [some (.lst (ns.map di)), some (di ix), some (.lst ((numCells ns).map di)), some (di (numCell ns ix)), some (di (numLow ns ix)), some (di (numHigh ns ix)), some (di ((numCells ns).sum % 65521)), some (di (numBlend ns ix))] _ := R5
    refine st_ret (ev_add (ev_mul (ev_mod (ev_int (ev_mul (ev_var R5 (n := 7) rfl) (ev_add (ev_add (ev_var R5 (n := 7) rfl) (ev_mul (ev_c (v := .int 31)) (ev_var R5 (n := 1) rfl) (.inl ⟨by decide, by decide⟩))) (ev_c (v := .int 7))) (.inl ⟨by omega, by omega⟩))) (ev_c (v := .int 2147483629)) (by decide)) (ev_c (v := .int 65537)) (.inr ⟨by decide, by decide⟩)) (ev_var R5 (n := 5) rfl)) fun v6 H6 e6 r6 => k _ v6 H6 rfl (((((e1.trans e2).trans e3).trans e4).trans e5).trans e6) r6
/-- the seed -/
theorem ev_num {FC : Addr → Prop} {σ : L2.St} {H : Hp} {ta tb : TE} {ns : List Int} {ix : Int} (ha : EvD K FC ta σ H (.lst (ns.map di))) (hb : EvD K FC tb σ H (di ix)) : EvD K FC (tCall (spN K FC rNum) [] C8.E0 (tCons ta (tCons tb tNil))) σ H (di (lawNum ns ix)) := ev_callD (ea_cons ha (ea_cons hb ea_nil)) ⟨ns, ix, rfl, rfl⟩
/-! ### _law_names -/
abbrev s_law_names : Stmt := top 52
theorem sc_law_names : FnScope ["fields", "cells", "place", "found"] ["fields", "cells", "place"] (defScope s_law_names) := ⟨rfl, rfl, rfl, by decide +kernel, rfl, by decide +kernel, by decide +kernel⟩
def rLNames : List D → List D → Prop := fun ds es => ∃ f c p : Nat, f ≤ 3 ∧ c ≤ 2 ∧ p ≤ 2 ∧ ds = [di (f : Int), di (c : Int), di (p : Int)] ∧ es = (nmsFor f c p).map nmD
theorem cutD_to {α : Type} (xs : List α) (n : Nat) : cutD xs none (some (n : Int)) = xs.take n := by
  unfold cutD
  rw [HT.sIx_none, HT.sIx_nat, List.drop_zero, Nat.sub_zero, List.take_eq_take_min (i := n), Nat.min_comm n]
theorem ok_law_names (F : FnP K "_law_names" "_law_names" s_law_names f fd) (T : Tx K w mg a) : FnOk P w K mg base CX0 1 f fd ["fields", "cells", "place"] (spL K a.FC rLNames) := by
  refine fnL F sc_law_names (fun ds es h => ?_) (fun cdv A outer s H E hr => ⟨_, (pss_cons (ps_set (i := 3) sc_law_names.nd rfl (Or.inl rfl) (pe_op op_cat (pe_slice (sl_listK (K := K)) (pe_lst (pa_cons pe_str (pa_cons pe_str (pa_cons pe_str pa_nil)))) po_none (po_some (pv 0))) (pe_slice (sl_listK (K := K)) (pe_lst (pa_cons pe_str (pa_cons pe_str pa_nil))) po_none (po_some (pv 1)))))
    (pss_one (ps_ret (pe_op op_cat (pv 3) (pe_slice (sl_listK (K := K)) (pe_lst (pa_cons pe_str (pa_cons pe_str pa_nil))) po_none (po_some (pv 2))))))), ?_⟩)
  · obtain ⟨f, c, p, _, _, _, rfl, _⟩ := h
    rfl
  · rintro ds es vs Q ⟨f, c, p, hf, hc, hp, rfl, rfl⟩ _ R k
    have l1 : EvL K a.FC (tSl (rSlL K) (tLst (tCons (tC (.str "f0")) (tCons (tC (.str "f1")) (tCons (tC (.str "f2")) tNil)))) tNoPart (tPart (tVar 0))) (start ["fields", "cells", "place", "found"] vs) H (([Nm.f0, Nm.f1, Nm.f2].take f).map nmD) := by
      have h := el_slL (K := K) (FC := a.FC) (ev_lst (ea_cons (ev_c (v := .str "f0")) (ea_cons (ev_c (v := .str "f1")) (ea_cons (ev_c (v := .str "f2")) ea_nil)))).toD eo_none (eo_some (ev_var R (n := 0) rfl))
      rw [cutD_to] at h
      rw [List.map_take]
      exact h
    have l2 : EvL K a.FC (tSl (rSlL K) (tLst (tCons (tC (.str "c0")) (tCons (tC (.str "c1")) tNil))) tNoPart (tPart (tVar 1))) (start ["fields", "cells", "place", "found"] vs) H (([Nm.c0, Nm.c1].take c).map nmD) := by
      have h := el_slL (K := K) (FC := a.FC) (ev_lst (ea_cons (ev_c (v := .str "c0")) (ea_cons (ev_c (v := .str "c1")) ea_nil))).toD eo_none (eo_some (ev_var R (n := 1) rfl))
      rw [cutD_to] at h
      rw [List.map_take]
      exact h
    refine st_seq (st_setL R (el_cat l1.toW l2.toW (by simp; omega)) fun p1 us H1 hp1 e1 hl1 r1 R1 => ?_)
    have l3 : EvL K a.FC (tSl (rSlL K) (tLst (tCons (tC (.str "p0")) (tCons (tC (.str "p1")) tNil))) tNoPart (tPart (tVar 2))) ((start ["fields", "cells", "place", "found"] vs).set 3 (some (.ref p1))) H1 (([Nm.p0, Nm.p1].take p).map nmD) := by
      have h := el_slL (K := K) (FC := a.FC) (ev_lst (ea_cons (ev_c (v := .str "p0")) (ea_cons (ev_c (v := .str "p1")) ea_nil))).toD eo_none (eo_some (ev_var R1 (n := 2) rfl))
      rw [cutD_to] at h
      rw [List.map_take]
      exact h
    refine st_retL (el_cat (ew_var R1 (n := 3) rfl hl1 r1) l3.toW (by simp; omega)) fun p2 us2 H2 hp2 e2 hl2 r2 => k p2 us2 H2 (fresh_back e1 hp2) (e1.trans e2) hl2 (by
      unfold nmsFor
      rw [List.map_append, List.map_append, ← List.append_assoc]
      exact r2)
/-! ### _law_rule -/
abbrev s_law_rule : Stmt := top 53
theorem sc_law_rule : FnScope ["script", "at", "names", "seed", "spot", "name"] ["script", "at", "names"] (defScope s_law_rule) := ⟨rfl, rfl, rfl, by decide +kernel, rfl, by decide +kernel, by decide +kernel⟩
/-- a rule as the law draws it -/
def Rl.pd : Rl → D
  | .none => dn
  | .reads => dz "reads"
  | .shown => dz "shown"
  | .key l => .tup (l.map nmD)
theorem Rl.pd_noL (r : Rl) : NoL r.pd := by
  cases r with
  | key l => exact .tup (nms_noL _)
  | _ => exact .at _
def rLRule : List D → (D → Prop) → Prop := fun ds Pd => ∃ (ns : List Int) (at_ : Int) (l : List Nm), l.length ≤ 7 ∧ ds = [.lst (ns.map di), di at_, .lst (l.map nmD)] ∧ Pd = fun d => ∃ r : Rl, d = r.pd ∧ r.ok l
theorem ok_law_rule (F : FnP K "_law_rule" "_law_rule" s_law_rule f fd) (T : Tx K w mg a) (c_law_number : C8.Cal P w K mg base 1 "_law_number" (spN K a.FC rNum) []) : FnOk P w K mg base CX0 2 f fd ["script", "at", "names"] (spN K a.FC rLRule) := by
  refine fnN F sc_law_rule (fun ds Pd h => ?_) (fun cdv A outer s H E hr => ⟨_, (pss_cons (ps_set (i := 3) sc_law_rule.nd rfl (Or.inr rfl) (C8.pe_c c_law_number hr (by omega) (by rfl) (pa_cons (pv 0) (pa_cons (pv 1) pa_nil))))
    (pss_cons (ps_if (pt_cmpR op_lt (pe_op op_mod (pe_callTy call_int1 (by rfl) T.f_int (by decide +kernel) (pa_cons (pv 3) pa_nil)) pe_int) pe_int (nomark _)) (pss_one (ps_ret (pe_callTy (call_tupK (K := K)) (by rfl) T.f_tuple (by decide +kernel) (pa_cons (pe_lc (own := [("spot", 4), ("name", 5)]) rfl sc_law_rule.nd (pi_enum (by rfl) T.f_enumerate (pa_cons (pv 2) pa_nil)) (blkOk_by (own := [("spot", 4), ("name", 5)]) (N := ["script", "at", "names", "seed", "spot", "name"]) (sc := defScope s_law_rule) (by decide +kernel)) (fun _ _ _ _ _ => (pg_tupK (K := K) (n := 2) (by rfl) (pgs_cons (pg_name (i := 4) sc_law_rule.nd (by rfl) (.inl (by rfl)) (by first | exact .inl rfl | exact .inr rfl)) (pgs_cons (pg_name (i := 5) sc_law_rule.nd (by rfl) (.inl (by rfl)) (by first | exact .inl rfl | exact .inr rfl)) pgs_nil)))) (fun _ _ _ _ _ => (pts_one (pt_cmpR op_gt (pe_op op_mod (pe_callTy call_int1 (by rfl) T.f_int (by decide +kernel) (pa_cons (pe_op op_fdiv (pv 3) (pe_op op_add pe_int (pe_op op_mul pe_int (pv 4)))) pa_nil)) pe_int) pe_int (nomark _)))) (fun _ _ _ _ _ => (pv 5))) pa_nil)))) pss_nil)
    (pss_one (ps_ret (pe_ix (ix_tupK (K := K)) (pe_tup (pa_cons pe_non (pa_cons pe_str (pa_cons pe_str pa_nil)))) (pe_op op_mod (pe_callTy call_int1 (by rfl) T.f_int (by decide +kernel) (pa_cons (pv 3) pa_nil)) pe_int) (fun _ _ => rfl)))))), ?_⟩)
  · obtain ⟨ns, at_, l, _, rfl, _⟩ := h
    rfl
  · rintro ds Pd vs Q ⟨ns, at_, l, hl, rfl, rfl⟩ R k
    refine st_setS R (ev_num (ev_var R (n := 0) rfl) (ev_var R (n := 1) rfl)) fun v1 H1 e1 r1 R1 => ?_
    have R1 : RepE K a.FC H1 [some (.lst (ns.map di)), some (di at_), some (.lst (l.map nmD)), some (di (lawNum ns at_)), none, none] _ := R1
    have hs := lawNum_b ns at_
    have ht := et_test (ev_lt (ev_mod (ev_int (ev_var R1 (n := 3) rfl)) (ev_c (v := .int 6)) (by decide)) (ev_c (v := .int 3)))
    by_cases hc : lawNum ns at_ % 6 < 3
    · refine st_seq (st_yes (ht.to (decide_eq_true hc)) fun H2 e2 => ?_)
      have R2 := R1.mono e2
      have hen := evi_enum (K := K) (FC := a.FC) (ds := l.map nmD) (ea_cons (ev_var R2 (n := 2) rfl) ea_nil)
      rw [List.length_map] at hen
      have hat : ∀ i ∈ List.range l.length, ∃ x, x ∈ l ∧ (l.map nmD).getD i dn = nmD x := fun i hi => by
        have li := List.mem_range.mp hi
        exact ⟨l[i], List.getElem_mem li, by rw [List.getD_eq_getElem?_getD, List.getElem?_map, List.getElem?_eq_getElem li]; rfl⟩
      have hlc := el_lc (vs := [4, 5]) (α := Nat) (xs := List.range l.length) (dof := fun k => .tup [di (k : Int), (l.map nmD).getD k dn]) (f := fun k => (l.map nmD).getD k dn) (p := fun k => decide (0 < lawNum ns at_ / (6 + 5 * (k : Int)) % 3)) R2 hen (fun i _ => bind_pair (n := 4) (m := 5) (by simp) (by simp))
        (fun i hi σ' H' e R' => et_test (ev_gt (ev_mod (ev_int (ev_div (ev_var R' (n := 3) rfl) (ev_add (ev_c (v := .int 6)) (ev_mul (ev_c (v := .int 5)) (ev_var R' (n := 4) rfl) (.inl ⟨by decide, by decide⟩))) ⟨by omega, by have := List.mem_range.mp hi; omega⟩)) (ev_c (v := .int 3)) (by decide)) (ev_c (v := .int 0))))
        (fun i hi _ σ' H' e R' => ev_var R' (n := 5) rfl) (fun i hi => by obtain ⟨x, _, hx⟩ := hat i hi; rw [hx]; exact .at _) (by rw [List.length_range]; omega)
      obtain ⟨l', h1, h2, h3⟩ : ∃ l' : List Nm, ((List.range l.length).filter fun (k : Nat) => decide (0 < lawNum ns at_ / (6 + 5 * (k : Int)) % 3)).map (fun k => (l.map nmD).getD k dn) = l'.map nmD ∧ l'.length ≤ l.length ∧ ∀ x ∈ l', x ∈ l := by
        have key : ∀ L : List Nat, (∀ i ∈ L, i ∈ List.range l.length) → ∃ l' : List Nm, L.map (fun k => (l.map nmD).getD k dn) = l'.map nmD ∧ l'.length = L.length ∧ ∀ x ∈ l', x ∈ l := fun L => by
          induction L with
          | nil => exact fun _ => ⟨[], rfl, rfl, fun x h => nomatch h⟩
          | cons i L ih =>
            intro hL
            obtain ⟨l', q1, q2, q3⟩ := ih fun j hj => hL j (List.mem_cons_of_mem _ hj)
            obtain ⟨x, hx, ex⟩ := hat i (hL i List.mem_cons_self)
            exact ⟨x :: l', by rw [List.map_cons, List.map_cons, q1, ex], by simp [q2], fun y hy => (List.mem_cons.mp hy).elim (fun z => z ▸ hx) (q3 y)⟩
        obtain ⟨l', q1, q2, q3⟩ := key ((List.range l.length).filter fun (k : Nat) => decide (0 < lawNum ns at_ / (6 + 5 * (k : Int)) % 3)) fun i hi => (List.mem_filter.mp hi).1
        exact ⟨l', q1, by rw [q2]; exact Nat.le_trans (List.length_filter_le _ _) (by rw [List.length_range]; exact Nat.le_refl _), q3⟩
      rw [h1] at hlc
      exact st_ret (ev_tupL hlc) fun v H3 e3 r3 => k _ v H3 ⟨.key l', rfl, by omega, h3⟩ ((e1.trans e2).trans e3) r3
    · refine st_skipS (ht.to (decide_eq_false hc)) fun H2 e2 => ?_
      have R2 := R1.mono e2
      obtain ⟨x, hx, hat⟩ := atI_mod [dn, dz "reads", dz "shown"] (List.cons_ne_nil _ _) (lawNum ns at_)
      refine st_ret (ev_ixT (ev_tup (ea_cons (ev_c (v := .non)) (ea_cons (ev_c (v := .str "reads")) (ea_cons (ev_c (v := .str "shown")) ea_nil))) (by show 3 ≤ sizeLine; decide)) (ev_mod (ev_int (ev_var R2 (n := 3) rfl)) (ev_c (v := .int 3)) (by decide)) hat) fun v H3 e3 r3 => k _ v H3 ?_ ((e1.trans e2).trans e3) r3
      simp at hx
      rcases hx with rfl | rfl | rfl
      · exact ⟨.none, rfl, trivial⟩
      · exact ⟨.reads, rfl, trivial⟩
      · exact ⟨.shown, rfl, trivial⟩
end
end T34

/-! Kd20 -/
set_option maxHeartbeats 4000000
namespace T34
open PySem PySem.Spec PyProof.Rows L2
local macro_rules | `(tactic| walk_at "ev") => `(tactic| (first
  | (with_reducible exact ev_c)
  | ((with_reducible refine' ev_var ?R ?h); (case R => assumption); (case h => rfl))
  | (with_reducible refine' ea_cons ?_ ?_)
  | (with_reducible exact ea_nil)
  | (with_reducible refine' ev_add ?_ ?_)
  | (with_reducible refine' ev_sub ?_ ?_)
  | (with_reducible refine' ev_mul ?_ ?_ ?_)
  | (with_reducible refine' ev_mod ?_ ?_ ?_)
  | (with_reducible refine' ev_div ?_ ?_ ?_)
  | (with_reducible refine' ev_lt ?_ ?_)
  | (with_reducible refine' ev_le ?_ ?_)
  | (with_reducible refine' ev_gt ?_ ?_)
  | (with_reducible refine' ev_ge ?_ ?_)
  | (with_reducible refine' ev_int ?_)
  | (with_reducible refine' ev_not ?_)
  | (with_reducible refine' ev_tup ?_)
  | (with_reducible refine' ev_between ?_ ?_ ?_)
  | (with_reducible refine' et_test ?_)
  | (with_reducible refine' et_B ?_)
  | (with_reducible refine' et_not ?_)))
section
variable {P : Program} {w : World} {K : PySem.W.Frag} {mg : Str → Option Value} {base : Heap} {a : Ad} {f : Addr} {fd : FuncData}
/-! ### _law_grown -/
abbrev s_law_grown : Stmt := top 50
theorem sc_law_grown : FnScope ["rest", "leaves", "size", "word", "one", "many", "two", "three"] ["rest", "leaves", "size"] (defScope s_law_grown) := ⟨rfl, rfl, rfl, by decide +kernel, rfl, by decide +kernel, by decide +kernel⟩
def rGrown (n : Nat) : List D → (D → Prop) → Prop := fun ds Pd => ∃ (r : Int) (ls : List Lf) (k : Nat), 1 ≤ k ∧ k ≤ n ∧ ls ≠ [] ∧ ls.length ≤ 10 ∧ ds = [di r, .lst (ls.map Lf.d), di (k : Int)] ∧
  Pd = fun x => ∃ d e, x = .tup [d, e] ∧ ∃ (m : Fm) (r' : Int), d = m.d ∧ e = di r' ∧ m.lvs.length = k ∧ m.depth + 1 ≤ k ∧ ∀ l ∈ m.lvs, l ∈ ls
theorem word5 {x : D} (h : x ∈ [dz "sum", dz "less", dz "times", dz "same", dz "when"]) : (∃ o : Bw, x = dz o.s ∧ decide (V.str o.s = V.str "when") = false) ∨ x = dz "when" := by
  simp at h
  rcases h with rfl | rfl | rfl | rfl | rfl
  · exact .inl ⟨.sum, rfl, by decide⟩
  · exact .inl ⟨.less, rfl, by decide⟩
  · exact .inl ⟨.times, rfl, by decide⟩
  · exact .inl ⟨.same, rfl, by decide⟩
  · exact .inr rfl
theorem grow_many {r : Int} {n : Nat} (h : 1 ≤ n) : ∃ j : Nat, 1 + r % (n : Int) = (j : Int) ∧ 1 ≤ j ∧ j ≤ n := by
  have h1 : 0 ≤ r % (n : Int) := Int.emod_nonneg _ (by omega)
  have h2 : r % (n : Int) < n := Int.emod_lt_of_pos _ (by omega)
  exact ⟨(1 + r % (n : Int)).toNat, by omega, by omega, by omega⟩
theorem atI_modM {α β : Type} (f : α → β) (xs : List α) (h : xs ≠ []) (r : Int) : ∃ x ∈ xs, atI (xs.map f) (r % ((xs.map f).length : Int)) = some (f x) := by
  obtain ⟨y, hy, hat⟩ := atI_mod (xs.map f) (by simpa using h) r
  obtain ⟨x, hx, rfl⟩ := List.mem_map.mp hy
  exact ⟨x, hx, hat⟩
theorem ok_law_grown (F : FnP K "_law_grown" "_law_grown" s_law_grown f fd) (T : Tx K w mg a) (mgf : mg "_law_grown" = some (.ref f)) (b : Binds K fd ["rest", "leaves", "size"] []) : ∀ n, FnOk P w K mg base CX0 (n + 1) f fd ["rest", "leaves", "size"] (spN K a.FC (rGrown n))
  | 0 => ⟨fun vs H Q E h => by
      obtain ⟨ds, Pd, ⟨r, ls, k, h1, h2, _⟩, _⟩ := h
      omega, fun _ _ _ _ _ _ _ _ _ _ _ _ _ h => by
      obtain ⟨ds, Pd, ⟨r, ls, k, h1, h2, _⟩, _⟩ := h
      omega⟩
  | n + 1 => by
    have ih := ok_law_grown F T mgf b n
    have c_law_grown : C8.Cal P w K mg base (n + 1) "_law_grown" (spN K a.FC (rGrown n)) [] := ⟨_, _, _, _, ih, mgf, F.kp, b, .nil⟩
    refine fnN F sc_law_grown (fun ds Pd h => ?_) (fun cdv A outer s H E hr => ⟨_, (pss_cons (ps_if (pt_cmpR op_eq (pv 2) pe_int (nomark _)) (pss_one (ps_ret (pe_tup (pa_cons (pe_ix (ix_listK (K := K)) (pv 1) (pe_op op_mod (pe_callTy call_int1 (by rfl) T.f_int (by decide +kernel) (pa_cons (pv 0) pa_nil)) (pe_callB (call_lenK (K := K)) (by rfl) T.f_len (by decide +kernel) (pa_cons (pv 1) pa_nil))) (fun _ _ => rfl)) (pa_cons (pe_op op_fdiv (pv 0) (pe_callB (call_lenK (K := K)) (by rfl) T.f_len (by decide +kernel) (pa_cons (pv 1) pa_nil))) pa_nil))))) pss_nil)
    (pss_cons (ps_par (i := 3) (j := 0) (by rfl) sc_law_grown.nd rfl rfl (by decide) rfl rfl (pa_cons (pe_ix (ix_tupK (K := K)) (pe_tup (pa_cons pe_str (pa_cons pe_str (pa_cons pe_str (pa_cons pe_str (pa_cons pe_str pa_nil)))))) (pe_op op_mod (pe_callTy call_int1 (by rfl) T.f_int (by decide +kernel) (pa_cons (pv 0) pa_nil)) pe_int) (fun _ _ => rfl)) (pa_cons (pe_op op_fdiv (pv 0) pe_int) pa_nil)) (by rfl))
    (pss_cons (ps_if (PW.pt (pw_and (pt_cmpR op_eq (pv 3) pe_str (nomark _)) (pw_and1 (pt_cmpR op_gt (pv 2) pe_int (nomark _))))) (pss_cons (ps_asg (C8.pe_c c_law_grown hr (by omega) (by rfl) (pa_cons (pv 0) (pa_cons (pv 1) (pa_cons pe_int pa_nil)))) (pg_tupK (K := K) (n := 2) (by rfl) (pgs_cons (pg_name (i := 4) sc_law_grown.nd (by rfl) (.inl (by rfl)) (by first | exact .inl rfl | exact .inr rfl)) (pgs_cons (pg_name (i := 0) sc_law_grown.nd (by rfl) (.inl (by rfl)) (by first | exact .inl rfl | exact .inr rfl)) pgs_nil))))
    (pss_cons (ps_par (i := 5) (j := 0) (by rfl) sc_law_grown.nd rfl rfl (by decide) rfl rfl (pa_cons (pe_op op_add pe_int (pe_op op_mod (pe_callTy call_int1 (by rfl) T.f_int (by decide +kernel) (pa_cons (pv 0) pa_nil)) (pe_op op_sub (pv 2) pe_int))) (pa_cons (pe_op op_fdiv (pv 0) pe_int) pa_nil)) (by rfl))
    (pss_cons (ps_asg (C8.pe_c c_law_grown hr (by omega) (by rfl) (pa_cons (pv 0) (pa_cons (pv 1) (pa_cons (pv 5) pa_nil)))) (pg_tupK (K := K) (n := 2) (by rfl) (pgs_cons (pg_name (i := 6) sc_law_grown.nd (by rfl) (.inl (by rfl)) (by first | exact .inl rfl | exact .inr rfl)) (pgs_cons (pg_name (i := 0) sc_law_grown.nd (by rfl) (.inl (by rfl)) (by first | exact .inl rfl | exact .inr rfl)) pgs_nil))))
    (pss_cons (ps_asg (C8.pe_c c_law_grown hr (by omega) (by rfl) (pa_cons (pv 0) (pa_cons (pv 1) (pa_cons (pe_op op_sub (pe_op op_sub (pv 2) pe_int) (pv 5)) pa_nil)))) (pg_tupK (K := K) (n := 2) (by rfl) (pgs_cons (pg_name (i := 7) sc_law_grown.nd (by rfl) (.inl (by rfl)) (by first | exact .inl rfl | exact .inr rfl)) (pgs_cons (pg_name (i := 0) sc_law_grown.nd (by rfl) (.inl (by rfl)) (by first | exact .inl rfl | exact .inr rfl)) pgs_nil))))
    (pss_one (ps_ret (pe_tup (pa_cons (pe_tup (pa_cons pe_str (pa_cons (pv 4) (pa_cons (pv 6) (pa_cons (pv 7) pa_nil))))) (pa_cons (pv 0) pa_nil))))))))) pss_nil)
    (pss_cons (ps_par (i := 5) (j := 0) (by rfl) sc_law_grown.nd rfl rfl (by decide) rfl rfl (pa_cons (pe_op op_add pe_int (pe_op op_mod (pe_callTy call_int1 (by rfl) T.f_int (by decide +kernel) (pa_cons (pv 0) pa_nil)) (pe_op op_sub (pv 2) pe_int))) (pa_cons (pe_op op_fdiv (pv 0) pe_int) pa_nil)) (by rfl))
    (pss_cons (ps_asg (C8.pe_c c_law_grown hr (by omega) (by rfl) (pa_cons (pv 0) (pa_cons (pv 1) (pa_cons (pv 5) pa_nil)))) (pg_tupK (K := K) (n := 2) (by rfl) (pgs_cons (pg_name (i := 4) sc_law_grown.nd (by rfl) (.inl (by rfl)) (by first | exact .inl rfl | exact .inr rfl)) (pgs_cons (pg_name (i := 0) sc_law_grown.nd (by rfl) (.inl (by rfl)) (by first | exact .inl rfl | exact .inr rfl)) pgs_nil))))
    (pss_cons (ps_asg (C8.pe_c c_law_grown hr (by omega) (by rfl) (pa_cons (pv 0) (pa_cons (pv 1) (pa_cons (pe_op op_sub (pv 2) (pv 5)) pa_nil)))) (pg_tupK (K := K) (n := 2) (by rfl) (pgs_cons (pg_name (i := 6) sc_law_grown.nd (by rfl) (.inl (by rfl)) (by first | exact .inl rfl | exact .inr rfl)) (pgs_cons (pg_name (i := 0) sc_law_grown.nd (by rfl) (.inl (by rfl)) (by first | exact .inl rfl | exact .inr rfl)) pgs_nil))))
    (pss_one (ps_ret (pe_tup (pa_cons (pe_tup (pa_cons (pe_ifExp (pt_cmpR op_eq (pv 3) pe_str (nomark _)) pe_str (pv 3)) (pa_cons (pv 4) (pa_cons (pv 6) pa_nil)))) (pa_cons (pv 0) pa_nil))))))))))), ?_⟩)
    · obtain ⟨r, ls, k, _, _, _, _, rfl, _⟩ := h
      rfl
    · rintro ds Pd vs Q ⟨r, ls, k, k1, kn, hne, hll, rfl, rfl⟩ R kq
      have hlen : 0 < ls.length := List.length_pos_iff.mpr hne
      have hml : (ls.map Lf.d).length = ls.length := List.length_map ..
      have ht := et_test (ev_eq (ev_var R (n := 2) rfl) (ev_c (v := .int 1)) rfl)
      by_cases hk1 : k = 1
      · subst hk1
        refine st_seq (st_yes (ht.to (by decide)) fun H1 e1 => ?_)
        have R1 := R.mono e1
        obtain ⟨l, hl, hat⟩ := atI_modM Lf.d ls hne r
        refine st_ret (ev_tup (ea_cons (ev_ixL (ev_var R1 (n := 1) rfl) (ev_mod (ev_int (ev_var R1 (n := 0) rfl)) (ev_lenL (ev_var R1 (n := 1) rfl)) (by rw [hml]; omega)) hat) (ea_cons (ev_div (ev_var R1 (n := 0) rfl) (ev_lenL (ev_var R1 (n := 1) rfl)) ⟨by rw [hml]; omega, by rw [hml]; omega⟩) ea_nil)) (by show 2 ≤ sizeLine; decide)) fun v H2 e2 r2 =>
          kq _ v H2 ⟨_, _, rfl, .leaf l, _, rfl, rfl, rfl, Nat.le_refl _, fun x hx => by rw [List.mem_singleton.mp hx]; exact hl⟩ (e1.trans e2) r2
      · have k2 : 2 ≤ k := by omega
        refine st_skipS (ht.to (decide_eq_false fun z => hk1 (by have := V.int.inj z; omega))) fun H1 e1 => ?_
        have R1 := R.mono e1
        obtain ⟨x5, hx5, hat5⟩ := atI_mod [dz "sum", dz "less", dz "times", dz "same", dz "when"] (List.cons_ne_nil _ _) r
        refine st_par R1 (ea_cons (ev_ixT (ev_tup (ea_cons (ev_c (v := .str "sum")) (ea_cons (ev_c (v := .str "less")) (ea_cons (ev_c (v := .str "times")) (ea_cons (ev_c (v := .str "same")) (ea_cons (ev_c (v := .str "when")) ea_nil))))) (by show 5 ≤ sizeLine; decide)) (ev_mod (ev_int (ev_var R1 (n := 0) rfl)) (ev_c (v := .int 5)) (by decide)) hat5) (ea_cons (ev_div (ev_var R1 (n := 0) rfl) (ev_c (v := .int 5)) ⟨by decide, by decide⟩) ea_nil)) fun σ2 H2 e2 R2 => ?_
        obtain ⟨r2, hr2⟩ : ∃ r2 : Int, r2 = r / 5 := ⟨_, rfl⟩
        have R2 : RepE K a.FC H2 [some (di r2), some (.lst (ls.map Lf.d)), some (di (k : Int)), some x5, none, none, none, none] σ2 := by rw [hr2]; exact R2
        have e02 := e1.trans e2
        by_cases hA : x5 = dz "when" ∧ 2 < k
        · obtain ⟨rfl, hk2⟩ := hA
          refine st_seq (st_yes ((et_and (et_test (ev_eq (ev_var R2 (n := 3) rfl) (ev_c (v := .str "when")) rfl)) fun _ => et_test (ev_gt (ev_var R2 (n := 2) rfl) (ev_c (v := .int 2)))).to (by rw [decide_eq_true (show (2 : Int) < (k : Int) by omega)]; decide)) fun H3 e3 => ?_)
          have R3 := R2.mono e3
          refine st_pairP (n := 4) (m := 0) (by decide) R3 (ev_call (ea_cons (ev_var R3 (n := 0) rfl) (ea_cons (ev_var R3 (n := 1) rfl) (ea_cons (ev_c (v := .int 1)) ea_nil))) ⟨r2, ls, 1, Nat.le_refl _, by omega, hne, hll, rfl, rfl⟩) fun d1 d2 σ4 H4 p4 e4 R4 => ?_
          obtain ⟨m1, r4, rfl, rfl, ml1, md1, mm1⟩ := p4
          have R4 : RepE K a.FC H4 [some (di r4), some (.lst (ls.map Lf.d)), some (di (k : Int)), some (dz "when"), some m1.d, none, none, none] σ4 := R4
          obtain ⟨j, hj, j1, j2⟩ := grow_many (r := r4) (n := k - 2) (by omega)
          refine st_par R4 (ea_cons ((ev_add (ev_c (v := .int 1)) (ev_mod (ev_int (ev_var R4 (n := 0) rfl)) (ev_sub (ev_var R4 (n := 2) rfl) (ev_c (v := .int 2))) (by omega))).to (d' := di (j : Int)) (by rw [← hj, show ((k : Int) - 2) = ((k - 2 : Nat) : Int) by omega])) (ea_cons (ev_div (ev_var R4 (n := 0) rfl) (ev_c (v := .int 5)) ⟨by decide, by decide⟩) ea_nil)) fun σ5 H5 e5 R5 => ?_
          obtain ⟨r5, hr5⟩ : ∃ r5 : Int, r5 = r4 / 5 := ⟨_, rfl⟩
          have R5 : RepE K a.FC H5 [some (di r5), some (.lst (ls.map Lf.d)), some (di (k : Int)), some (dz "when"), some m1.d, some (di (j : Int)), none, none] σ5 := by rw [hr5]; exact R5
          refine st_pairP (n := 6) (m := 0) (by decide) R5 (ev_call (ea_cons (ev_var R5 (n := 0) rfl) (ea_cons (ev_var R5 (n := 1) rfl) (ea_cons (ev_var R5 (n := 5) rfl) ea_nil))) ⟨r5, ls, j, j1, by omega, hne, hll, rfl, rfl⟩) fun d1 d2 σ6 H6 p6 e6 R6 => ?_
          obtain ⟨m2, r6, rfl, rfl, ml2, md2, mm2⟩ := p6
          have R6 : RepE K a.FC H6 [some (di r6), some (.lst (ls.map Lf.d)), some (di (k : Int)), some (dz "when"), some m1.d, some (di (j : Int)), some m2.d, none] σ6 := R6
          refine st_pairP (n := 7) (m := 0) (by decide) R6 (ev_call (ea_cons (ev_var R6 (n := 0) rfl) (ea_cons (ev_var R6 (n := 1) rfl) (ea_cons ((ev_sub (ev_sub (ev_var R6 (n := 2) rfl) (ev_c (v := .int 1))) (ev_var R6 (n := 5) rfl)).to (d' := di ((k - 1 - j : Nat) : Int)) (congrArg di (by omega))) ea_nil))) ⟨r6, ls, k - 1 - j, by omega, by omega, hne, hll, rfl, rfl⟩) fun d1 d2 σ7 H7 p7 e7 R7 => ?_
          obtain ⟨m3, r7, rfl, rfl, ml3, md3, mm3⟩ := p7
          have R7 : RepE K a.FC H7 [some (di r7), some (.lst (ls.map Lf.d)), some (di (k : Int)), some (dz "when"), some m1.d, some (di (j : Int)), some m2.d, some m3.d] σ7 := R7
          refine st_ret (ev_tup (ea_cons (ev_tup (ea_cons (ev_c (v := .str "when")) (ea_cons (ev_var R7 (n := 4) rfl) (ea_cons (ev_var R7 (n := 6) rfl) (ea_cons (ev_var R7 (n := 7) rfl) ea_nil)))) (by show 4 ≤ sizeLine; decide)) (ea_cons (ev_var R7 (n := 0) rfl) ea_nil)) (by show 2 ≤ sizeLine; decide)) fun v H8 e8 r8 =>
            kq _ v H8 ⟨_, _, rfl, .whn m1 m2 m3, _, rfl, rfl, ?_, ?_, ?_⟩ ((((((e02.trans e3).trans e4).trans e5).trans e6).trans e7).trans e8) r8
          · show (m1.lvs ++ (m2.lvs ++ m3.lvs)).length = k
            rw [List.length_append, List.length_append]
            omega
          · show max m1.depth (max m2.depth m3.depth) + 1 + 1 ≤ k
            omega
          · intro l hl
            have hl : l ∈ m1.lvs ++ (m2.lvs ++ m3.lvs) := hl
            rcases List.mem_append.mp hl with z | z
            · exact mm1 l z
            · rcases List.mem_append.mp z with z | z
              · exact mm2 l z
              · exact mm3 l z
        · obtain ⟨z5, rfl⟩ : ∃ z5 : Str, x5 = dz z5 := by
            rcases word5 hx5 with ⟨o, rfl, _⟩ | rfl
            · exact ⟨_, rfl⟩
            · exact ⟨_, rfl⟩
          refine st_skipS ((et_and (et_test (ev_eq (ev_var R2 (n := 3) rfl) (ev_c (v := .str "when")) rfl)) fun _ => et_test (ev_gt (ev_var R2 (n := 2) rfl) (ev_c (v := .int 2)))).to (by
            by_cases q : z5 = "when"
            · rw [decide_eq_false (show ¬ (2 : Int) < (k : Int) from fun z => hA ⟨by rw [q], by omega⟩), Bool.and_false]
            · rw [decide_eq_false fun z => q (V.str.inj z), Bool.false_and])) fun H3 e3 => ?_
          have R3 := R2.mono e3
          obtain ⟨j, hj, j1, j2⟩ := grow_many (r := r2) (n := k - 1) (by omega)
          refine st_par R3 (ea_cons ((ev_add (ev_c (v := .int 1)) (ev_mod (ev_int (ev_var R3 (n := 0) rfl)) (ev_sub (ev_var R3 (n := 2) rfl) (ev_c (v := .int 1))) (by omega))).to (d' := di (j : Int)) (by rw [← hj, show ((k : Int) - 1) = ((k - 1 : Nat) : Int) by omega])) (ea_cons (ev_div (ev_var R3 (n := 0) rfl) (ev_c (v := .int 7)) ⟨by decide, by decide⟩) ea_nil)) fun σ5 H5 e5 R5 => ?_
          obtain ⟨r5, hr5⟩ : ∃ r5 : Int, r5 = r2 / 7 := ⟨_, rfl⟩
          have R5 : RepE K a.FC H5 [some (di r5), some (.lst (ls.map Lf.d)), some (di (k : Int)), some (dz z5), none, some (di (j : Int)), none, none] σ5 := by rw [hr5]; exact R5
          refine st_pairP (n := 4) (m := 0) (by decide) R5 (ev_call (ea_cons (ev_var R5 (n := 0) rfl) (ea_cons (ev_var R5 (n := 1) rfl) (ea_cons (ev_var R5 (n := 5) rfl) ea_nil))) ⟨r5, ls, j, j1, by omega, hne, hll, rfl, rfl⟩) fun d1 d2 σ6 H6 p6 e6 R6 => ?_
          obtain ⟨m1, r6, rfl, rfl, ml1, md1, mm1⟩ := p6
          have R6 : RepE K a.FC H6 [some (di r6), some (.lst (ls.map Lf.d)), some (di (k : Int)), some (dz z5), some m1.d, some (di (j : Int)), none, none] σ6 := R6
          refine st_pairP (n := 6) (m := 0) (by decide) R6 (ev_call (ea_cons (ev_var R6 (n := 0) rfl) (ea_cons (ev_var R6 (n := 1) rfl) (ea_cons ((ev_sub (ev_var R6 (n := 2) rfl) (ev_var R6 (n := 5) rfl)).to (d' := di ((k - j : Nat) : Int)) (congrArg di (by omega))) ea_nil))) ⟨r6, ls, k - j, by omega, by omega, hne, hll, rfl, rfl⟩) fun d1 d2 σ7 H7 p7 e7 R7 => ?_
          obtain ⟨m2, r7, rfl, rfl, ml2, md2, mm2⟩ := p7
          have R7 : RepE K a.FC H7 [some (di r7), some (.lst (ls.map Lf.d)), some (di (k : Int)), some (dz z5), some m1.d, some (di (j : Int)), some m2.d, none] σ7 := R7
          obtain ⟨o, ho⟩ : ∃ o : Bw, (if decide (V.str z5 = V.str "when") = true then dz "sum" else dz z5) = dz o.s := by
            rcases word5 hx5 with ⟨o, h1, h2⟩ | h1
            · cases h1
              rw [h2]
              exact ⟨o, rfl⟩
            · cases h1
              exact ⟨.sum, rfl⟩
          refine st_ret (ev_tup (ea_cons (ev_tup (ea_cons ((ev_if (et_test (ev_eq (ev_var R7 (n := 3) rfl) (ev_c (v := .str "when")) rfl)) (fun _ => ev_c (v := .str "sum")) fun _ => ev_var R7 (n := 3) rfl).to ho) (ea_cons (ev_var R7 (n := 4) rfl) (ea_cons (ev_var R7 (n := 6) rfl) ea_nil))) (by show 3 ≤ sizeLine; decide)) (ea_cons (ev_var R7 (n := 0) rfl) ea_nil)) (by show 2 ≤ sizeLine; decide)) fun v H8 e8 r8 =>
            kq _ v H8 ⟨_, _, rfl, .bin o m1 m2, _, rfl, rfl, ?_, ?_, ?_⟩ ((((((e02.trans e3).trans e5).trans e6).trans e7)).trans e8) r8
          · show (m1.lvs ++ m2.lvs).length = k
            rw [List.length_append]
            omega
          · show max m1.depth m2.depth + 1 + 1 ≤ k
            omega
          · intro l hl
            have hl : l ∈ m1.lvs ++ m2.lvs := hl
            rcases List.mem_append.mp hl with z | z
            · exact mm1 l z
            · exact mm2 l z
/-! ### _law_form -/
abbrev s_law_form : Stmt := top 51
theorem sc_law_form : FnScope ["script", "at", "leaves", "seed", "rest"] ["script", "at", "leaves"] (defScope s_law_form) := ⟨rfl, rfl, rfl, by decide +kernel, rfl, by decide +kernel, by decide +kernel⟩
def rLForm : List D → (D → Prop) → Prop := fun ds Pd => ∃ (ns : List Int) (at_ : Int) (ls : List Lf), ls ≠ [] ∧ ls.length ≤ 10 ∧ ds = [.lst (ns.map di), di at_, .lst (ls.map Lf.d)] ∧ Pd = fun x => ∃ m : Fm, x = m.d ∧ m.lvs.length ≤ 5 ∧ m.depth ≤ 4 ∧ ∀ l ∈ m.lvs, l ∈ ls
theorem ok_law_form (F : FnP K "_law_form" "_law_form" s_law_form f fd) (T : Tx K w mg a) (c_law_number : C8.Cal P w K mg base 1 "_law_number" (spN K a.FC rNum) []) (c_law_grown : C8.Cal P w K mg base 6 "_law_grown" (spN K a.FC (rGrown 5)) []) : FnOk P w K mg base CX0 7 f fd ["script", "at", "leaves"] (spN K a.FC rLForm) := by
  refine fnN F sc_law_form (fun ds Pd h => ?_) (fun cdv A outer s H E hr => ⟨_, (pss_cons (ps_set (i := 3) sc_law_form.nd rfl (Or.inl rfl) (C8.pe_c c_law_number hr (by omega) (by rfl) (pa_cons (pv 0) (pa_cons (pv 1) pa_nil))))
    (pss_cons (ps_set (i := 4) sc_law_form.nd rfl (Or.inl rfl) (pe_op op_add (pe_op op_mul (C8.pe_c c_law_number hr (by omega) (by rfl) (pa_cons (pv 0) (pa_cons (pe_op op_add (pv 1) pe_int) pa_nil))) (pe_op op_pow pe_int pe_int)) (C8.pe_c c_law_number hr (by omega) (by rfl) (pa_cons (pv 0) (pa_cons (pe_op op_add (pv 1) pe_int) pa_nil)))))
    (pss_one (ps_ret (pe_ix (ix_tupK (K := K)) (C8.pe_c c_law_grown hr (by omega) (by rfl) (pa_cons (pv 4) (pa_cons (pv 2) (pa_cons (pe_op op_add pe_int (pe_op op_mod (pe_callTy call_int1 (by rfl) T.f_int (by decide +kernel) (pa_cons (pv 3) pa_nil)) pe_int)) pa_nil)))) pe_int (fun _ _ => rfl)))))), ?_⟩)
  · obtain ⟨ns, at_, ls, _, _, rfl, _⟩ := h
    rfl
  · rintro ds Pd vs Q ⟨ns, at_, ls, hne, hll, rfl, rfl⟩ R k
    refine st_setS R (ev_num (ev_var R (n := 0) rfl) (ev_var R (n := 1) rfl)) fun v1 H1 e1 r1 R1 => ?_
    have b1 := lawNum_b ns (at_ + 1)
    refine st_setS R1 (ev_add (ev_mul (ev_num (ev_var R1 (n := 0) rfl) (ev_add (ev_var R1 (n := 1) rfl) (ev_c (v := .int 1)))) (ev_pow (ev_c (v := .int 10)) (ev_c (v := .int 14)) ⟨by decide, by decide, by decide⟩) (.inl ⟨by omega, by omega⟩)) (ev_num (ev_var R1 (n := 0) rfl) (ev_add (ev_var R1 (n := 1) rfl) (ev_c (v := .int 2))))) fun v2 H2 e2 r2 R2 => ?_
    have R2 : RepE K a.FC H2 [some (.lst (ns.map di)), some (di at_), some (.lst (ls.map Lf.d)), some (di (lawNum ns at_)), some (di (lawNum ns (at_ + 1) * (10 : Int) ^ (14 : Int).toNat + lawNum ns (at_ + 2)))] _ := R2
    obtain ⟨j, hj, j1, j2⟩ := grow_many (r := lawNum ns at_) (n := 5) (by decide)
    refine st_retP (P := fun x => ∃ m : Fm, x = m.d ∧ m.lvs.length ≤ 5 ∧ m.depth ≤ 4 ∧ ∀ l ∈ m.lvs, l ∈ ls) ?_ fun d v H3 pd e3 r3 => k d v H3 pd ((e1.trans e2).trans e3) r3
    refine ep_ixT (ev_call (ea_cons (ev_var R2 (n := 4) rfl) (ea_cons (ev_var R2 (n := 2) rfl) (ea_cons ((ev_add (ev_c (v := .int 1)) (ev_mod (ev_int (ev_var R2 (n := 3) rfl)) (ev_c (v := .int 5)) (by decide))).to (d' := di (j : Int)) (by rw [← hj]; rfl)) ea_nil))) ⟨_, ls, j, j1, j2, hne, hll, rfl, rfl⟩) (ev_c (v := .int 0)) fun x hx => ?_
    obtain ⟨d, e, rfl, m, r', rfl, rfl, h1, h2, h3⟩ := hx
    exact ⟨_, m.d, rfl, atI_zero, m, rfl, by omega, by omega, h3⟩
end
end T34

/-! Kd21 -/
set_option maxHeartbeats 4000000
namespace T34
open PySem PySem.Spec PyProof.Rows L2
local macro_rules | `(tactic| walk_at "ev") => `(tactic| (first
  | (with_reducible exact ev_c)
  | ((with_reducible refine' ev_var ?R ?h); (case R => assumption); (case h => rfl))
  | (with_reducible refine' ea_cons ?_ ?_)
  | (with_reducible exact ea_nil)
  | (with_reducible refine' ev_add ?_ ?_)
  | (with_reducible refine' ev_sub ?_ ?_)
  | (with_reducible refine' ev_mul ?_ ?_ ?_)
  | (with_reducible refine' ev_mod ?_ ?_ ?_)
  | (with_reducible refine' ev_div ?_ ?_ ?_)
  | (with_reducible refine' ev_lt ?_ ?_)
  | (with_reducible refine' ev_le ?_ ?_)
  | (with_reducible refine' ev_gt ?_ ?_)
  | (with_reducible refine' ev_ge ?_ ?_)
  | (with_reducible refine' ev_int ?_)
  | (with_reducible refine' ev_not ?_)
  | (with_reducible refine' ev_tup ?_)
  | (with_reducible refine' ev_between ?_ ?_ ?_)
  | (with_reducible refine' et_test ?_)
  | (with_reducible refine' et_B ?_)
  | (with_reducible refine' et_not ?_)))
section
variable {P : Program} {w : World} {K : PySem.W.Frag} {mg : Str → Option Value} {base : Heap} {a : Ad} {f : Addr} {fd : FuncData}
/-! ### the law's plans -/
section
variable {FC : Addr → Prop} {ρ : SD} {σ : L2.St} {H : Hp} {ta tb te : TE} {t2 : TS} {B : Ends} {ds es : List D} {d e : D} {i j : Int}
theorem EvL.to (h : EvL K FC te σ H ds) (e : ds = es) : EvL K FC te σ H es := e ▸ h
theorem RepE.lref {i : Nat} (R : RepE K FC H ρ σ) (h : ρ[i]? = some (some (.lst ds))) : ∃ p us, SqL K H p us ∧ Reps K FC H ds us ∧ RepE K FC H (ρ.set i (some (.at (.ref p)))) σ := by
  obtain ⟨v, hv, r⟩ := R.get i _ h
  obtain ⟨p, us, rfl, hs, rr⟩ := r.lst_inv
  refine ⟨p, us, hs, rr, ⟨by rw [List.length_set]; exact R.len, fun j d hj => ?_⟩⟩
  by_cases q : i = j
  · subst q
    have hl : i < ρ.length := by
      have := (List.getElem?_eq_some_iff.mp hj).1
      rwa [List.length_set] at this
    rw [List.getElem?_set_self hl] at hj
    cases hj
    exact ⟨_, hv, .at _⟩
  · rw [List.getElem?_set_ne q] at hj
    exact R.get j d hj
theorem st_appendP {P : D → Prop} {n : Nat} {p : Addr} {vs : List V} (hs : σ[n]? = some (some (.ref p))) (hp : H p = some (.lst vs)) (hl : vs.length < sizeLine) (h : EvP K FC te σ H P)
    (q : ∀ d v H', P d → Same H H' → Rep K FC H' d v → H' p = some (.lst vs) → B.nx σ (upd H' p (.lst (vs ++ [v])))) : tDrop (tBM K "list" rAppend (tVar n) (tCons te tNil)) B σ H :=
  ⟨_, hs, .inl ⟨rfl, _, .inl (.inl hp)⟩, h H (Same.refl H) _ fun d v H' pd e r => ⟨p, vs, v, rfl, rfl, e _ _ hp, hl, q d v H' pd e r (e _ _ hp)⟩⟩
theorem ep_tup2 {P : D → Prop} (ha : EvD K FC ta σ H d) (hb : EvP K FC tb σ H P) : EvP K FC (tTup (tCons ta (tCons tb tNil))) σ H (fun x => ∃ e, P e ∧ x = .tup [d, e]) := fun H1 e1 Q q =>
  ha H1 e1 _ fun v H2 e2 r2 => hb H2 (e1.trans e2) _ fun x u H3 px e3 r3 => ⟨by show 2 ≤ sizeLine; decide, fun p hp => q _ _ _ ⟨x, px, rfl⟩ ((e2.trans e3).trans (Same.new hp)) (.tup (SqT.of upd_same) (.cons ((r2.mono e3).mono (Same.new hp)) (.cons (r3.mono (Same.new hp)) .nil)))⟩
/-- for ..: xs.append(e), xs new -/
theorem st_forApp {α : Type} {Good : Nat → α → Prop} {ed : α → D} {ρL : SD} {p : Addr} {H0 : Hp} {wi : TI} {g : TG} {tb : TS} (R : RepE K FC H ρL σ) (nR : ∀ d, some d ∈ ρL → NoL d) (hi : EvZ K FC wi σ H ds) (h0 : H0 p = none) (s0 : Same H0 H) (hp : H p = some (.lst []))
    (hn : ∀ x, NoL (ed x)) (hl : ds.length ≤ 1000)
    (hb : ∀ i d x σ' H' us (xs : List α), ds[i]? = some d → Same H0 H' → RepE K FC H' ρL σ' → H' p = some (.lst us) → us.length < sizeLine → xs.length = i → Rep K FC H' d x →
      ∀ nx bk : L2.St → Hp → Prop, (∀ y v σ2 H2, Good i y → Same H' H2 → RepE K FC H2 ρL σ2 → Rep K FC H2 (ed y) v → H2 p = some (.lst us) → nx σ2 (upd H2 p (.lst (us ++ [v])))) → g x σ' H' fun σ2 H3 => tb { nx := nx, ct := nx, bk := bk, rt := B.rt } σ2 H3)
    (q : ∀ σ' H' us (xs : List α), Same H0 H' → RepE K FC H' ρL σ' → H' p = some (.lst us) → Reps K FC H' (xs.map ed) us → xs.length = ds.length → (∀ j (y : α), xs[j]? = some y → Good j y) → t2 B σ' H') : tSeq (tFor wi g tb) t2 B σ H := by
  have nol : ∀ xs : List α, NoLs (xs.map ed) := fun xs => .of fun d h => by
    obtain ⟨x, _, rfl⟩ := List.mem_map.mp h
    exact hn x
  refine st_forZ (B := { B with nx := t2 B }) hi fun H2 e2 => ⟨fun i σ' H' => i ≤ ds.length ∧ Frz FC H2 H' ∧ Same H0 H' ∧ RepE K FC H' ρL σ' ∧ ∃ us, ∃ xs : List α, H' p = some (.lst us) ∧ Reps K FC H' (xs.map ed) us ∧ xs.length = i ∧ ∀ j (y : α), xs[j]? = some y → Good j y,
    ⟨Nat.zero_le _, Frz.refl _, s0.trans e2, R.mono e2, [], [], e2 _ _ hp, .nil, rfl, fun j y h => by rw [List.getElem?_nil] at h; cases h⟩, fun i σ' H' h => h.2.1, ?_, ?_⟩
  · rintro i d x σ' H' H'' hd ⟨hle, z, s, R', us, xs, hp', rr, hx, hg⟩ e r
    have li : i < ds.length := (List.getElem?_eq_some_iff.mp hd).1
    have lu : us.length < sizeLine := by
      rw [rr.length, List.length_map, hx]
      exact Nat.lt_of_lt_of_le (show i < 1000 by omega) (by decide)
    refine hb i d x σ' H'' us xs hd (s.trans e) (R'.mono e) (e _ _ hp') lu hx r _ _ fun y v σ3 H3 gy e3 R3 r3 hp3 => ?_
    have z3 : Frz FC H3 (upd H3 p (.lst (us ++ [v]))) := Frz.upd_lst hp3
    refine ⟨by omega, (z.trans (Same.frz (e.trans e3))).trans z3, Same.mut ((s.trans e).trans e3) h0, R3.frz z3 nR, us ++ [v], xs ++ [y], upd_same, ?_, by rw [List.length_append, hx]; rfl, fun j y' hj => ?_⟩
    · rw [List.map_append]
      exact ((rr.mono (e.trans e3)).append (.cons r3 .nil)).frz z3 ((nol xs).append (nol [y]))
    · by_cases hlt : j < xs.length
      · rw [List.getElem?_append_left hlt] at hj
        exact hg j y' hj
      · have hb' := (List.getElem?_eq_some_iff.mp hj).1
        rw [List.length_append, List.length_singleton] at hb'
        have ej : j = xs.length := by omega
        subst ej
        rw [List.getElem?_append_right (Nat.le_refl _), Nat.sub_self] at hj
        cases hj
        rw [hx]
        exact gy
  · rintro σ' H' ⟨_, z, s, R', us, xs, hp', rr, hx, hg⟩
    exact q σ' H' us xs s R' hp' rr hx hg
end
abbrev plD (x : Fm × Rl) : D := .tup [x.1.d, x.2.pd]
theorem plD_noL (x : Fm × Rl) : NoL (plD x) := .tup (.cons x.1.noL (.cons x.2.pd_noL .nil))
def plainD (p : Pl) : D := .tup [di (p.b : Int), di (p.f : Int), di (p.c : Int), .tup (p.pls.map plD), .tup (p.drs.map dropD)]
theorem plainD_noL (p : Pl) : NoL (plainD p) := .tup (.cons (.at _) (.cons (.at _) (.cons (.at _) (.cons (.tup (.of fun d h => by obtain ⟨x, _, rfl⟩ := List.mem_map.mp h; exact plD_noL x)) (.cons (.tup (.of fun d h => by obtain ⟨x, _, rfl⟩ := List.mem_map.mp h; exact dropD_noL x)) .nil)))))
/-! ### the leaves that a form may have -/
def nmF (f : Nat) : List Nm := [.f0, if f = 1 then .f0 else .f1]
def nmC (c : Nat) : List Nm := if c = 0 then [] else [.c0, if c = 1 then .c0 else .c1]
def nmP (i : Nat) : List Nm := if i = 0 then [] else [.p0]
def lsA (f : Nat) (n : Int) : List Lf := (nmF f).map Lf.nm ++ [.num n]
def lsAll (f c i : Nat) (n : Int) : List Lf := (lsA f n ++ (nmC c).map Lf.nm) ++ (nmP i).map Lf.nm
theorem lsAll_mem {f c i : Nat} {n : Int} (hf : f = 1 ∨ f = 2) (hc : c = 0 ∨ c = 1 ∨ c = 2) (hi : i = 0 ∨ i = 1) {l : Lf} (h : l ∈ lsAll f c i n) : (∃ x, l = .nm x ∧ x ∈ nmsFor f c i) ∨ l = .num n := by
  have key : ∀ f ∈ [1, 2], ∀ c ∈ [0, 1, 2], ∀ i ∈ [0, 1], (∀ x ∈ nmF f, x ∈ nmsFor f c i) ∧ (∀ x ∈ nmC c, x ∈ nmsFor f c i) ∧ ∀ x ∈ nmP i, x ∈ nmsFor f c i := by decide
  obtain ⟨k1, k2, k3⟩ := key f (by simp; exact hf) c (by simp; exact hc) i (by simp; exact hi)
  unfold lsAll lsA at h
  rcases List.mem_append.mp h with h | h
  · rcases List.mem_append.mp h with h | h
    · rcases List.mem_append.mp h with h | h
      · obtain ⟨x, hx, rfl⟩ := List.mem_map.mp h
        exact .inl ⟨x, rfl, k1 x hx⟩
      · exact .inr (List.mem_singleton.mp h)
    · obtain ⟨x, hx, rfl⟩ := List.mem_map.mp h
      exact .inl ⟨x, rfl, k2 x hx⟩
  · obtain ⟨x, hx, rfl⟩ := List.mem_map.mp h
    exact .inl ⟨x, rfl, k3 x hx⟩
theorem lsAll_len (f c i : Nat) (n : Int) : lsAll f c i n ≠ [] ∧ (lsAll f c i n).length ≤ 10 := by
  have h1 : (nmC c).length ≤ 2 := by unfold nmC; split <;> simp
  have h2 : (nmP i).length ≤ 1 := by unfold nmP; split <;> simp
  refine ⟨fun z => ?_, ?_⟩
  · have := congrArg List.length z
    simp [lsAll, lsA, nmF] at this
  · simp [lsAll, lsA, nmF]
    omega
theorem nmsOf_mem {x : Nm} : ∀ {l : List Lf}, x ∈ nmsOf l → Lf.nm x ∈ l
  | [], h => by cases h
  | .num n :: l, h => List.mem_cons_of_mem _ (nmsOf_mem (l := l) h)
  | .nm y :: l, h => by
    have h : x ∈ y :: nmsOf l := h
    rcases List.mem_cons.mp h with rfl | h
    · exact List.mem_cons_self
    · exact List.mem_cons_of_mem _ (nmsOf_mem h)
theorem form_ok {b f c i : Nat} {n : Int} {m : Fm} (hf : f = 1 ∨ f = 2) (hc : c = 0 ∨ c = 1 ∨ c = 2) (hi : i = 0 ∨ i = 1) (hb : b ≤ 3) (n0 : 0 ≤ n) (nb : n < (b : Int)) (hl : m.lvs.length ≤ 5) (hd : m.depth ≤ 4) (hm : ∀ l ∈ m.lvs, l ∈ lsAll f c i n) {r : Rl} (hr : r.ok (nmsFor f c i)) : PlaceOk b f c i m r := by
  refine ⟨fun l h => ?_, by omega, by omega, fun l h => ?_, fun x h => ?_, hr⟩
  · rcases lsAll_mem hf hc hi (hm l h) with ⟨x, rfl, _⟩ | rfl
    · exact trivial
    · exact ⟨n0, by omega⟩
  · rcases lsAll_mem hf hc hi (hm l h) with ⟨x, rfl, _⟩ | rfl
    · exact trivial
    · exact nb
  · rcases lsAll_mem hf hc hi (hm _ (nmsOf_mem h)) with ⟨y, e, hy⟩ | e
    · cases e
      exact hy
    · cases e
theorem drop_small {m : Nat} (hm : m = 1 ∨ m = 2) (p : Nat → Bool) : Drop m ((List.range m).filter p) := by
  refine ⟨fun k h => List.mem_range.mp (List.mem_filter.mp h).1, ?_⟩
  rcases hm with rfl | rfl
  · cases h0 : p 0 with
    | true => exact .inr (.inl (by simp [List.range_succ, h0]))
    | false => exact .inl (by simp [List.range_succ, h0])
  · cases h0 : p 0 with
    | true =>
      cases h1 : p 1 with
      | true => exact .inr (.inr (.inr (by simp [List.range_succ, h0, h1])))
      | false => exact .inr (.inl (by simp [List.range_succ, h0, h1]))
    | false =>
      cases h1 : p 1 with
      | true => exact .inr (.inr (.inl (by simp [List.range_succ, h0, h1])))
      | false => exact .inl (by simp [List.range_succ, h0, h1])
/-! ### _law_plain -/
abbrev s_law_plain : Stmt := top 54
theorem sc_law_plain : FnScope ["script", "at", "seed", "base", "fields", "cells", "many", "places", "place", "leaves", "form", "gone", "cell"] ["script", "at"] (defScope s_law_plain) := ⟨rfl, rfl, rfl, by decide +kernel, rfl, by decide +kernel, by decide +kernel⟩
def rLPlain : List D → (D → Prop) → Prop := fun ds Pd => ∃ (ns : List Int) (at_ : Int), ds = [.lst (ns.map di), di at_] ∧ Pd = fun x => ∃ p : Pl, p.ok ∧ x = plainD p
theorem ok_law_plain (F : FnP K "_law_plain" "_law_plain" s_law_plain f fd) (T : Tx K w mg a) (c_law_number : C8.Cal P w K mg base 1 "_law_number" (spN K a.FC rNum) []) (c_law_form : C8.Cal P w K mg base 7 "_law_form" (spN K a.FC rLForm) [])
    (c_law_rule : C8.Cal P w K mg base 2 "_law_rule" (spN K a.FC rLRule) []) (c_law_names : C8.Cal P w K mg base 1 "_law_names" (spL K a.FC rLNames) []) : FnOk P w K mg base CX0 8 f fd ["script", "at"] (spN K a.FC rLPlain) := by
  refine fnN F sc_law_plain (fun ds Pd h => ?_) (fun cdv A outer s H E hr => ⟨_, (pss_cons (ps_set (i := 2) sc_law_plain.nd rfl (Or.inr rfl) (C8.pe_c c_law_number hr (by omega) (by rfl) (pa_cons (pv 0) (pa_cons (pv 1) pa_nil))))
    (pss_cons (ps_par (i := 3) (j := 4) (by rfl) sc_law_plain.nd rfl rfl (by decide) rfl rfl (pa_cons (pe_ix (ix_tupK (K := K)) (pe_tup (pa_cons pe_int (pa_cons pe_int (pa_cons pe_int pa_nil)))) (pe_op op_mod (pe_callTy call_int1 (by rfl) T.f_int (by decide +kernel) (pa_cons (pv 2) pa_nil)) pe_int) (fun _ _ => rfl)) (pa_cons (pe_op op_add pe_int (pe_op op_mod (pe_callTy call_int1 (by rfl) T.f_int (by decide +kernel) (pa_cons (pe_op op_fdiv (pv 2) pe_int) pa_nil)) pe_int)) pa_nil)) (by rfl))
    (pss_cons (ps_par (i := 5) (j := 6) (by rfl) sc_law_plain.nd rfl rfl (by decide) rfl rfl (pa_cons (pe_op op_add (pe_op op_mod (pe_callTy call_int1 (by rfl) T.f_int (by decide +kernel) (pa_cons (pe_op op_fdiv (pv 2) pe_int) pa_nil)) pe_int) (pe_ifExp (PW.pt (pw_and (pt_cmpR op_eq (pv 4) pe_int (nomark _)) (pw_and1 (pt_cmpR op_eq (pv 3) pe_int (nomark _))))) pe_int pe_int)) (pa_cons (pe_op op_add pe_int (pe_op op_mod (pe_callTy call_int1 (by rfl) T.f_int (by decide +kernel) (pa_cons (pe_op op_fdiv (pv 2) pe_int) pa_nil)) pe_int)) pa_nil)) (by rfl))
    (pss_cons (ps_set (i := 7) sc_law_plain.nd rfl (Or.inl rfl) (pe_lst pa_nil))
    (pss_cons (ps_for PassesOwn.never rfl (pi_range1 (by rfl) T.f_range (pa_cons (pv 6) pa_nil)) (pg_name (i := 8) sc_law_plain.nd (by rfl) (.inl (by rfl)) (by first | exact .inl rfl | exact .inr rfl))
      (pss_cons (ps_set (i := 9) sc_law_plain.nd rfl (Or.inl rfl) (pe_lst (pa_cons (pe_tup (pa_cons pe_str (pa_cons pe_int pa_nil))) (pa_cons (pe_tup (pa_cons pe_str (pa_cons (pe_op op_sub (pv 4) pe_int) pa_nil))) (pa_cons (pe_tup (pa_cons pe_str (pa_cons (pe_op op_mod (pe_callTy call_int1 (by rfl) T.f_int (by decide +kernel) (pa_cons (pe_op op_fdiv (pv 2) pe_int) pa_nil)) (pv 3)) pa_nil))) pa_nil)))))
    (pss_cons (ps_set (i := 9) sc_law_plain.nd rfl (Or.inl rfl) (pe_op op_cat (pe_op op_cat (pv 9) (pe_slice (sl_listK (K := K)) (pe_lst (pa_cons (pe_tup (pa_cons pe_str (pa_cons pe_int pa_nil))) (pa_cons (pe_tup (pa_cons pe_str (pa_cons (pe_op op_sub (pv 5) pe_int) pa_nil))) pa_nil))) po_none (po_some (pe_op op_mul pe_int (pv 5))))) (pe_slice (sl_listK (K := K)) (pe_lst (pa_cons (pe_tup (pa_cons pe_str (pa_cons pe_int pa_nil))) pa_nil)) po_none (po_some (pv 8)))))
    (pss_cons (ps_set (i := 10) sc_law_plain.nd rfl (Or.inl rfl) (C8.pe_c c_law_form hr (by omega) (by rfl) (pa_cons (pv 0) (pa_cons (pe_op op_add (pe_op op_add (pv 1) pe_int) (pe_op op_mul pe_int (pv 8))) (pa_cons (pv 9) pa_nil)))))
    (pss_one (ps_expr (pe_bm PySem.F.plainAttrs_list PySem.F.slot_list_append PySem.F.type_list_append mt_append (pv 7) (pa_cons (pe_tup (pa_cons (pv 10) (pa_cons (C8.pe_c c_law_rule hr (by omega) (by rfl) (pa_cons (pv 0) (pa_cons (pe_op op_add (pe_op op_add (pv 1) pe_int) (pe_op op_mul pe_int (pv 8))) (pa_cons (C8.pe_c c_law_names hr (by omega) (by rfl) (pa_cons (pv 4) (pa_cons (pv 5) (pa_cons (pv 8) pa_nil)))) pa_nil)))) pa_nil))) pa_nil))))))))
    (pss_cons (ps_set (i := 11) sc_law_plain.nd rfl (Or.inl rfl) (pe_lst pa_nil))
    (pss_cons (ps_for PassesOwn.never rfl (pi_range1 (by rfl) T.f_range (pa_cons (pv 5) pa_nil)) (pg_name (i := 12) sc_law_plain.nd (by rfl) (.inr (by rfl)) (by first | exact .inl rfl | exact .inr rfl))
      (pss_one (ps_expr (pe_bm PySem.F.plainAttrs_list PySem.F.slot_list_append PySem.F.type_list_append mt_append (pv 11) (pa_cons (pe_callTy (call_tupK (K := K)) (by rfl) T.f_tuple (by decide +kernel) (pa_cons (pe_lc (own := [("place", 8)]) rfl sc_law_plain.nd (pi_range1 (by rfl) T.f_range (pa_cons (pv 6) pa_nil)) (blkOk_by (own := [("place", 8)]) (N := ["script", "at", "seed", "base", "fields", "cells", "many", "places", "place", "leaves", "form", "gone", "cell"]) (sc := defScope s_law_plain) (by decide +kernel)) (fun _ _ _ _ _ => (pg_name (i := 8) sc_law_plain.nd (by rfl) (.inl (by rfl)) (by first | exact .inl rfl | exact .inr rfl))) (fun _ _ _ _ _ => (pts_one (pt_cmpR op_eq (pe_op op_mod (pe_callTy call_int1 (by rfl) T.f_int (by decide +kernel) (pa_cons (pe_op op_fdiv (pv 2) (pe_op op_add (pe_op op_add pe_int (pe_op op_mul pe_int (pv 12))) (pe_op op_mul pe_int (pv 8)))) pa_nil)) pe_int) pe_int (nomark _)))) (fun _ _ _ _ _ => (pv 8))) pa_nil)) pa_nil)))))
    (pss_one (ps_ret (pe_tup (pa_cons (pv 3) (pa_cons (pv 4) (pa_cons (pv 5) (pa_cons (pe_callTy (call_tupK (K := K)) (by rfl) T.f_tuple (by decide +kernel) (pa_cons (pv 7) pa_nil)) (pa_cons (pe_callTy (call_tupK (K := K)) (by rfl) T.f_tuple (by decide +kernel) (pa_cons (pv 11) pa_nil)) pa_nil))))))))))))))), ?_⟩)
  · obtain ⟨ns, at_, rfl, _⟩ := h
    rfl
  · rintro ds Pd vs Q ⟨ns, at_, rfl, rfl⟩ R kq
    refine st_setS R (ev_num (ev_var R (n := 0) rfl) (ev_var R (n := 1) rfl)) fun v1 H1 e1 r1 R1 => ?_
    obtain ⟨sd, hsd⟩ : ∃ sd : Int, lawNum ns at_ = sd := ⟨_, rfl⟩
    have R1 : RepE K a.FC H1 [some (.lst (ns.map di)), some (di at_), some (di (lawNum ns at_)), none, none, none, none, none, none, none, none, none, none] _ := R1
    rw [hsd] at R1
    obtain ⟨xb, hxb, hatb⟩ := atI_mod [di 2, di 2, di 3] (List.cons_ne_nil _ _) sd
    obtain ⟨b, rfl, hb⟩ : ∃ b : Nat, xb = di (b : Int) ∧ (b = 2 ∨ b = 3) := by
      simp at hxb
      rcases hxb with rfl | rfl
      · exact ⟨2, rfl, .inl rfl⟩
      · exact ⟨3, rfl, .inr rfl⟩
    obtain ⟨f, hfv, f1, f2⟩ := grow_many (r := sd / 3) (n := 2) (by decide)
    have hf : f = 1 ∨ f = 2 := by omega
    refine st_par R1 (ea_cons (ev_ixT (ev_tup (ea_cons (ev_c (v := .int 2)) (ea_cons (ev_c (v := .int 2)) (ea_cons (ev_c (v := .int 3)) ea_nil))) (by show 3 ≤ sizeLine; decide)) (ev_mod (ev_int (ev_var R1 (n := 2) rfl)) (ev_c (v := .int 3)) (by decide)) hatb) (ea_cons ((ev_add (ev_c (v := .int 1)) (ev_mod (ev_int (ev_div (ev_var R1 (n := 2) rfl) (ev_c (v := .int 3)) ⟨by decide, by decide⟩)) (ev_c (v := .int 2)) (by decide))).to (d' := di (f : Int)) (by rw [← hfv]; rfl)) ea_nil)) fun σ2 H2 e2 R2 => ?_
    have R2 : RepE K a.FC H2 [some (.lst (ns.map di)), some (di at_), some (di sd), some (di (b : Int)), some (di (f : Int)), none, none, none, none, none, none, none, none] σ2 := R2
    obtain ⟨m, hmv, m1, m2⟩ := grow_many (r := sd / 12) (n := 2) (by decide)
    have hm : m = 1 ∨ m = 2 := by omega
    obtain ⟨c, hcv, c2⟩ : ∃ c : Nat, sd / 6 % 2 + (if (decide (V.int (f : Int) = V.int 1) && decide (V.int (b : Int) = V.int 2)) = true then 1 else 0) = (c : Int) ∧ c ≤ 2 := by
      have h0 : 0 ≤ sd / 6 % 2 := Int.emod_nonneg _ (by decide)
      have h1 : sd / 6 % 2 < 2 := Int.emod_lt_of_pos _ (by decide)
      split
      · exact ⟨(sd / 6 % 2 + 1).toNat, by omega, by omega⟩
      · exact ⟨(sd / 6 % 2 + 0).toNat, by omega, by omega⟩
    have hc : c = 0 ∨ c = 1 ∨ c = 2 := by omega
    refine st_par R2 (ea_cons ((ev_add (ev_mod (ev_int (ev_div (ev_var R2 (n := 2) rfl) (ev_c (v := .int 6)) ⟨by decide, by decide⟩)) (ev_c (v := .int 2)) (by decide)) ((ev_if (et_and (et_test (ev_eq (ev_var R2 (n := 4) rfl) (ev_c (v := .int 1)) rfl)) fun _ => et_test (ev_eq (ev_var R2 (n := 3) rfl) (ev_c (v := .int 2)) rfl)) (fun _ => ev_c (v := .int 1)) fun _ => ev_c (v := .int 0)).to (d' := di (if (decide (V.int (f : Int) = V.int 1) && decide (V.int (b : Int) = V.int 2)) = true then 1 else 0)) (by split <;> rfl))).to (d' := di (c : Int)) (by rw [← hcv])) (ea_cons ((ev_add (ev_c (v := .int 1)) (ev_mod (ev_int (ev_div (ev_var R2 (n := 2) rfl) (ev_c (v := .int 12)) ⟨by decide, by decide⟩)) (ev_c (v := .int 2)) (by decide))).to (d' := di (m : Int)) (by rw [← hmv]; rfl)) ea_nil)) fun σ3 H3 e3 R3 => ?_
    have R3 : RepE K a.FC H3 [some (.lst (ns.map di)), some (di at_), some (di sd), some (di (b : Int)), some (di (f : Int)), some (di (c : Int)), some (di (m : Int)), none, none, none, none, none, none] σ3 := R3
    obtain ⟨sc, us0, hsc, rsc, R3'⟩ := R3.lref (i := 0) rfl
    have R3' : RepE K a.FC H3 [some (.at (.ref sc)), some (di at_), some (di sd), some (di (b : Int)), some (di (f : Int)), some (di (c : Int)), some (di (m : Int)), none, none, none, none, none, none] σ3 := R3'
    have evS : ∀ {H' : Hp} {σ' : L2.St} {ρ' : SD}, Same H3 H' → RepE K a.FC H' ρ' σ' → ρ'[0]? = some (some (.at (.ref sc))) → EvD K a.FC (tVar 0) σ' H' (.lst (ns.map di)) := fun e R h => ev_varQ R h (e.seq hsc) (rsc.mono e)
    refine st_seq (st_setL R3' (ev_lst ea_nil) fun pp us4 H4 hpp e4 hl4 r4 R4 => ?_)
    cases r4
    obtain ⟨σ4, hσ4⟩ : ∃ σ4 : L2.St, σ4 = σ3.set 7 (some (.ref pp)) := ⟨_, rfl⟩
    rw [← hσ4] at R4 ⊢
    have R4 : RepE K a.FC H4 [some (.at (.ref sc)), some (di at_), some (di sd), some (di (b : Int)), some (di (f : Int)), some (di (c : Int)), some (di (m : Int)), some (.at (.ref pp)), none, none, none, none, none] σ4 := R4
    have nol4 : ∀ d, some d ∈ ([some (.at (.ref sc)), some (di at_), some (di sd), some (di (b : Int)), some (di (f : Int)), some (di (c : Int)), some (di (m : Int)), some (.at (.ref pp)), none, none, none, none, none] : SD) → NoL d := fun d hd => by
      simp at hd
      rcases hd with rfl | rfl | rfl | rfl | rfl | rfl | rfl | rfl <;> exact .at _
    refine st_forApp (α := Fm × Rl) (ed := plD) (Good := fun i x => PlaceOk b f c i x.1 x.2) R4 nol4 (evz_range (ea_cons (ev_var R4 (n := 6) rfl) ea_nil)) hpp e4 hl4 plD_noL (by rw [List.length_map, List.length_range]; omega) (fun i d x σ5 H5 us xs hd e5 R5 hp5 lu hx rx nx bk qn => ?_) fun σ9 H9 usP pls e9 R9 hp9 rr9 hxl hg9 => ?_
    · rw [List.getElem?_map] at hd
      obtain ⟨i', hi', rfl⟩ := Option.map_eq_some_iff.mp hd
      have li : i < m := by
        have := (List.getElem?_eq_some_iff.mp hi').1
        rwa [List.length_range] at this
      rw [List.getElem?_range li] at hi'
      cases hi'
      have hi2 : i = 0 ∨ i = 1 := by omega
      have R5 : RepE K a.FC H5 [some (.at (.ref sc)), some (di at_), some (di sd), some (di (b : Int)), some (di (f : Int)), some (di (c : Int)), some (di (m : Int)), some (.at (.ref pp)), some (di (i : Int)), none, none, none, none] (σ5.set 8 (some x)) := R5.set (i := 8) rx
      obtain ⟨σ6, hσ6⟩ : ∃ σ6 : L2.St, σ6 = σ5.set 8 (some x) := ⟨_, rfl⟩
      show tSeq _ _ _ (σ5.set 8 (some x)) H5
      rw [← hσ6] at R5 ⊢
      obtain ⟨n, hn⟩ : ∃ n : Int, n = sd / 90 % (b : Int) := ⟨_, rfl⟩
      have n0 : 0 ≤ n := by rw [hn]; exact Int.emod_nonneg _ (by omega)
      have nb : n < (b : Int) := by rw [hn]; exact Int.emod_lt_of_pos _ (by omega)
      have lA := (ev_lst (K := K) (FC := a.FC) (ea_cons (ev_tup (ea_cons (ev_c (v := .str "field")) (ea_cons (ev_c (v := .int 0)) ea_nil)) (by show 2 ≤ sizeLine; decide)) (ea_cons (ev_tup (ea_cons (ev_c (v := .str "field")) (ea_cons (ev_sub (ev_var R5 (n := 4) rfl) (ev_c (v := .int 1))) ea_nil)) (by show 2 ≤ sizeLine; decide)) (ea_cons (ev_tup (ea_cons (ev_c (v := .str "number")) (ea_cons (ev_mod (ev_int (ev_div (ev_var R5 (n := 2) rfl) (ev_c (v := .int 90)) ⟨by decide, by decide⟩)) (ev_var R5 (n := 3) rfl) (by omega)) ea_nil)) (by show 2 ≤ sizeLine; decide)) ea_nil))) (by show 3 ≤ sizeLine; decide)).to (es := (lsA f n).map Lf.d) (by
        rw [← hn]
        rcases hf with rfl | rfl <;> rfl)
      refine st_seq (st_setL R5 lA fun q1 us1 H6 hq1 e6 hl6 r6 R6 => ?_)
      obtain ⟨σ7, hσ7⟩ : ∃ σ7 : L2.St, σ7 = σ6.set 9 (some (.ref q1)) := ⟨_, rfl⟩
      rw [← hσ7] at R6 ⊢
      have R6 : RepE K a.FC H6 [some (.at (.ref sc)), some (di at_), some (di sd), some (di (b : Int)), some (di (f : Int)), some (di (c : Int)), some (di (m : Int)), some (.at (.ref pp)), some (di (i : Int)), some (.at (.ref q1)), none, none, none] σ7 := R6
      have lC := (el_slL (K := K) (FC := a.FC) (ev_lst (ea_cons (ev_tup (ea_cons (ev_c (v := .str "cell")) (ea_cons (ev_c (v := .int 0)) ea_nil)) (by show 2 ≤ sizeLine; decide)) (ea_cons (ev_tup (ea_cons (ev_c (v := .str "cell")) (ea_cons (ev_sub (ev_var R6 (n := 5) rfl) (ev_c (v := .int 1))) ea_nil)) (by show 2 ≤ sizeLine; decide)) ea_nil)) (by show 2 ≤ sizeLine; decide)).toD eo_none (eo_some (ev_mul (ev_c (v := .int 2)) (ev_var R6 (n := 5) rfl) (.inl ⟨by decide, by decide⟩)))).to (es := ((nmC c).map Lf.nm).map Lf.d) (by
        rw [show (2 : Int) * (c : Int) = ((2 * c : Nat) : Int) by omega, cutD_to]
        rcases hc with rfl | rfl | rfl <;> rfl)
      have lP := (el_slL (K := K) (FC := a.FC) (ev_lst (ea_cons (ev_tup (ea_cons (ev_c (v := .str "place")) (ea_cons (ev_c (v := .int 0)) ea_nil)) (by show 2 ≤ sizeLine; decide)) ea_nil) (by show 1 ≤ sizeLine; decide)).toD eo_none (eo_some (ev_var R6 (n := 8) rfl))).to (es := ((nmP i).map Lf.nm).map Lf.d) (by
        rw [cutD_to]
        rcases hi2 with rfl | rfl <;> rfl)
      have lens := lsAll_len f c i n
      have lens2 := lens.2
      unfold lsAll at lens2
      simp only [List.length_append, List.length_map] at lens2
      refine st_seq (st_setL R6 ((el_cat (el_cat (ew_var R6 (n := 9) rfl hl6 r6) lC.toW (by simp only [List.length_map]; omega)).toW lP.toW (by simp only [List.length_append, List.length_map]; omega)).to (es := (lsAll f c i n).map Lf.d) (by unfold lsAll; rw [List.map_append, List.map_append])) fun q2 us2 H7 hq2 e7 hl7 r7 R7 => ?_)
      obtain ⟨σ8, hσ8⟩ : ∃ σ8 : L2.St, σ8 = σ7.set 9 (some (.ref q2)) := ⟨_, rfl⟩
      rw [← hσ8] at R7 ⊢
      have R7 : RepE K a.FC H7 [some (.at (.ref sc)), some (di at_), some (di sd), some (di (b : Int)), some (di (f : Int)), some (di (c : Int)), some (di (m : Int)), some (.at (.ref pp)), some (di (i : Int)), some (.at (.ref q2)), none, none, none] σ8 := R7
      have e57 : Same H3 H7 := (e5.trans e6).trans e7
      refine st_seq (st_setP R7 (ev_call (ea_cons (evS e57 R7 rfl) (ea_cons (ev_add (ev_add (ev_var R7 (n := 1) rfl) (ev_c (v := .int 1))) (ev_mul (ev_c (v := .int 6)) (ev_var R7 (n := 8) rfl) (.inl ⟨by decide, by decide⟩))) (ea_cons (ev_varQ R7 (n := 9) rfl (SqL.of hl7) r7) ea_nil))) ⟨ns, _, lsAll f c i n, lens.1, lens.2, rfl, rfl⟩) fun d v8 H8 pd e8 r8 R8 => ?_)
      obtain ⟨fm, rfl, fl, fdp, fmem⟩ := pd
      obtain ⟨σ9, hσ9⟩ : ∃ σ9 : L2.St, σ9 = σ8.set 10 (some v8) := ⟨_, rfl⟩
      rw [← hσ9] at R8 ⊢
      have R8 : RepE K a.FC H8 [some (.at (.ref sc)), some (di at_), some (di sd), some (di (b : Int)), some (di (f : Int)), some (di (c : Int)), some (di (m : Int)), some (.at (.ref pp)), some (di (i : Int)), some (.at (.ref q2)), some fm.d, none, none] σ9 := R8
      have e58 : Same H5 H8 := (e6.trans e7).trans e8
      have hnl : (nmsFor f c i).length ≤ 7 := by
        rcases hf with rfl | rfl <;> rcases hc with rfl | rfl | rfl <;> rcases hi2 with rfl | rfl <;> decide
      refine st_appendP (n := 7) (R8.ref (i := 7) rfl) (e58 _ _ hp5) lu (ep_tup2 (ev_var R8 (n := 10) rfl) (ev_call (ea_cons (evS (e5.trans e58) R8 rfl) (ea_cons (ev_add (ev_add (ev_var R8 (n := 1) rfl) (ev_c (v := .int 5))) (ev_mul (ev_c (v := .int 6)) (ev_var R8 (n := 8) rfl) (.inl ⟨by decide, by decide⟩))) (ea_cons (el_call (ea_cons (ev_var R8 (n := 4) rfl) (ea_cons (ev_var R8 (n := 5) rfl) (ea_cons (ev_var R8 (n := 8) rfl) ea_nil))) ⟨f, c, i, by omega, by omega, by omega, rfl, rfl⟩).toD ea_nil))) ⟨ns, _, nmsFor f c i, hnl, rfl, rfl⟩)) fun d v10 H10 pd e10 r10 hp10 => ?_
      obtain ⟨e, ⟨r, rfl, hrok⟩, rfl⟩ := pd
      refine qn (fm, r) v10 σ9 H10 (form_ok hf hc hi2 (by omega) n0 nb fl fdp fmem hrok) (e58.trans e10) ?_ r10 hp10
      exact ((((R8.mono e10).drop0 8).drop0 9).drop0 10)
    · have lP9 : pls.length = m := by rw [hxl, List.length_map, List.length_range]
      refine st_seq (st_setL R9 (ev_lst ea_nil) fun gp us10 H10 hgp e10 hl10 r10 R10 => ?_)
      cases r10
      obtain ⟨σ10, hσ10⟩ : ∃ σ10 : L2.St, σ10 = σ9.set 11 (some (.ref gp)) := ⟨_, rfl⟩
      rw [← hσ10] at R10 ⊢
      have R10 : RepE K a.FC H10 [some (.at (.ref sc)), some (di at_), some (di sd), some (di (b : Int)), some (di (f : Int)), some (di (c : Int)), some (di (m : Int)), some (.at (.ref pp)), none, none, none, some (.at (.ref gp)), none] σ10 := R10
      have nol10 : ∀ d, some d ∈ ([some (.at (.ref sc)), some (di at_), some (di sd), some (di (b : Int)), some (di (f : Int)), some (di (c : Int)), some (di (m : Int)), some (.at (.ref pp)), none, none, none, some (.at (.ref gp)), none] : SD) → NoL d := fun d hd => by
        simp at hd
        rcases hd with rfl | rfl | rfl | rfl | rfl | rfl | rfl | rfl | rfl <;> exact .at _
      refine st_forApp (α := List Nat) (ed := dropD) (Good := fun _ l => Drop m l) R10 nol10 (evz_range (ea_cons (ev_var R10 (n := 5) rfl) ea_nil)) hgp e10 hl10 dropD_noL (by rw [List.length_map, List.length_range]; omega) (fun i d x σ5 H5 us xs hd e5 R5 hp5 lu hx rx nx bk qn => ?_) fun σ12 H12 usG drs e12 R12 hp12 rr12 hdl hg12 => ?_
      · rw [List.getElem?_map] at hd
        obtain ⟨i', hi', rfl⟩ := Option.map_eq_some_iff.mp hd
        have li : i < c := by
          have := (List.getElem?_eq_some_iff.mp hi').1
          rwa [List.length_range] at this
        rw [List.getElem?_range li] at hi'
        cases hi'
        have R5 : RepE K a.FC H5 [some (.at (.ref sc)), some (di at_), some (di sd), some (di (b : Int)), some (di (f : Int)), some (di (c : Int)), some (di (m : Int)), some (.at (.ref pp)), none, none, none, some (.at (.ref gp)), some (di (i : Int))] (σ5.set 12 (some x)) := R5.set (i := 12) rx
        obtain ⟨σ6, hσ6⟩ : ∃ σ6 : L2.St, σ6 = σ5.set 12 (some x) := ⟨_, rfl⟩
        show tDrop _ _ (σ5.set 12 (some x)) H5
        rw [← hσ6] at R5 ⊢
        have hlc := el_lc (vs := [8]) (α := Nat) (xs := List.range m) (dof := fun (k : Nat) => di (k : Int)) (f := fun (k : Nat) => di (k : Int)) (p := fun (k : Nat) => decide (V.int (sd / (500 + 70 * (i : Int) + 9 * (k : Int)) % 4) = V.int 0)) R5 (evi_range (ea_cons (ev_var R5 (n := 6) rfl) ea_nil)) (fun i _ => bind_name (n := 8) (by simp))
          (fun k hk σ' H' e R' => et_test (ev_eq (ev_mod (ev_int (ev_div (ev_var R' (n := 2) rfl) (ev_add (ev_add (ev_c (v := .int 500)) (ev_mul (ev_c (v := .int 70)) (ev_var R' (n := 12) rfl) (.inl ⟨by decide, by decide⟩))) (ev_mul (ev_c (v := .int 9)) (ev_var R' (n := 8) rfl) (.inl ⟨by decide, by decide⟩))) ⟨by omega, by have := List.mem_range.mp hk; omega⟩)) (ev_c (v := .int 4)) (by decide)) (ev_c (v := .int 0)) rfl))
          (fun k hk _ σ' H' e R' => ev_var R' (n := 8) rfl) (fun k hk => .at _) (by rw [List.length_range]; omega)
        refine st_append (n := 11) (R5.ref (i := 11) rfl) hp5 lu (ev_tupL hlc) fun v H6 e6 r6 hp6 => ?_
        exact qn _ v σ6 H6 (drop_small hm _) e6 ((R5.mono e6).drop0 12) r6 hp6
      · have lD : drs.length = c := by rw [hdl, List.length_map, List.length_range]
        refine st_ret (ev_tup (ea_cons (ev_var R12 (n := 3) rfl) (ea_cons (ev_var R12 (n := 4) rfl) (ea_cons (ev_var R12 (n := 5) rfl) (ea_cons (ev_tupR (n := 7) (R12.ref (i := 7) rfl) (e12 _ _ hp9) (rr9.mono e12)) (ea_cons (ev_tupR (n := 11) (R12.ref (i := 11) rfl) hp12 rr12) ea_nil))))) (by show 5 ≤ sizeLine; decide)) fun v13 H13 e13 r13 => kq _ v13 H13 ⟨⟨b, f, c, pls, drs⟩, ⟨by show 2 ≤ b; omega, by show b ≤ 3; omega, f1, f2, c2, by show 1 ≤ pls.length; omega, by show pls.length ≤ 2; omega, fun i x hx => hg9 i x hx, lD, fun l hl => ?_⟩, rfl⟩ ((((((e1.trans e2).trans e3).trans e9).trans e12)).trans e13) r13
        obtain ⟨j, hj⟩ := List.getElem?_of_mem hl
        show Drop pls.length l
        rw [lP9]
        exact hg12 j l hj
end
end T34

/-! Kd22 -/
set_option maxHeartbeats 4000000
namespace T34
open PySem PySem.Spec PyProof.Rows L2
local macro_rules | `(tactic| walk_at "ev") => `(tactic| (first
  | (with_reducible exact ev_c)
  | ((with_reducible refine' ev_var ?R ?h); (case R => assumption); (case h => rfl))
  | (with_reducible refine' ea_cons ?_ ?_)
  | (with_reducible exact ea_nil)
  | (with_reducible refine' ev_add ?_ ?_)
  | (with_reducible refine' ev_sub ?_ ?_)
  | (with_reducible refine' ev_mul ?_ ?_ ?_)
  | (with_reducible refine' ev_mod ?_ ?_ ?_)
  | (with_reducible refine' ev_div ?_ ?_ ?_)
  | (with_reducible refine' ev_lt ?_ ?_)
  | (with_reducible refine' ev_le ?_ ?_)
  | (with_reducible refine' ev_gt ?_ ?_)
  | (with_reducible refine' ev_ge ?_ ?_)
  | (with_reducible refine' ev_int ?_)
  | (with_reducible refine' ev_not ?_)
  | (with_reducible refine' ev_tup ?_)
  | (with_reducible refine' ev_between ?_ ?_ ?_)
  | (with_reducible refine' et_test ?_)
  | (with_reducible refine' et_B ?_)
  | (with_reducible refine' et_not ?_)))
section
variable {P : Program} {w : World} {K : PySem.W.Frag} {mg : Str → Option Value} {base : Heap} {a : Ad} {TT : List (Addr × Str)} {f : Addr} {fd : FuncData}
open LamX (Tabs)
/-! ### what stays where only houses are written -/
structure RK (FC : Addr → Prop) (H H' : Hp) : Prop where
  k : ∀ b o, H b = some o → (∀ C dx gs, o = .ins C dx gs → FC C) → (∀ ps, o ≠ .tbl ps) → H' b = some o
section
variable {FC : Addr → Prop} {H H' : Hp}
theorem RK.of (e : Same H H') : RK FC H H' := ⟨fun b o h _ _ => e b o h⟩
theorem RK.trans {H1 : Hp} (x : RK FC H H1) (y : RK FC H1 H') : RK FC H H' := ⟨fun b o h c t => y.k b o (x.k b o h c t) c t⟩
theorem RK.keep {L : List Addr} (e : KeepX L H H') (h : ∀ x ∈ L, ∃ C dx gs, H x = some (.ins C dx gs) ∧ ¬ FC C) : RK FC H H' := ⟨fun b o hb c t => e b o hb (fun m => by
  obtain ⟨C, dx, gs, e1, n⟩ := h b m
  rw [e1] at hb
  cases hb
  exact n (c _ _ _ rfl)) t⟩
theorem RK.sql (e : RK FC H H') {p : Addr} {xs : List V} (h : SqL K H p xs) : SqL K H' p xs := by
  rcases h with (h | ⟨o, h⟩) | h
  · exact .inl (.inl (e.k _ _ h (fun _ _ _ z => by cases z) fun _ z => by cases z))
  · exact .inl (.inr ⟨o, e.k _ _ h (fun _ _ _ z => by cases z) fun _ z => by cases z⟩)
  · exact .inr h
theorem RK.sqt (e : RK FC H H') {p : Addr} {xs : List V} (h : SqT K H p xs) : SqT K H' p xs := by
  rcases h with (h | ⟨o, h⟩) | h
  · exact .inl (.inl (e.k _ _ h (fun _ _ _ z => by cases z) fun _ z => by cases z))
  · exact .inl (.inr ⟨o, e.k _ _ h (fun _ _ _ z => by cases z) fun _ z => by cases z⟩)
  · exact .inr h
mutual
theorem Rep.rk (e : RK FC H H') : ∀ {d : D} {v : V}, Rep K FC H d v → Rep K FC H' d v
  | _, _, .at v => .at v
  | _, _, .tup h r => .tup (e.sqt h) (Reps.rk e r)
  | _, _, .lst h r => .lst (e.sql h) (Reps.rk e r)
  | _, _, .obj c h n r => .obj c (e.k _ _ h (fun _ _ _ z => by cases z; exact c) fun _ z => by cases z) n (RepF.rk e r)
theorem Reps.rk (e : RK FC H H') : ∀ {ds : List D} {vs : List V}, Reps K FC H ds vs → Reps K FC H' ds vs
  | _, _, .nil => .nil
  | _, _, .cons h r => .cons (Rep.rk e h) (Reps.rk e r)
theorem RepF.rk (e : RK FC H H') : ∀ {fs : List (Str × D)} {gs : List (Str × V)}, RepF K FC H fs gs → RepF K FC H' fs gs
  | _, _, .nil => .nil
  | _, _, .cons h r => .cons (Rep.rk e h) (RepF.rk e r)
end
theorem RepE.rk {ρ : SD} {σ : L2.St} (e : RK FC H H') (R : RepE K FC H ρ σ) : RepE K FC H' ρ σ := ⟨R.len, fun i d h => let ⟨v, a, b⟩ := R.get i d h; ⟨v, a, b.rk e⟩⟩
end
theorem HsI.rk (T : Tx K w mg a) {pl : Pl} {h dx : Addr} {st : Sto} {past : List Ent} {fl : Nat} {H H' : Hp} (I : HsI K a pl h dx st past fl H) (e : KeepX [h] H H') : RK a.FC H H' := RK.keep e fun x hx => by
  rw [List.mem_singleton.mp hx]
  obtain ⟨_, _, _, g, _⟩ := I.ex
  exact ⟨_, _, _, g, T.nHF⟩
/-! ### _law_plan -/
def Rl.norm : Rl → Rl
  | .key l => .key (setOf l)
  | r => r
theorem Rl.norm_ok {ns : List Nm} {r : Rl} (h : r.ok ns) : r.norm.ok ns := by
  cases r with
  | key l =>
    obtain ⟨_, h2⟩ : l.length ≤ 7 ∧ ∀ x ∈ l, x ∈ ns := h
    exact ⟨setOf_len l, fun x hx => h2 x (mem_setOf.mp hx)⟩
  | _ => exact trivial
def Pl.norm (p : Pl) : Pl := { p with pls := p.pls.map fun x => (x.1, x.2.norm) }
theorem Pl.norm_len (p : Pl) : p.norm.pls.length = p.pls.length := List.length_map ..
theorem Pl.norm_ok {p : Pl} (h : p.ok) : p.norm.ok := by
  refine ⟨h.b2, h.b3, h.f1, h.f2, h.c2, by rw [p.norm_len]; exact h.n1, by rw [p.norm_len]; exact h.n2, fun i x hx => ?_, h.dl, fun l hl => by rw [p.norm_len]; exact h.dr l hl⟩
  have hx : (p.pls.map fun x => (x.1, x.2.norm))[i]? = some x := hx
  rw [List.getElem?_map] at hx
  obtain ⟨y, hy, rfl⟩ := Option.map_eq_some_iff.mp hx
  have q := h.pl i y hy
  exact ⟨q.ok, q.dep, q.len, q.bel, q.nms, Rl.norm_ok q.rl⟩
theorem Dd.norm_ok {p : Pl} {d : Dd} (h : d.ok p) : d.ok p.norm := by
  cases d with
  | set c n => exact h
  | ask i fs =>
    obtain ⟨h1, h2, h3⟩ : i < p.pls.length ∧ fs.length = p.f ∧ ∀ x ∈ fs, x < p.b := h
    exact ⟨by rw [p.norm_len]; exact h1, h2, h3⟩
/-- a call that makes an instance, with keywords -/
structure MakN (P : Program) (w : World) (K : PySem.W.Frag) (mg : Str → Option Value) (base : Heap) (k : Nat) (x : Str) (C : Addr) (sp : Sp) (n : Nat) (ks : List Str) : Prop where
  ex : ∃ (f : Addr) (fd : FuncData) (ps : List Str) (g : List Value → List Value → List Value), Mk K C f ∧ FnOk P w K mg base CX0 k f fd ps sp ∧ mg x = some (.ref C) ∧ KBn K fd ps (n + 1) ks g (fun vs zs => vs ++ zs)
theorem pe_mkN {X : Cx} {k j n : Nat} {x : Str} {C : Addr} {sp : Sp} {ks : List Str} {p pos : Pos} {e : Expr} {es : List Expr} {kws : List Keyword} {t tk : TA} (c : MakN X.prog X.w X.K X.mg X.base k x C sp n ks) (hr : Room j X.A) (hk : k + 1 ≤ j) (hg : Gl X x) (ha : PA X (e :: es) t) (hkw : PK X kws tk)
    (hall : (backToKw pos (keywordEach kws X.env)).all (·.1.isSome) = true := by rfl) (hks : (backToKw pos (keywordEach kws X.env)).filterMap (·.1) = ks := by rfl)
    (hdb : (x == ("__debug__" : Str)) = false := by decide) (he : starEach (e :: es) X.env = (false, eval e X.env) :: starEach es X.env := by rfl)
    (hpl : ((backTo pos (starEach (e :: es) X.env)).any (·.1) || (backToKw pos (keywordEach kws X.env)).any (·.1.isNone)) = false := by rfl) :
    PE X (.Call (.Name x p) (e :: es) kws pos) (tMakeN C n ks.length sp (fun vs zs => vs ++ zs) C8.E0 t tk) := by
  obtain ⟨f, fd, ps, g, M, F, hm, b⟩ := c.ex
  exact pe_makeN M F (hr.mono hk) hg hm b C8.pass0 ha hkw hall hks hdb he hpl
theorem ev_makeN {FC : Addr → Prop} {σ : L2.St} {H : Hp} {ds es : List D} {d : D} {f : Str} {n m : Nat} {C : Addr} {R : List D → Str → D → Prop} {tr tk : TA} (ha : EvA K FC tr σ H ds) (hb : EvA K FC tk σ H es) (hn : ds.length = n) (hm : es.length = m) (hR : R (ds ++ es) f d) (hC : FC C) : EvD K FC (tMakeN C n m (spI K FC C R) (fun vs zs => vs ++ zs) C8.E0 tr tk) σ H (.obj C [(f, d)]) := fun H1 e Q q =>
  ha H1 e _ fun vs H2 e2 r => hb H2 (e.trans e2) _ fun zs H3 e3 rz => ⟨by rw [r.length]; exact hn, by rw [rz.length]; exact hm, fun x dx nx ndx ne => by
    have s1 : Same H3 (upd (upd H3 dx (.own x)) x (.ins C dx [])) := (Same.new ndx).trans (Same.new (by rw [upd_ne (Ne.symm ne)]; exact nx))
    refine ⟨x, dx, vs ++ zs, ds ++ es, f, d, rfl, upd_same, hR, ((r.mono e3).append rz).mono s1, fun H' v k hp rv => ⟨rfl, q _ H' ((e2.trans e3).trans (Same.made nx ndx k)) (.obj hC hp (List.cons_ne_nil _ _) (.cons rv .nil))⟩⟩⟩
abbrev s_law_plan : Stmt := top 55
theorem sc_law_plan : FnScope ["plain", "places", "form", "rule"] ["plain"] (defScope s_law_plan) := ⟨rfl, rfl, rfl, by decide +kernel, rfl, by decide +kernel, by decide +kernel⟩
def rLPlan (a : Ad) : List D → (D → Prop) → Prop := fun ds Pd => ∃ p : Pl, p.ok ∧ ds = [plainD p] ∧ Pd = fun x => x = p.norm.d a
theorem ok_law_plan (F : FnP K "_law_plan" "_law_plan" s_law_plan f fd) (T : Tx K w mg a) (c_Recipe : C8.Mak P w K mg base 8 "Recipe" a.CR (spI K a.FC a.CR rRecipe) []) (c_Key : C8.Mak P w K mg base 3 "Key" a.CK (spI K a.FC a.CK rKey) []) (c_Plan : MakN P w K mg base 10 "Plan" a.CP (spI K a.FC a.CP (rPlan a)) 4 ["drops"]) :
    FnOk P w K mg base CX0 12 f fd ["plain"] (spN K a.FC (rLPlan a)) := by
  refine fnN F sc_law_plan (fun ds Pd h => ?_) (fun cdv A outer s H E hr => ⟨_, (pss_cons (ps_set (i := 1) sc_law_plan.nd rfl (Or.inl rfl) (pe_lst pa_nil))
    (pss_cons (ps_for PassesOwn.never rfl (pi_tup (pe_ix (ix_tupK (K := K)) (pv 0) pe_int (fun _ _ => rfl))) (pg_tupK (K := K) (n := 2) (by rfl) (pgs_cons (pg_name (i := 2) sc_law_plan.nd (by rfl) (.inl (by rfl)) (by first | exact .inl rfl | exact .inr rfl)) (pgs_cons (pg_name (i := 3) sc_law_plan.nd (by rfl) (.inl (by rfl)) (by first | exact .inl rfl | exact .inr rfl)) pgs_nil)))
      (pss_one (ps_expr (pe_bm PySem.F.plainAttrs_list PySem.F.slot_list_append PySem.F.type_list_append mt_append (pv 1) (pa_cons (pe_tup (pa_cons (C8.pe_mk c_Recipe hr (by omega) (by rfl) (pa_cons (pv 2) pa_nil)) (pa_cons (pe_ifExp (pt_val (pe_callB (call_isiK1 (K := K)) (by rfl) T.f_isinstance (by decide +kernel) (pa_cons (pv 3) (pa_cons (pe_bltn (v := .ty "tuple") (by rfl) T.f_tuple (by decide +kernel) rfl) pa_nil)))) (C8.pe_mk c_Key hr (by omega) (by rfl) (pa_cons (pv 3) pa_nil)) (pv 3)) pa_nil))) pa_nil)))))
    (pss_one (ps_ret (pe_mkN c_Plan hr (by omega) (by rfl) (pa_cons (pe_ix (ix_tupK (K := K)) (pv 0) pe_int (fun _ _ => rfl)) (pa_cons (pe_ix (ix_tupK (K := K)) (pv 0) pe_int (fun _ _ => rfl)) (pa_cons (pe_ix (ix_tupK (K := K)) (pv 0) pe_int (fun _ _ => rfl)) (pa_cons (pe_callTy (call_tupK (K := K)) (by rfl) T.f_tuple (by decide +kernel) (pa_cons (pv 1) pa_nil)) pa_nil)))) (pk_cons (pe_ix (ix_tupK (K := K)) (pv 0) pe_int (fun _ _ => rfl)) pk_nil)))))), ?_⟩)
  · obtain ⟨p, _, rfl, _⟩ := h
    rfl
  · rintro ds Pd vs Q ⟨p, ok, rfl, rfl⟩ R kq
    have n2 := ok.n2
    refine st_seq (st_setL R (ev_lst ea_nil) fun pp us1 H1 hpp e1 hl1 r1 R1 => ?_)
    cases r1
    have R1 : RepE K a.FC H1 [some (plainD p), some (.at (.ref pp)), none, none] _ := R1
    have nol : ∀ d, some d ∈ ([some (plainD p), some (.at (.ref pp)), none, none] : SD) → NoL d := fun d hd => by
      simp at hd
      rcases hd with rfl | rfl
      · exact plainD_noL p
      · exact .at _
    refine st_forApp (α := Fm × Rl) (ed := placeD a) (Good := fun i y => p.norm.pls[i]? = some y) R1 nol (evz_tup (ev_ixT (ev_var R1 (n := 0) rfl) (ev_c (v := .int 3)) rfl) (.of fun d h => by obtain ⟨x, _, rfl⟩ := List.mem_map.mp h; exact plD_noL x)) hpp e1 hl1 (placeD_noL a) (by rw [List.length_map]; omega) (fun i d x σ2 H2 us xs hd e2 R2 hp2 lu hx rx nx bk qn => ?_) fun σ5 H5 us5 pls e5 R5 hp5 rr5 hxl hg5 => ?_
    · rw [List.getElem?_map] at hd
      obtain ⟨⟨m, r⟩, hi', rfl⟩ := Option.map_eq_some_iff.mp hd
      have pk := ok.pl i (m, r) hi'
      refine bind_pair (n := 2) (m := 3) (vs := [2, 3]) (by simp) (by simp) σ2 H2 x R2 rx _ fun σ3 H3 e3 R3 _ => ?_
      have R3 : RepE K a.FC H3 [some (plainD p), some (.at (.ref pp)), some m.d, some r.pd] σ3 := R3
      have hrec := ev_make (K := K) (FC := a.FC) (ea_cons (ev_var R3 (n := 2) rfl) ea_nil) (C := a.CR) (R := rRecipe) ⟨m, pk.ok, pk.dep, pk.len, rfl, rfl, rfl⟩ (.inl rfl)
      have hrule : EvD K a.FC (tIf (tB (tCB (rIsi K) (tCons (tVar 3) (tCons (tC (.ty "tuple")) tNil)))) (tMake a.CK (spI K a.FC a.CK rKey) [] C8.E0 (tCons (tVar 3) tNil)) (tVar 3)) σ3 H3 (r.norm.d a.CK) := by
        cases r with
        | none => exact ev_if (b := false) (et_B (ev_isi (d := dn) (b := false) (ev_var R3 (n := 3) rfl) .non ev_c (.ty "tuple") (kit_ty (by decide +kernel)))) (d := keyD a.CK []) (fun z => nomatch z) fun _ => ev_var R3 (n := 3) rfl
        | reads => exact ev_if (b := false) (et_B (ev_isi (d := dz "reads") (b := false) (ev_var R3 (n := 3) rfl) (.str _) ev_c (.ty "tuple") (kit_ty (by decide +kernel)))) (d := keyD a.CK []) (fun z => nomatch z) fun _ => ev_var R3 (n := 3) rfl
        | shown => exact ev_if (b := false) (et_B (ev_isi (d := dz "shown") (b := false) (ev_var R3 (n := 3) rfl) (.str _) ev_c (.ty "tuple") (kit_ty (by decide +kernel)))) (d := keyD a.CK []) (fun z => nomatch z) fun _ => ev_var R3 (n := 3) rfl
        | key l =>
          obtain ⟨l7, _⟩ : l.length ≤ 7 ∧ ∀ x ∈ l, x ∈ nmsFor p.f p.c i := pk.rl
          exact ev_if (b := true) (et_B (ev_isi (d := .tup (l.map nmD)) (b := true) (ev_var R3 (n := 3) rfl) (.tup _) ev_c (.ty "tuple") (kit_ty (by decide +kernel)))) (e := dn) (fun _ => ev_make (ea_cons (ev_var R3 (n := 3) rfl) ea_nil) ⟨l, by omega, rfl, rfl, rfl⟩ (.inr (.inl rfl))) fun z => nomatch z
      refine st_append (n := 1) (R3.ref (i := 1) rfl) (e3 _ _ hp2) lu (ev_tup (ea_cons hrec (ea_cons hrule ea_nil)) (by show 2 ≤ sizeLine; decide)) fun v H4 e4 r4 hp4 => ?_
      refine qn (m, r.norm) v σ3 H4 ?_ (e3.trans e4) (((R3.mono e4).drop0 2).drop0 3) r4 hp4
      show (p.pls.map fun x => (x.1, x.2.norm))[i]? = _
      rw [List.getElem?_map, hi']
      rfl
    · have epl : pls = p.norm.pls := by
        refine List.ext_getElem? fun j => ?_
        by_cases hj : j < pls.length
        · rw [List.getElem?_eq_getElem hj, hg5 j _ (List.getElem?_eq_getElem hj)]
        · rw [List.getElem?_eq_none (by omega), List.getElem?_eq_none (by rw [p.norm_len, ← List.length_map (f := plD), ← hxl]; omega)]
      subst epl
      refine st_ret (ev_makeN (ea_cons (ev_ixT (ev_var R5 (n := 0) rfl) (ev_c (v := .int 0)) rfl) (ea_cons (ev_ixT (ev_var R5 (n := 0) rfl) (ev_c (v := .int 1)) rfl) (ea_cons (ev_ixT (ev_var R5 (n := 0) rfl) (ev_c (v := .int 2)) rfl) (ea_cons (ev_tupR (n := 1) (R5.ref (i := 1) rfl) hp5 rr5) ea_nil)))) (ea_cons (ev_ixT (ev_var R5 (n := 0) rfl) (ev_c (v := .int 4)) rfl) ea_nil) rfl rfl ⟨p.norm, Pl.norm_ok ok, rfl, rfl, rfl⟩ (.inr (.inr rfl))) fun v6 H6 e6 r6 => kq _ v6 H6 rfl (e5.trans e6) r6
/-! ### _law_deed -/
abbrev s_law_deed : Stmt := top 56
theorem sc_law_deed : FnScope ["script", "at", "plain", "seed", "fields", "spot"] ["script", "at", "plain"] (defScope s_law_deed) := ⟨rfl, rfl, rfl, by decide +kernel, rfl, by decide +kernel, by decide +kernel⟩
def rLDeed : List D → (D → Prop) → Prop := fun ds Pd => ∃ (ns : List Int) (at_ : Int) (p : Pl), p.ok ∧ ds = [.lst (ns.map di), di at_, plainD p] ∧ Pd = fun x => ∃ dd : Dd, dd.ok p ∧ x = dd.d
theorem mod_nat {r : Int} {n : Nat} (h : 1 ≤ n) : ∃ j : Nat, r % (n : Int) = (j : Int) ∧ j < n := by
  have h1 : 0 ≤ r % (n : Int) := Int.emod_nonneg _ (by omega)
  have h2 : r % (n : Int) < n := Int.emod_lt_of_pos _ (by omega)
  exact ⟨(r % (n : Int)).toNat, by omega, by omega⟩
theorem ok_law_deed (F : FnP K "_law_deed" "_law_deed" s_law_deed f fd) (T : Tx K w mg a) (c_law_number : C8.Cal P w K mg base 1 "_law_number" (spN K a.FC rNum) []) : FnOk P w K mg base CX0 2 f fd ["script", "at", "plain"] (spN K a.FC rLDeed) := by
  refine fnN F sc_law_deed (fun ds Pd h => ?_) (fun cdv A outer s H E hr => ⟨_, (pss_cons (ps_set (i := 3) sc_law_deed.nd rfl (Or.inr rfl) (C8.pe_c c_law_number hr (by omega) (by rfl) (pa_cons (pv 0) (pa_cons (pv 1) pa_nil))))
    (pss_cons (ps_if (PW.pt (pw_and (pt_cmpR op_gt (pe_ix (ix_tupK (K := K)) (pv 2) pe_int (fun _ _ => rfl)) pe_int (nomark _)) (pw_and1 (pt_cmpR op_eq (pe_op op_mod (pe_callTy call_int1 (by rfl) T.f_int (by decide +kernel) (pa_cons (pv 3) pa_nil)) pe_int) pe_int (nomark _))))) (pss_one (ps_ret (pe_tup (pa_cons pe_str (pa_cons (pe_op op_mod (pe_callTy call_int1 (by rfl) T.f_int (by decide +kernel) (pa_cons (pe_op op_fdiv (pv 3) pe_int) pa_nil)) (pe_ix (ix_tupK (K := K)) (pv 2) pe_int (fun _ _ => rfl))) (pa_cons (pe_op op_mod (pe_callTy call_int1 (by rfl) T.f_int (by decide +kernel) (pa_cons (pe_op op_fdiv (pv 3) pe_int) pa_nil)) (pe_ix (ix_tupK (K := K)) (pv 2) pe_int (fun _ _ => rfl))) pa_nil)))))) pss_nil)
    (pss_cons (ps_set (i := 4) sc_law_deed.nd rfl (Or.inl rfl) (pe_callTy (call_tupK (K := K)) (by rfl) T.f_tuple (by decide +kernel) (pa_cons (pe_lc (own := [("spot", 5)]) rfl sc_law_deed.nd (pi_range1 (by rfl) T.f_range (pa_cons (pe_ix (ix_tupK (K := K)) (pv 2) pe_int (fun _ _ => rfl)) pa_nil)) (blkOk_by (own := [("spot", 5)]) (N := ["script", "at", "plain", "seed", "fields", "spot"]) (sc := defScope s_law_deed) (by decide +kernel)) (fun _ _ _ _ _ => (pg_name (i := 5) sc_law_deed.nd (by rfl) (.inl (by rfl)) (by first | exact .inl rfl | exact .inr rfl))) (fun _ _ _ _ _ => pts_nil) (fun _ _ _ _ _ => (pe_op op_mod (pe_callTy call_int1 (by rfl) T.f_int (by decide +kernel) (pa_cons (pe_op op_fdiv (pv 3) (pe_op op_add pe_int (pe_op op_mul pe_int (pv 5)))) pa_nil)) (pe_ix (ix_tupK (K := K)) (pv 2) pe_int (fun _ _ => rfl))))) pa_nil)))
    (pss_one (ps_ret (pe_tup (pa_cons pe_str (pa_cons (pe_op op_mod (pe_callTy call_int1 (by rfl) T.f_int (by decide +kernel) (pa_cons (pe_op op_fdiv (pv 3) pe_int) pa_nil)) (pe_callB (call_lenK (K := K)) (by rfl) T.f_len (by decide +kernel) (pa_cons (pe_ix (ix_tupK (K := K)) (pv 2) pe_int (fun _ _ => rfl)) pa_nil))) (pa_cons (pv 4) pa_nil))))))))), ?_⟩)
  · obtain ⟨ns, at_, p, _, rfl, _⟩ := h
    rfl
  · rintro ds Pd vs Q ⟨ns, at_, p, ok, rfl, rfl⟩ R kq
    have b2 := ok.b2
    have f2 := ok.f2
    have n1 := ok.n1
    have n2 := ok.n2
    refine st_setS R (ev_num (ev_var R (n := 0) rfl) (ev_var R (n := 1) rfl)) fun v1 H1 e1 r1 R1 => ?_
    obtain ⟨sd, hsd⟩ : ∃ sd : Int, lawNum ns at_ = sd := ⟨_, rfl⟩
    have R1 : RepE K a.FC H1 [some (.lst (ns.map di)), some (di at_), some (plainD p), some (di (lawNum ns at_)), none, none] _ := R1
    rw [hsd] at R1
    have ht := (et_and (et_test (ev_gt (ev_ixT (ev_var R1 (n := 2) rfl) (ev_c (v := .int 2)) rfl) (ev_c (v := .int 0)))) fun _ => et_test (ev_eq (ev_mod (ev_int (ev_var R1 (n := 3) rfl)) (ev_c (v := .int 4)) (by decide)) (ev_c (v := .int 0)) rfl))
    by_cases hc : (decide ((0 : Int) < (p.c : Int)) && decide (V.int (sd % 4) = V.int 0)) = true
    · have pc : 1 ≤ p.c := by
        have := of_decide_eq_true (Bool.and_eq_true_iff.mp hc).1
        omega
      refine st_seq (st_yes (ht.to hc) fun H2 e2 => ?_)
      have R2 := R1.mono e2
      obtain ⟨j, hj, lj⟩ := mod_nat (r := sd / 4) pc
      obtain ⟨k, hk, lk⟩ := mod_nat (r := sd / 8) (n := p.b) (by omega)
      refine st_ret (ev_tup (ea_cons (ev_c (v := .str "set")) (ea_cons ((ev_mod (ev_int (ev_div (ev_var R2 (n := 3) rfl) (ev_c (v := .int 4)) ⟨by decide, by decide⟩)) (ev_ixT (ev_var R2 (n := 2) rfl) (ev_c (v := .int 2)) rfl) (by omega)).to (d' := di (j : Int)) (by rw [hj])) (ea_cons ((ev_mod (ev_int (ev_div (ev_var R2 (n := 3) rfl) (ev_c (v := .int 8)) ⟨by decide, by decide⟩)) (ev_ixT (ev_var R2 (n := 2) rfl) (ev_c (v := .int 0)) rfl) (by omega)).to (d' := di (k : Int)) (by rw [hk])) ea_nil))) (by show 3 ≤ sizeLine; decide)) fun v3 H3 e3 r3 =>
        kq _ v3 H3 ⟨.set j k, ⟨lj, lk⟩, rfl⟩ ((e1.trans e2).trans e3) r3
    · refine st_skipS (ht.to (Bool.eq_false_iff.mpr hc)) fun H2 e2 => ?_
      have R2 := R1.mono e2
      obtain ⟨fs, hfs⟩ : ∃ fs : List Nat, fs = (List.range p.f).map fun (k : Nat) => (sd / (50 + 9 * (k : Int)) % (p.b : Int)).toNat := ⟨_, rfl⟩
      have hlc := el_map (vs := [5]) (α := Nat) (xs := List.range p.f) (dof := fun (k : Nat) => di (k : Int)) (f := fun (k : Nat) => di ((sd / (50 + 9 * (k : Int)) % (p.b : Int)).toNat : Int)) R2 (evi_range (ea_cons (ev_ixT (ev_var R2 (n := 2) rfl) (ev_c (v := .int 1)) rfl) ea_nil)) (fun i _ => bind_name (n := 5) (by simp))
        (fun k hk σ' H' e R' => (ev_mod (ev_int (ev_div (ev_var R' (n := 3) rfl) (ev_add (ev_c (v := .int 50)) (ev_mul (ev_c (v := .int 9)) (ev_var R' (n := 5) rfl) (.inl ⟨by decide, by decide⟩))) ⟨by omega, by have := List.mem_range.mp hk; omega⟩)) (ev_ixT (ev_var R' (n := 2) rfl) (ev_c (v := .int 0)) rfl) (by omega)).to (by rw [Int.toNat_of_nonneg (Int.emod_nonneg _ (by omega))])) (fun k hk => .at _) (by rw [List.length_range]; omega)
      have hlc := hlc.to (es := fs.map fun (k : Nat) => di (k : Int)) (by rw [hfs, List.map_map]; rfl)
      refine st_setS R2 (ev_tupL hlc) fun v3 H3 e3 r3 R3 => ?_
      have R3 : RepE K a.FC H3 [some (.lst (ns.map di)), some (di at_), some (plainD p), some (di sd), some (natsD fs), none] _ := R3
      obtain ⟨j, hj, lj⟩ := mod_nat (r := sd / 4) (n := p.pls.length) n1
      have hlp : ((p.pls.map plD).length : Int) = (p.pls.length : Int) := by rw [List.length_map]
      refine st_ret (ev_tup (ea_cons (ev_c (v := .str "ask")) (ea_cons ((ev_mod (ev_int (ev_div (ev_var R3 (n := 3) rfl) (ev_c (v := .int 4)) ⟨by decide, by decide⟩)) (ev_lenT (ev_ixT (ev_var R3 (n := 2) rfl) (ev_c (v := .int 3)) rfl)) (by rw [hlp]; omega)).to (d' := di (j : Int)) (by rw [hlp, hj])) (ea_cons (ev_var R3 (n := 4) rfl) ea_nil))) (by show 3 ≤ sizeLine; decide)) fun v4 H4 e4 r4 =>
        kq _ v4 H4 ⟨.ask j fs, ⟨lj, by rw [hfs, List.length_map, List.length_range], fun x hx => ?_⟩, rfl⟩ (((e1.trans e2).trans e3).trans e4) r4
      rw [hfs] at hx
      obtain ⟨k, _, rfl⟩ := List.mem_map.mp hx
      have h1 : 0 ≤ sd / (50 + 9 * (k : Int)) % (p.b : Int) := Int.emod_nonneg _ (by omega)
      have h2 : sd / (50 + 9 * (k : Int)) % (p.b : Int) < p.b := Int.emod_lt_of_pos _ (by omega)
      omega
end
end T34

/-! Kd23 -/
set_option maxHeartbeats 4000000
namespace T34
open PySem PySem.Spec PyProof.Rows L2
local macro_rules | `(tactic| walk_at "ev") => `(tactic| (first
  | (with_reducible exact ev_c)
  | ((with_reducible refine' ev_var ?R ?h); (case R => assumption); (case h => rfl))
  | (with_reducible refine' ea_cons ?_ ?_)
  | (with_reducible exact ea_nil)
  | (with_reducible refine' ev_add ?_ ?_)
  | (with_reducible refine' ev_sub ?_ ?_)
  | (with_reducible refine' ev_mul ?_ ?_ ?_)
  | (with_reducible refine' ev_mod ?_ ?_ ?_)
  | (with_reducible refine' ev_div ?_ ?_ ?_)
  | (with_reducible refine' ev_lt ?_ ?_)
  | (with_reducible refine' ev_le ?_ ?_)
  | (with_reducible refine' ev_gt ?_ ?_)
  | (with_reducible refine' ev_ge ?_ ?_)
  | (with_reducible refine' ev_int ?_)
  | (with_reducible refine' ev_not ?_)
  | (with_reducible refine' ev_tup ?_)
  | (with_reducible refine' ev_between ?_ ?_ ?_)
  | (with_reducible refine' et_test ?_)
  | (with_reducible refine' et_B ?_)
  | (with_reducible refine' et_not ?_)))
section
variable {P : Program} {w : World} {K : PySem.W.Frag} {mg : Str → Option Value} {base : Heap} {a : Ad} {TT : List (Addr × Str)} {f : Addr} {fd : FuncData}
open LamX (Tabs)
/-! ### data that == looks at -/
def PK (d : D) (n : Nat) : Prop := ∃ x, PyD d x ∧ PyData.canLay0 x = true ∧ PyData.depth x ≤ n
theorem pk_int (i : Int) (n : Nat) : PK (di i) n := ⟨_, .int i, by simp [PyData.canLay0], by simp [PyData.depth]⟩
theorem pk_non (n : Nat) : PK dn n := ⟨_, .non, by simp [PyData.canLay0], by simp [PyData.depth]⟩
theorem pk_str {x : Str} (n : Nat) (h : PyData.strOk x = true) : PK (dz x) n := ⟨_, .str x, by simp [PyData.canLay0, h], by simp [PyData.depth]⟩
theorem pks {n : Nat} : ∀ {ds : List D}, (∀ d ∈ ds, PK d n) → ∃ xs, PyDs ds xs ∧ PyData.canLayAll0 xs = true ∧ PyData.depthAll xs ≤ n
  | [], _ => ⟨[], .nil, by simp [PyData.canLayAll0], by simp [PyData.depthAll]⟩
  | d :: ds, h => by
    obtain ⟨x, h1, h2, h3⟩ := h d List.mem_cons_self
    obtain ⟨xs, q1, q2, q3⟩ := pks fun e he => h e (List.mem_cons_of_mem _ he)
    exact ⟨x :: xs, .cons h1 q1, by simp [PyData.canLayAll0, h2, q2], by rw [PyData.depthAll]; omega⟩
theorem pk_tup {n : Nat} {ds : List D} (h : ∀ d ∈ ds, PK d n) : PK (.tup ds) (n + 1) := by
  obtain ⟨xs, h1, h2, h3⟩ := pks h
  exact ⟨.tuple xs, .tup h1, by rw [PyData.canLay0]; exact h2, by rw [PyData.depth]; omega⟩
theorem pk_lst {n : Nat} {ds : List D} (h : ∀ d ∈ ds, PK d n) : PK (.lst ds) (n + 1) := by
  obtain ⟨xs, h1, h2, h3⟩ := pks h
  exact ⟨.list xs, .lst h1, by rw [PyData.canLay0]; exact h2, by rw [PyData.depth]; omega⟩
theorem PK.up {d : D} {m n : Nat} (h : PK d m) (l : m ≤ n) : PK d n := let ⟨x, h1, h2, h3⟩ := h; ⟨x, h1, h2, Nat.le_trans h3 l⟩
theorem PK.same {d : D} {n : Nat} {FC : Addr → Prop} {H : Hp} {u v : V} (h : PK d n) (l : n ≤ 60) (ru : Rep K FC H d u) (rv : Rep K FC H d v) : SameD K H u v := by
  obtain ⟨x, h1, h2, h3⟩ := h
  exact ⟨x, h1.dp ru, h1.dp rv, by unfold SeqAt.shaped; rw [h2]; simp; omega⟩
section
variable {FC : Addr → Prop} {σ : L2.St} {H : Hp} {ta tb : TE} {d : D} {n : Nat}
theorem ev_eqSame (h : PK d n) (l : n ≤ 60) (ha : EvD K FC ta σ H d) (hb : EvD K FC tb σ H d) : EvD K FC (tOp (rEqD K) ta tb) σ H (db true) := by
  obtain ⟨x, h1, h2, h3⟩ := h
  have s : SeqAt.shaped x = true := by unfold SeqAt.shaped; rw [h2]; simp; omega
  exact (ev_eqD ha hb h1 h1 s s).to (by rw [SeqAt.eqv_refl x h2])
theorem ev_neSame (h : PK d n) (l : n ≤ 60) (ha : EvD K FC ta σ H d) (hb : EvD K FC tb σ H d) : EvD K FC (tOp (rNeD K) ta tb) σ H (db false) := by
  obtain ⟨x, h1, h2, h3⟩ := h
  have s : SeqAt.shaped x = true := by unfold SeqAt.shaped; rw [h2]; simp; omega
  exact (ev_neD ha hb h1 h1 s s).to (by rw [SeqAt.eqv_refl x h2]; rfl)
end
theorem Nm.strOk (x : Nm) : PyData.strOk x.s = true := by cases x <;> decide +kernel
theorem pk_nats (l : List Nat) : PK (natsD l) 1 := pk_tup fun d h => by
  obtain ⟨k, _, rfl⟩ := List.mem_map.mp h
  exact pk_int _ _
theorem pk_dd (x : Dd) : PK x.d 2 := by
  cases x with
  | set c n =>
    refine pk_tup fun d h => ?_
    simp at h
    rcases h with rfl | rfl | rfl
    · exact pk_str _ (by decide +kernel)
    · exact pk_int _ _
    · exact pk_int _ _
  | ask p fs =>
    refine pk_tup fun d h => ?_
    simp at h
    rcases h with rfl | rfl | rfl
    · exact pk_str _ (by decide +kernel)
    · exact pk_int _ _
    · exact pk_nats fs
theorem pk_jou (e : Ent) : PK (jouD e) 3 := pk_tup fun d h => by
  simp at h
  rcases h with rfl | rfl
  · exact pk_dd e.dd
  · cases e.nd with
    | none => exact pk_non _
    | some z => exact pk_int _ _
theorem pk_jous (past : List Ent) : PK (.lst (past.map jouD)) 4 := pk_lst fun d h => by
  obtain ⟨e, _, rfl⟩ := List.mem_map.mp h
  exact pk_jou e
theorem pk_row (r : Row) : PK (rowD r) 4 := pk_tup fun d h => by
  simp at h
  rcases h with rfl | rfl
  · refine pk_tup (n := 2) fun d h => ?_
    obtain ⟨m, _, rfl⟩ := List.mem_map.mp h
    refine pk_tup (n := 1) fun d h => ?_
    simp at h
    rcases h with rfl | rfl
    · exact pk_str _ m.1.strOk
    · exact pk_int _ _
  · exact pk_int _ _
theorem pk_sto (s : Sto) : PK s.d 7 := pk_tup fun d h => by
  simp at h
  rcases h with rfl | rfl
  · exact (pk_nats s.cells).up (by omega)
  · refine pk_tup (n := 5) fun d h => ?_
    obtain ⟨rs, _, rfl⟩ := List.mem_map.mp h
    refine pk_tup (n := 4) fun d h => ?_
    obtain ⟨r, _, rfl⟩ := List.mem_map.mp h
    exact pk_row r
/-! ### _law_shot -/
theorem BillR.rk {FC : Addr → Prop} {past : List Ent} {n : Nat} {kvs : List (L2.Key × V)} {H H' : Hp} (h : BillR K FC H past n kvs) (z : RK FC H H') : BillR K FC H' past n kvs := ⟨h.1, fun i hi => let ⟨v, h1, h2⟩ := h.2 i hi; ⟨v, h1, h2.rk z⟩⟩
structure ShotI (K : PySem.W.Frag) (a : Ad) (t : Addr) (pl : Pl) (st : Sto) (past : List Ent) (H : Hp) : Prop where
  ex : ∃ v1 v2 p kvs, SqT K H t [v1, v2, .ref p, .int (past.length : Int)] ∧ Rep K a.FC H st.d v1 ∧ Rep K a.FC H (.lst (past.map jouD)) v2 ∧ H p = some (.dK kvs) ∧ BillR K a.FC H past pl.pls.length kvs
theorem ShotI.rk {t : Addr} {pl : Pl} {st : Sto} {past : List Ent} {H H' : Hp} (h : ShotI K a t pl st past H) (z : RK a.FC H H') : ShotI K a t pl st past H' := by
  obtain ⟨v1, v2, p, kvs, h1, h2, h3, h4, h5⟩ := h.ex
  exact ⟨v1, v2, p, kvs, z.sqt h1, h2.rk z, h3.rk z, z.k _ _ h4 (fun _ _ _ q => by cases q) (fun _ q => by cases q), h5.rk z⟩
theorem ShotI.eq {t u : Addr} {pl : Pl} {st : Sto} {past : List Ent} {H : Hp} {Q : VK} (h : ShotI K a t pl st past H) (k : ShotI K a u pl st past H) (q : Q (.bl true) H) : rEqShot K (.ref t) (.ref u) H Q := by
  obtain ⟨v1, v2, p, kvs, h1, h2, h3, h4, h5⟩ := h.ex
  obtain ⟨u1, u2, r, ls, k1, k2, k3, k4, k5⟩ := k.ex
  exact ⟨t, u, p, r, v1, v2, u1, u2, _, kvs, ls, rfl, rfl, h1, k1, (pk_sto st).same (by omega) h2 k2, (pk_jous past).same (by omega) h3 k3, h4, k4, bills_same h5 k5, q⟩
def spShot (K : PySem.W.Frag) (a : Ad) : Sp := fun vs H Q _ => ∃ (pl : Pl) (h dx : Addr) (st : Sto) (past : List Ent) (fl : Nat), vs = [.ref h] ∧ HsI K a pl h dx st past fl H ∧ past.length ≤ 24 ∧ ∀ t H', Same H H' → ShotI K a t pl st past H' → Q (.ref t) H'
/-- what is looked at of a house -/
structure Looks (P : Program) (w : World) (K : PySem.W.Frag) (mg : Str → Option Value) (base : Heap) (a : Ad) : Prop where
  m_stock : C8.Met P w K mg base 1 a.CH "stock" (spLook K a fun _ st _ _ d => d = st.d) []
  m_journal : C8.Met P w K mg base 1 a.CH "journal" (spLook K a fun _ _ past _ d => d = .lst (past.map jouD)) []
  m_bill : C8.Met P w K mg base 5 a.CH "bill" (spBill K a) []
  c_hlen : LenO P w K mg base 1 a.CH (spLook K a fun _ _ past _ d => d = di (past.length : Int))
/-- o.m() of a look -/
theorem ev_look {σ : L2.St} {ρ : SD} {H : Hp} {n : Nat} {m : Str} {R : Pl → Sto → List Ent → Nat → D → Prop} {pl : Pl} {h dx : Addr} {st : Sto} {past : List Ent} {fl : Nat} {d : D} (I : HsI K a pl h dx st past fl H) (hl : past.length ≤ 24) (RR : RepE K a.FC H ρ σ) (hn : ρ[n]? = some (some (.at (.ref h)))) (hR : R pl st past fl d)
    (hm : ([("source", V.non), ("held", V.non), ("past", V.non), ("floor", V.non)] : List (Str × V)).lookup m = none) : EvD K a.FC (tMeth a.CH m (spLook K a R) [] C8.E0 (tVar n) tNil) σ H d := fun H1 e Q q => by
  obtain ⟨vp, vh, vq, g, _⟩ := (I.same e).ex
  refine ⟨.ref h, RR.ref hn, h, dx, _, rfl, g, ?_, pl, h, dx, st, past, fl, d, hR, rfl, I.same e, hl, fun v H' e' r => q v H' e' r⟩
  simp only [List.lookup_cons] at hm ⊢
  repeat' split at hm
  all_goals first | (cases hm; done) | (simp_all)
theorem ev_lenH {σ : L2.St} {ρ : SD} {H : Hp} {n : Nat} {pl : Pl} {h dx : Addr} {st : Sto} {past : List Ent} {fl : Nat} (I : HsI K a pl h dx st past fl H) (hl : past.length ≤ 24) (RR : RepE K a.FC H ρ σ) (hn : ρ[n]? = some (some (.at (.ref h)))) :
    EvD K a.FC (tCB (rLenO a.CH (spLook K a fun _ _ past _ d => d = di (past.length : Int))) (tCons (tVar n) tNil)) σ H (di (past.length : Int)) := fun H1 e Q q => by
  obtain ⟨vp, vh, vq, g, _⟩ := (I.same e).ex
  refine ⟨.ref h, RR.ref hn, h, dx, _, rfl, g, pl, h, dx, st, past, fl, _, rfl, rfl, I.same e, hl, fun v H' e' r => ?_⟩
  cases r.at_inv
  exact ⟨past.length, rfl, by omega, q _ H' e' (.at _)⟩
abbrev s_law_shot : Stmt := top 57
theorem sc_law_shot : FnScope ["house"] ["house"] (defScope s_law_shot) := ⟨rfl, rfl, rfl, by decide +kernel, rfl, by decide +kernel, by decide +kernel⟩
theorem ok_law_shot (F : FnP K "_law_shot" "_law_shot" s_law_shot f fd) (T : Tx K w mg a) (L : Looks P w K mg base a) : FnOk P w K mg base CX0 7 f fd ["house"] (spShot K a) := by
  have m_stock := L.m_stock
  have m_journal := L.m_journal
  have m_bill := L.m_bill
  have c_hlen := L.c_hlen
  refine fnG0 F sc_law_shot (fun vs H Q E h => ?_) (fun cdv Ar outer s H E hr => ⟨_, (pss_one (ps_ret (pe_tup (pa_cons (C8.pe_mt0 m_stock hr (by omega) (pv 0)) (pa_cons (C8.pe_mt0 m_journal hr (by omega) (pv 0)) (pa_cons (C8.pe_mt0 m_bill hr (by omega) (pv 0)) (pa_cons (pe_callB (call_lenO c_hlen hr (by omega)) (by rfl) T.f_len (by decide +kernel) (pa_cons (pv 0) pa_nil)) pa_nil))))))), ?_⟩)
  · obtain ⟨pl, h, dx, st, past, fl, rfl, _⟩ := h
    rfl
  · rintro vs Q ⟨pl, h, dx, st, past, fl, rfl, I, hl, q⟩
    have R : RepE K a.FC H [some (.at (.ref h))] (start ["house"] [.ref h]) := RepE.start (N := ["house"]) (ds := [.at (.ref h)]) (.cons (.at _) .nil)
    refine (ev_look I hl R (n := 0) rfl rfl rfl).go fun v1 H1 e1 r1 => ?_
    have I1 := I.same e1
    have R1 := R.mono e1
    refine (ev_look I1 hl R1 (n := 0) rfl rfl rfl).go fun v2 H2 e2 r2 => ?_
    have I2 := I1.same e2
    have R2 := R1.mono e2
    obtain ⟨_, _, _, g2, _⟩ := I2.ex
    refine ⟨.ref h, R2.ref (i := 0) rfl, h, dx, _, rfl, g2, rfl, pl, h, dx, st, past, fl, rfl, I2, hl, fun p kvs H3 e3 hp h3 br => ?_⟩
    have I3 := I2.same e3
    have R3 := R2.mono e3
    refine (ev_lenH I3 hl R3 (n := 0) rfl).go fun v4 H4 e4 r4 => ?_
    cases r4.at_inv
    refine ⟨by show 4 ≤ sizeLine; decide, fun t ht => ?_⟩
    have e45 : Same H4 (upd H4 t (.tup [v1, v2, .ref p, .int (past.length : Int)])) := Same.new ht
    have s35 := e4.trans e45
    exact q t _ ((((e1.trans e2).trans e3).trans e4).trans e45) ⟨v1, v2, p, kvs, SqT.of upd_same, r1.mono ((e2.trans e3).trans s35), r2.mono (e3.trans s35), s35 _ _ h3, br.frz (Same.frz s35)⟩
/-! ### _law_do -/
structure CalO (P : Program) (w : World) (K : PySem.W.Frag) (mg : Str → Option Value) (base : Heap) (k : Nat) (C : Addr) (sp : Sp) : Prop where
  ex : ∃ g : Addr, StX.CallO K C g ∧ FnR P w K mg base CX0 k g sp
end
end T34

/-! Kd24 -/
set_option maxHeartbeats 4000000
namespace T34
open PySem PySem.Spec PyProof.Rows L2
local macro_rules | `(tactic| walk_at "ev") => `(tactic| (first
  | (with_reducible exact ev_c)
  | ((with_reducible refine' ev_var ?R ?h); (case R => assumption); (case h => rfl))
  | (with_reducible refine' ea_cons ?_ ?_)
  | (with_reducible exact ea_nil)
  | (with_reducible refine' ev_add ?_ ?_)
  | (with_reducible refine' ev_sub ?_ ?_)
  | (with_reducible refine' ev_mul ?_ ?_ ?_)
  | (with_reducible refine' ev_mod ?_ ?_ ?_)
  | (with_reducible refine' ev_div ?_ ?_ ?_)
  | (with_reducible refine' ev_lt ?_ ?_)
  | (with_reducible refine' ev_le ?_ ?_)
  | (with_reducible refine' ev_gt ?_ ?_)
  | (with_reducible refine' ev_ge ?_ ?_)
  | (with_reducible refine' ev_int ?_)
  | (with_reducible refine' ev_not ?_)
  | (with_reducible refine' ev_tup ?_)
  | (with_reducible refine' ev_between ?_ ?_ ?_)
  | (with_reducible refine' et_test ?_)
  | (with_reducible refine' et_B ?_)
  | (with_reducible refine' et_not ?_)))
section
variable {P : Program} {w : World} {K : PySem.W.Frag} {mg : Str → Option Value} {base : Heap} {a : Ad} {TT : List (Addr × Str)} {f : Addr} {fd : FuncData}
open LamX (Tabs)
/-- one more deed was done -/
structure Grew (K : PySem.W.Frag) (a : Ad) (TT : List (Addr × Str)) (pl : Pl) (h dx : Addr) (st : Sto) (past : List Ent) (fl : Nat) (H H' : Hp) : Prop where
  ex : ∃ st' e, HsI K a pl h dx st' (past ++ [e]) fl H'
  kp : KeepX [h] H H'
  tb : Tabs TT H'
def spDo (K : PySem.W.Frag) (a : Ad) (TT : List (Addr × Str)) : Sp := fun vs H Q _ => ∃ (ns : List Int) (at_ : Int) (p : Pl) (h dx : Addr) (st : Sto) (past : List Ent) (fl : Nat) (vS vP : V), vs = [vS, .int at_, vP, .ref h] ∧ Rep K a.FC H (.lst (ns.map di)) vS ∧ Rep K a.FC H (plainD p) vP ∧ p.ok ∧
  HsI K a p.norm h dx st past fl H ∧ past.length < 24 ∧ Tabs TT H ∧ ∀ H', Grew K a TT p.norm h dx st past fl H H' → Q .non H'
abbrev s_law_do : Stmt := top 58
theorem sc_law_do : FnScope ["script", "at", "plain", "house", "deed"] ["script", "at", "plain", "house"] (defScope s_law_do) := ⟨rfl, rfl, rfl, by decide +kernel, rfl, by decide +kernel, by decide +kernel⟩
theorem ok_law_do {kH : Nat} (F : FnP K "_law_do" "_law_do" s_law_do f fd) (T : Tx K w mg a) (c_law_deed : C8.Cal P w K mg base 2 "_law_deed" (spN K a.FC rLDeed) []) (oc : CalO P w K mg base kH a.CH (spCallH K a TT)) (os : SetO P w K mg base kH a.CH (spSet K a TT)) (hk : 2 ≤ kH) :
    FnOk P w K mg base CX0 (kH + 1) f fd ["script", "at", "plain", "house"] (spDo K a TT) := by
  obtain ⟨g, c1, Fg⟩ := oc.ex
  refine fnG0 F sc_law_do (fun vs H Q E h => ?_) (fun cdv Ar outer s H E hr => ⟨_, (pss_cons (ps_set (i := 4) sc_law_do.nd rfl (Or.inl rfl) (C8.pe_c c_law_deed hr (by omega) (by rfl) (pa_cons (pv 0) (pa_cons (pv 1) (pa_cons (pv 2) pa_nil)))))
    (pss_one (ps_if (pt_cmpR op_eq (pe_ix (ix_tupK (K := K)) (pv 4) pe_int (fun _ _ => rfl)) pe_str (nomark _)) (pss_one (ps_expr (StX.pe_callO (pv 3) c1 Fg hr (C8.pass0 (E := C8.E0)) (pa_cons (pe_ix (ix_tupK (K := K)) (pv 4) pe_int (fun _ _ => rfl)) (pa_cons (pe_ix (ix_tupK (K := K)) (pv 4) pe_int (fun _ _ => rfl)) pa_nil))))) (pss_one (ps_asg (pe_ix (ix_tupK (K := K)) (pv 4) pe_int (fun _ _ => rfl)) (pg_sub (pv 3) (pe_ix (ix_tupK (K := K)) (pv 4) pe_int (fun _ _ => rfl)) (set_own os hr (Nat.le_refl _)))))))), ?_⟩)
  · obtain ⟨ns, at_, p, h, dx, st, past, fl, vS, vP, rfl, _⟩ := h
    rfl
  · rintro vs Q ⟨ns, at_, p, h, dx, st, past, fl, vS, vP, rfl, rS, rP, ok, I, hl, tb, q⟩
    have R : RepE K a.FC H [some (.lst (ns.map di)), some (di at_), some (plainD p), some (.at (.ref h)), none] (start ["script", "at", "plain", "house", "deed"] [vS, .int at_, vP, .ref h]) := RepE.start (N := ["script", "at", "plain", "house", "deed"]) (ds := [.lst (ns.map di), di at_, plainD p, .at (.ref h)]) (.cons rS (.cons (.at _) (.cons rP (.cons (.at _) .nil))))
    refine st_seq (st_setP R (ev_call (ea_cons (ev_var R (n := 0) rfl) (ea_cons (ev_var R (n := 1) rfl) (ea_cons (ev_var R (n := 2) rfl) ea_nil))) ⟨ns, at_, p, ok, rfl, rfl⟩) fun d v1 H1 pd e1 r1 R1 => ?_)
    obtain ⟨dd, hd, rfl⟩ := pd
    have I1 := I.same e1
    have tb1 := tabs_same tb e1
    have R1 : RepE K a.FC H1 [some (.lst (ns.map di)), some (di at_), some (plainD p), some (.at (.ref h)), some dd.d] _ := R1
    cases dd with
    | ask i fs =>
      refine st_yes ((et_test (ev_eq (ev_ixT (ev_var R1 (n := 4) rfl) (ev_c (v := .int 0)) rfl) (ev_c (v := .str "ask")) rfl)).to (by decide)) fun H2 e2 => ?_
      have R2 := R1.mono e2
      refine ⟨.ref h, R2.ref (i := 3) rfl, h, rfl, ?_⟩
      refine (ea_cons (ev_ixT (ev_var R2 (n := 4) rfl) (ev_c (v := .int 1)) rfl) (ea_cons (ev_ixT (ev_var R2 (n := 4) rfl) (ev_c (v := .int 2)) rfl) ea_nil) : EvA K a.FC _ _ H2 [di (i : Int), natsD fs]).go fun vs3 H3 e3 r3 => ?_
      obtain ⟨vf, rfl, rf⟩ : ∃ vf, vs3 = [.int (i : Int), vf] ∧ Rep K a.FC H3 (natsD fs) vf := by
        cases r3 with
        | cons r rr => cases rr with
          | cons r2 rr => cases rr; cases r.at_inv; exact ⟨_, rfl, r2⟩
      have e13 := e2.trans e3
      have I3 := I1.same e13
      obtain ⟨_, _, _, g3, _⟩ := I3.ex
      exact ⟨.inr ⟨_, _, g3⟩, p.norm, h, dx, st, past, fl, i, fs, vf, rfl, rf, I3, hl, Dd.norm_ok hd, tabs_same tb1 e13, fun v nd st' tr H4 I4 k4 t4 => q H4 ⟨⟨st', _, I4⟩, (KeepX.of (e1.trans e13)).trans k4, t4⟩⟩
    | set c m =>
      refine st_no ((et_test (ev_eq (ev_ixT (ev_var R1 (n := 4) rfl) (ev_c (v := .int 0)) rfl) (ev_c (v := .str "ask")) rfl)).to (by decide)) fun H2 e2 => ?_
      have R2 := R1.mono e2
      refine (ev_ixT (ev_var R2 (n := 4) rfl) (ev_c (v := .int 2)) rfl : EvD K a.FC _ _ H2 (di (m : Int))).go fun v3 H3 e3 r3 => ?_
      cases r3.at_inv
      have R3 := R2.mono e3
      refine ⟨.ref h, R3.ref (i := 3) rfl, ?_⟩
      refine (ev_ixT (ev_var R3 (n := 4) rfl) (ev_c (v := .int 1)) rfl : EvD K a.FC _ _ H3 (di (c : Int))).go fun v4 H4 e4 r4 => ?_
      cases r4.at_inv
      have e14 := (e2.trans e3).trans e4
      have I4 := I1.same e14
      obtain ⟨_, _, _, g4, _⟩ := I4.ex
      exact ⟨h, _, _, rfl, g4, p.norm, h, dx, st, past, fl, c, m, rfl, I4, hl, Dd.norm_ok hd, tabs_same tb1 e14, fun v nd st' tr H5 I5 k5 t5 => q H5 ⟨⟨st', _, I5⟩, (KeepX.of (e1.trans e14)).trans k5, t5⟩⟩
/-! ### the journal while an exception is handled -/
structure MetH (P : Program) (w : World) (K : PySem.W.Frag) (mg : Str → Option Value) (base : Heap) (k : Nat) (C : Addr) (m : Str) (sp : Sp) : Prop where
  ex : ∃ (f : Addr) (fd : FuncData) (ps : List Str), Cls K C ∧ Meth K C m f ∧ L2H.FnH P w K mg base CX0 k f fd ps sp ∧ Binds K fd ps []
theorem pe_methH0 {X : Cx} {pl : Sem Bool} {k : Nat} {C : Addr} {m : Str} {sp : Sp} {o : Expr} {ta : TE} {apos pos : Pos} (c : MetH X.prog X.w X.K X.mg X.base k C m sp) (hr : L2H.RoomH k X.A) (hc : L2H.HotC X) (he : PE X o ta)
    (ht : eval (.Call (.Attribute o m apos) [] [] pos) X.env = (do
      let ov ← eval o X.env
      standAt apos.atName
      let (f, first) ← holding [ov] (getMethod ov m pl)
      callWith pos f first (backTo pos (starEach [] X.env)) (backToKw pos (keywordEach [] X.env))) := by rfl) :
    PE X (.Call (.Attribute o m apos) [] [] pos) (tMeth C m sp [] C8.E0 ta tNil) := by
  obtain ⟨g, fd, ps, hc', hm, F, hb⟩ := c.ex
  refine ⟨fun pins s σ H Q I h => ?_⟩
  refine PySem.W.methodCall_KW (pl := pl) (thn (he.run pins s σ H _ I h) fun u s1 ⟨x, H1, I1, rx, a, dx, fs, ex, ea, l, q⟩ => ?_) ht
  subst ex
  obtain rfl : u = Value.ref a := rx
  refine getmeth_ok I1 ea hc' hm l ?_
  exact PySem.W.callWith_K0 (first := [.ref a]) I1.kIn hm.kp (L2H.run_fnH (us := [.ref a]) (vs := [.ref a]) (E := fun _ => C8.E0) F hr hc hb (fun _ _ _ _ _ _ h => h.elim) I1 (.cons rfl .nil) q)
theorem hot_Hjournal (F : FnP K "journal" "House.journal" s_House_journal f fd) (T : Tx K w mg a) : L2H.FnH P w K mg base CX0 1 f fd ["self"] (spLook K a fun _ _ past _ d => d = .lst (past.map jouD)) := by
  obtain ⟨oc, od, dV, kV, doc, pm, an, cdv, ct, osl, rfl, lk, hcd, _, _⟩ := F.ex
  refine L2H.fn_ofH lk hcd sc_House_journal (fun vs H Q E h => ?_) (fun Ar outer s H vs Q E p hot hr h => ⟨_, pss_one (ps_ret (pe_lcH (own := [("row", 1)]) ⟨p, hot, List.mem_cons_self⟩ sc_House_journal.nd (pe_fldK (K := K) (pv 0)) (blkOk_by (own := [("row", 1)]) (N := ["self", "row"]) (sc := defScope s_House_journal) (by decide +kernel)) (fun _ _ _ _ _ => (pg_name (i := 1) sc_House_journal.nd (by rfl) (.inl (by rfl)) (by first | exact .inl rfl | exact .inr rfl))) (fun _ _ _ _ _ => pts_nil) (fun _ _ _ _ _ => (pe_ix (ix_tupK (K := K)) (pv 1) pe_int (fun _ _ => rfl))))), ?_⟩)
  · obtain ⟨pl, h, dx, st, past, fl, d, _, rfl, _⟩ := h
    rfl
  · obtain ⟨pl, h, dx, st, past, fl, d, rfl, rfl, I, hl, q⟩ := h
    have R : RepE K a.FC H [some (.at (.ref h)), none] (start ["self", "row"] [.ref h]) := RepE.start (N := ["self", "row"]) (ds := [.at (.ref h)]) (.cons (.at _) .nil)
    exact st_ret (el_map (α := Ent) (xs := past) (dof := entD) (f := jouD) R (evi_tup (ev_past T I R rfl)) (fun x _ => bind_name (List.mem_singleton.mpr rfl)) (fun x _ σ' H' e R' => ev_ixT (ev_var R' rfl) ev_c rfl) (fun e _ => jouD_noL e) (by omega)).toD fun v H1 e1 r1 => q v H1 e1 r1
/-! ### _law_undone_right -/
theorem roomH_suite {X : Cx} {x : Addr} {pn : List (Addr × Obj)} {j k : Nat} (hr : Room j X.A) (hk : k ≤ j) : L2H.RoomH k (X.suite x pn).A := ⟨(hr.mono hk).dp, (hr.mono hk).un⟩
theorem units_suite {X : Cx} {x : Addr} {pn : List (Addr × Obj)} {j : Nat} (hr : Room j X.A) : (X.suite x pn).A.units + 64 < cLine := hr.units
theorem op_eqHK {X : Cx} {K : PySem.W.Frag} (hu : X.A.units + 64 < cLine) (h : X.K = K := by rfl) : OpR X (compareOp .Eq) (rEqD K) := by subst h; exact op_eqD hu
theorem takesNo {X : Cx} : L2N.Takes X (fun _ _ _ _ => False) := fun _ _ ⟨_, _, _, _, _, _, _, _, _, _, _, _, _, _, _, _, w⟩ => w.elim
theorem cutD_lastM {α β : Type} (f : α → β) (xs : List α) (x : α) : cutD ((xs ++ [x]).map f) none (some (-1)) = xs.map f := by rw [List.map_append]; exact cutD_last _ _
abbrev s_law_undone_right : Stmt := top 59
theorem sc_law_undone_right : FnScope ["house", "floor", "journal", "found"] ["house", "floor"] (defScope s_law_undone_right) := ⟨rfl, rfl, rfl, by decide +kernel, rfl, by decide +kernel, by decide +kernel⟩
def spUR (K : PySem.W.Frag) (a : Ad) (TT : List (Addr × Str)) : Sp := fun vs H Q _ => ∃ (pl : Pl) (h dx : Addr) (st : Sto) (past : List Ent) (fl : Nat), vs = [.ref h, .int (fl : Int)] ∧ HsI K a pl h dx st past fl H ∧ fl ≤ past.length ∧ past.length ≤ 24 ∧ Tabs TT H ∧
  (past.length = fl → ∀ H', Same H H' → Q (.bl true) H') ∧ (fl < past.length → ∀ past' e H', past = past' ++ [e] → HsI K a pl h dx e.st past' fl H' → KeepX [h] H H' → Tabs TT H' → Q (.bl true) H')
theorem ok_law_undone_right {CN : Addr} (F : FnP K "_law_undone_right" "_law_undone_right" s_law_undone_right f fd) (T : Tx K w mg a) (L : Looks P w K mg base a) (N : ExN K mg CN) (m_undo : MetN P w K mg base 2 a.CH "undo" (spUndo K a CN TT)) (h_journal : MetH P w K mg base 1 a.CH "journal" (spLook K a fun _ _ past _ d => d = .lst (past.map jouD))) :
    FnOk P w K mg base CX0 3 f fd ["house", "floor"] (spUR K a TT) := by
  have m_journal := L.m_journal
  refine fnG0 F sc_law_undone_right (fun vs H Q E h => ?_) (fun cdv Ar outer s H E hr => ⟨_, (pss_cons (ps_set (i := 2) sc_law_undone_right.nd rfl (Or.inl rfl) (C8.pe_mt0 m_journal hr (by omega) (pv 0)))
    (pss_cons (L2N.ps_try_many rfl rfl takesNo (fun W pn xe tk _ => (pss_one (ps_set (i := 3) sc_law_undone_right.nd rfl (Or.inl rfl) (pe_methE m_undo hr (by omega) (fun σ => L2N.passAt tk σ) (pv 0)))))
      (.cons (c := .ref CN) ⟨by rfl, by decide, .inl N.g⟩ (fun x oe cls d pn hz hd => (pss_one (ps_ret (pe_and (pe_cmpR op_eq (pe_callB (call_lenK (K := K)) (by rfl) T.f_len (by decide +kernel) (pa_cons (pv 2) pa_nil)) (pv 1) (nomark _)) (pe_one (pe_cmpR (op_eqHK (K := K) (units_suite hr)) (pe_methH0 h_journal (roomH_suite hr (by omega)) (hot_suite hz hd) (pv 0)) (pv 2) (nomark _))))))) .nil))
    (pss_cons (ps_if (PW.pt (pw_or (pt_cmpR op_le (pe_callB (call_lenK (K := K)) (by rfl) T.f_len (by decide +kernel) (pa_cons (pv 2) pa_nil)) (pv 1) (nomark _)) (pw_or1 (pt_cmpR (op_neDK (K := K) hr) (pv 3) (pe_ix (ix_listK (K := K)) (pv 2) (pe_un un_neg pe_int) (fun _ _ => rfl)) (nomark _))))) (pss_one (ps_ret pe_bl)) pss_nil)
    (pss_one (ps_ret (pe_cmpR (op_eqDK (K := K) hr) (C8.pe_mt0 m_journal hr (by omega) (pv 0)) (pe_slice (sl_listK (K := K)) (pv 2) po_none (po_some (pe_un un_neg pe_int))) (nomark _))))))), ?_⟩)
  · obtain ⟨pl, h, dx, st, past, fl, rfl, _⟩ := h
    rfl
  · rintro vs Q ⟨pl, h, dx, st, past, fl, rfl, I, hfl, hl, tb, q1, q2⟩
    have R : RepE K a.FC H [some (.at (.ref h)), some (di (fl : Int)), none, none] (start ["house", "floor", "journal", "found"] [.ref h, .int (fl : Int)]) := RepE.start (N := ["house", "floor", "journal", "found"]) (ds := [.at (.ref h), di (fl : Int)]) (.cons (.at _) (.cons (.at _) .nil))
    refine st_setS R (ev_look I hl R (n := 0) rfl rfl rfl) fun v1 H1 e1 r1 R1 => ?_
    have I1 := I.same e1
    have tb1 := tabs_same tb e1
    have R1 : RepE K a.FC H1 [some (.at (.ref h)), some (di (fl : Int)), some (.lst (past.map jouD)), none] _ := R1
    obtain ⟨σ1, hσ1⟩ : ∃ σ1 : L2.St, σ1 = (start ["house", "floor", "journal", "found"] [.ref h, .int (fl : Int)]).set 2 (some v1) := ⟨_, rfl⟩
    rw [← hσ1] at R1 ⊢
    obtain ⟨_, _, _, g1, _⟩ := I1.ex
    refine st_seq ?_
    refine ⟨.ref h, R1.ref (i := 0) rfl, h, dx, _, rfl, g1, rfl, pl, h, dx, st, past, fl, rfl, I1, hl, tb1, fun hle H2 e2 => ?_, fun hlt past' e v2 H2 epast I2 kp2 z2 tb2 r2 => ?_⟩
    · have el : past.length = fl := Nat.le_antisymm hle hfl
      refine ⟨true, N.nn, fun _ x hx => ?_, fun z => nomatch z⟩
      have R2 := R1.mono e2
      have I2 := I1.same e2
      have hJ : EvD K a.FC (tMeth a.CH "journal" (spLook K a fun _ _ past _ d => d = .lst (past.map jouD)) [] C8.E0 (tVar 0) tNil) σ1 H2 (.lst (past.map jouD)) := ev_look I2 hl R2 (n := 0) rfl rfl rfl
      refine st_ret (d := db true) ((ev_and (b := true) (c := true) ((ev_eq (ev_lenL (ev_var R2 (n := 2) rfl)) (ev_var R2 (n := 1) rfl) rfl).to (d' := db true) (by rw [List.length_map, el]; exact congrArg db (decide_eq_true rfl))) fun _ => ev_eqSame (pk_jous past) (by omega) hJ (ev_var R2 (n := 2) rfl)).to rfl) fun v3 H3 e3 r3 => ?_
      cases r3.at_inv
      exact q1 el H3 ((e1.trans e2).trans e3)
    · subst epast
      have z12 : RK a.FC H1 H2 := I1.rk T kp2
      have R2 : RepE K a.FC H2 [some (.at (.ref h)), some (di (fl : Int)), some (.lst ((past' ++ [e]).map jouD)), some (jouD e)] (σ1.set 3 (some v2)) := (R1.rk z12).set (i := 3) r2
      obtain ⟨σ2, hσ2⟩ : ∃ σ2 : L2.St, σ2 = σ1.set 3 (some v2) := ⟨_, rfl⟩
      show tSeq _ _ _ (σ1.set 3 (some v2)) H2
      rw [← hσ2] at R2 ⊢
      have hl' : past'.length ≤ 24 := by
        rw [List.length_append] at hl
        omega
      refine st_skipS ((et_or (b := false) (c := false) ((et_test (ev_le (ev_lenL (ev_var R2 (n := 2) rfl)) (ev_var R2 (n := 1) rfl))).to (by rw [List.length_map]; exact decide_eq_false (by omega))) fun _ => et_test (ev_neSame (pk_jou e) (by omega) (ev_var R2 (n := 3) rfl) (ev_ixL (ev_var R2 (n := 2) rfl) (ev_neg (ev_c (v := .int 1))) (by rw [List.map_append]; exact atI_last _ _)))).to rfl) fun H3 e3 => ?_
      have R3 := R2.mono e3
      have I3 := I2.same e3
      refine st_ret (ev_eqSame (pk_jous past') (by omega) (ev_look I3 hl' R3 (n := 0) rfl rfl rfl) ((el_slL (ev_var R3 (n := 2) rfl) eo_none (eo_some (ev_neg (FC := a.FC) (K := K) (ev_c (v := .int 1))))).to (cutD_lastM jouD past' e)).toD) fun v4 H4 e4 r4 => ?_
      cases r4.at_inv
      have e24 := e3.trans e4
      exact q2 hlt past' e H4 rfl (I2.same e24) (((KeepX.of e1).trans kp2).trans (KeepX.of e24)) (tabs_same tb2 e24)
end
end T34

/-! Kd25 -/
set_option maxHeartbeats 4000000
namespace T34
open PySem PySem.Spec PyProof.Rows L2
local macro_rules | `(tactic| walk_at "ev") => `(tactic| (first
  | (with_reducible exact ev_c)
  | ((with_reducible refine' ev_var ?R ?h); (case R => assumption); (case h => rfl))
  | (with_reducible refine' ea_cons ?_ ?_)
  | (with_reducible exact ea_nil)
  | (with_reducible refine' ev_add ?_ ?_)
  | (with_reducible refine' ev_sub ?_ ?_)
  | (with_reducible refine' ev_mul ?_ ?_ ?_)
  | (with_reducible refine' ev_mod ?_ ?_ ?_)
  | (with_reducible refine' ev_div ?_ ?_ ?_)
  | (with_reducible refine' ev_lt ?_ ?_)
  | (with_reducible refine' ev_le ?_ ?_)
  | (with_reducible refine' ev_gt ?_ ?_)
  | (with_reducible refine' ev_ge ?_ ?_)
  | (with_reducible refine' ev_int ?_)
  | (with_reducible refine' ev_not ?_)
  | (with_reducible refine' ev_tup ?_)
  | (with_reducible refine' ev_between ?_ ?_ ?_)
  | (with_reducible refine' et_test ?_)
  | (with_reducible refine' et_B ?_)
  | (with_reducible refine' et_not ?_)))
section
variable {P : Program} {w : World} {K : PySem.W.Frag} {mg : Str → Option Value} {base : Heap} {a : Ad} {TT : List (Addr × Str)} {f : Addr} {fd : FuncData}
open LamX (Tabs)
/-! ### _law_other_right -/
theorem args2 {FC : Addr → Prop} {H : Hp} {x y : V} {vs : List V} (r : Reps K FC H [.at x, .at y] vs) : vs = [x, y] := Reps.ats_inv (vs := [x, y]) r
theorem args1 {FC : Addr → Prop} {H : Hp} {x : V} {vs : List V} (r : Reps K FC H [.at x] vs) : vs = [x] := Reps.ats_inv (vs := [x]) r
theorem KeepX.new {h : Addr} {H H1 H2 : Hp} (e : Same H H1) (n : H h = none) (k : KeepX [h] H1 H2) : KeepX [] H H2 := fun x o hx _ t => k x o (e _ _ hx) (fun m => by
  rw [List.mem_singleton.mp m, n] at hx
  cases hx) t
theorem st_parG {i j : Nat} {ta : TA} {t2 : TS} {B : Ends} {σ : L2.St} {H : Hp} (h : ta σ H fun vs H1 => ∃ v w, vs = [v, w] ∧ t2 B ((σ.set i (some v)).set j (some w)) H1) : tSeq (tPar i j ta) t2 B σ H := h
abbrev s_law_other_right : Stmt := top 61
theorem sc_law_other_right : FnScope ["house", "before", "other"] ["house"] (defScope s_law_other_right) := ⟨rfl, rfl, rfl, by decide +kernel, rfl, by decide +kernel, by decide +kernel⟩
def spOR (K : PySem.W.Frag) (a : Ad) (TT : List (Addr × Str)) : Sp := fun vs H Q _ => ∃ (pl : Pl) (h dx : Addr) (st : Sto) (past : List Ent) (fl : Nat), vs = [.ref h] ∧ HsI K a pl h dx st past fl H ∧ past.length ≤ 24 ∧ Tabs TT H ∧ ∀ H', KeepX [] H H' → Tabs TT H' → Q (.bl true) H'
theorem ok_law_other_right (F : FnP K "_law_other_right" "_law_other_right" s_law_other_right f fd) (T : Tx K w mg a) (L : Looks P w K mg base a) (c_law_shot : C8.Cal P w K mg base 7 "_law_shot" (spShot K a) []) (c_law_undone_right : C8.Cal P w K mg base 3 "_law_undone_right" (spUR K a TT) [])
    (m_branch : C8.Met P w K mg base 8 a.CH "branch" (spBranch K a) []) : FnOk P w K mg base CX0 9 f fd ["house"] (spOR K a TT) := by
  have c_hlen := L.c_hlen
  refine fnG0 F sc_law_other_right (fun vs H Q E h => ?_) (fun cdv Ar outer s H E hr => ⟨_, (pss_cons (ps_par (i := 1) (j := 2) (by rfl) sc_law_other_right.nd rfl rfl (by decide) rfl rfl (pa_cons (C8.pe_c c_law_shot hr (by omega) (by rfl) (pa_cons (pv 0) pa_nil)) (pa_cons (C8.pe_mt0 m_branch hr (by omega) (pv 0)) pa_nil)) (by rfl))
    (pss_cons (ps_while PassesOwn.never (pt_cmpR op_gt (pe_callB (call_lenO c_hlen hr (by omega)) (by rfl) T.f_len (by decide +kernel) (pa_cons (pv 2) pa_nil)) pe_int (nomark _)) (pss_one (ps_if (pt_not (pt_val (C8.pe_c c_law_undone_right hr (by omega) (by rfl) (pa_cons (pv 2) (pa_cons pe_int pa_nil))))) (pss_one (ps_ret pe_bl)) pss_nil)))
    (pss_one (ps_ret (pe_and (C8.pe_c c_law_undone_right hr (by omega) (by rfl) (pa_cons (pv 2) (pa_cons pe_int pa_nil))) (pe_one (pe_cmpR (op_eqShot (K := K) (j := 7) hr) (C8.pe_c c_law_shot hr (by omega) (by rfl) (pa_cons (pv 0) pa_nil)) (pv 1) (nomark _)))))))), ?_⟩)
  · obtain ⟨pl, h, dx, st, past, fl, rfl, _⟩ := h
    rfl
  · rintro vs Q ⟨pl, h, dx, st, past, fl, rfl, I, hl, tb, q⟩
    have R : RepE K a.FC H [some (.at (.ref h)), none, none] (start ["house", "before", "other"] [.ref h]) := RepE.start (N := ["house", "before", "other"]) (ds := [.at (.ref h)]) (.cons (.at _) .nil)
    obtain ⟨σ0, hσ0⟩ : ∃ σ0 : L2.St, σ0 = start ["house", "before", "other"] [.ref h] := ⟨_, rfl⟩
    rw [← hσ0] at R ⊢
    refine st_parG ?_
    show tCall (spShot K a) [] C8.E0 (tCons (tVar 0) tNil) σ0 H _
    refine (ea_cons (ev_var R (n := 0) rfl) ea_nil : EvA K a.FC _ σ0 H [.at (.ref h)]).go fun vs1 H1 e1 r1 => ?_
    have ev1 := args1 r1
    subst ev1
    refine ⟨pl, h, dx, st, past, fl, rfl, I.same e1, hl, fun t H2 e2 S2 => ?_⟩
    have e02 := e1.trans e2
    have I2 := I.same e02
    have R2 := R.mono e02
    obtain ⟨_, _, _, g2, _⟩ := I2.ex
    refine ⟨.ref h, R2.ref (i := 0) rfl, h, dx, _, rfl, g2, rfl, pl, h, dx, st, past, fl, rfl, I2, fun h2 dx2 H3 hn e3 I3 => ⟨_, _, rfl, ?_⟩⟩
    have e03 := e02.trans e3
    have hn0 : H h2 = none := fresh_back e02 hn
    have hne : h ≠ h2 := fun z => by
      rw [z] at g2
      rw [hn] at g2
      cases g2
    have R3 : RepE K a.FC H3 [some (.at (.ref h)), some (.at (.ref t)), some (.at (.ref h2))] ((σ0.set 1 (some (.ref t))).set 2 (some (.ref h2))) := ((R.mono e03).set (i := 1) (.at (.ref t))).set (i := 2) (.at (.ref h2))
    obtain ⟨σ3, hσ3⟩ : ∃ σ3 : L2.St, σ3 = (σ0.set 1 (some (.ref t))).set 2 (some (.ref h2)) := ⟨_, rfl⟩
    show tSeq _ _ _ ((σ0.set 1 (some (.ref t))).set 2 (some (.ref h2))) H3
    rw [← hσ3] at R3 ⊢
    have S3 := S2.rk (RK.of e3)
    have tb3 := tabs_same tb e03
    refine st_seq ?_
    refine ⟨fun m σ' H' => ∃ st' past', m = past'.length ∧ HsI K a pl h2 dx2 st' past' 0 H' ∧ past'.length ≤ 24 ∧ KeepX [h2] H3 H' ∧ Tabs TT H' ∧ RepE K a.FC H' [some (.at (.ref h)), some (.at (.ref t)), some (.at (.ref h2))] σ', ⟨_, st, past, rfl, I3, hl, KeepX.refl, tb3, R3⟩, ?_⟩
    rintro m σ' H' ⟨st', past', rfl, I', hl', kp, tb', R'⟩
    have hgt := et_test (ev_gt (ev_lenH I' hl' R' (n := 2) rfl) (ev_c (FC := a.FC) (K := K) (v := .int 0)))
    refine hgt.go fun H4 e4 => ?_
    have I4 := I'.same e4
    have R4 := R'.mono e4
    have kp4 := kp.trans (KeepX.of e4)
    have tb4 := tabs_same tb' e4
    by_cases hp : 0 < past'.length
    · rw [decide_eq_true (show (0 : Int) < (past'.length : Int) by omega)]
      refine ⟨fun σ5 H5 => ∃ st5 past5, past5.length < past'.length ∧ HsI K a pl h2 dx2 st5 past5 0 H5 ∧ past5.length ≤ 24 ∧ KeepX [h2] H3 H5 ∧ Tabs TT H5 ∧ RepE K a.FC H5 [some (.at (.ref h)), some (.at (.ref t)), some (.at (.ref h2))] σ5, fun σ5 H5 ⟨st5, past5, l5, I5, hl5, k5, t5, R5⟩ => ⟨_, l5, st5, past5, rfl, I5, hl5, k5, t5, R5⟩, ?_⟩
      show tCall (spUR K a TT) [] C8.E0 (tCons (tVar 2) (tCons (tC (.int 0)) tNil)) σ' H4 _
      refine (ea_cons (ev_var R4 (n := 2) rfl) (ea_cons (ev_c (v := .int 0)) ea_nil) : EvA K a.FC _ σ' H4 [.at (.ref h2), .at (.int 0)]).go fun vs5 H5 e5 r5 => ?_
      have ev5 := args2 r5
      subst ev5
      refine ⟨pl, h2, dx2, st', past', 0, rfl, I4.same e5, Nat.zero_le _, hl', tabs_same tb4 e5, fun z => absurd z (by omega), fun _ past6 e6 H6 ep I6 k6 t6 => ⟨true, rfl, ?_⟩⟩
      have l6 : past6.length + 1 = past'.length := by rw [ep, List.length_append]; rfl
      have k46 : KeepX [h2] H4 H6 := (KeepX.of e5).trans k6
      exact ⟨e6.st, past6, by omega, I6, by omega, kp4.trans k46, t6, R4.rk (I4.rk T k46)⟩
    · rw [decide_eq_false (show ¬ (0 : Int) < (past'.length : Int) by omega)]
      rw [if_neg Bool.false_ne_true]
      show tCall (spUR K a TT) [] C8.E0 (tCons (tVar 2) (tCons (tC (.int 0)) tNil)) σ' H4 _
      refine (ea_cons (ev_var R4 (n := 2) rfl) (ea_cons (ev_c (v := .int 0)) ea_nil) : EvA K a.FC _ σ' H4 [.at (.ref h2), .at (.int 0)]).go fun vs5 H5 e5 r5 => ?_
      have ev5 := args2 r5
      subst ev5
      refine ⟨pl, h2, dx2, st', past', 0, rfl, I4.same e5, Nat.zero_le _, hl', tabs_same tb4 e5, fun _ H6 e6 => ⟨true, rfl, ?_⟩, fun z => absurd z (by omega)⟩
      have e46 := e5.trans e6
      have R6 := R4.mono e46
      have k36 : KeepX [h2] H3 H6 := kp4.trans (KeepX.of e46)
      have z36 : RK a.FC H3 H6 := I3.rk T k36
      have I6 : HsI K a pl h dx st past fl H6 := ((I.same e03).off k36 (k36.frz (I3.mut T)) (by simp; exact hne))
      show tCall (spShot K a) [] C8.E0 (tCons (tVar 0) tNil) σ' H6 _
      refine (ea_cons (ev_var R6 (n := 0) rfl) ea_nil : EvA K a.FC _ σ' H6 [.at (.ref h)]).go fun vs7 H7 e7 r7 => ?_
      have ev7 := args1 r7
      subst ev7
      refine ⟨pl, h, dx, st, past, fl, rfl, I6.same e7, hl, fun u H8 e8 S8 => ?_⟩
      have e68 := e7.trans e8
      refine ⟨_, (R6.mono e68).ref (i := 1) rfl, S8.eq (S3.rk (z36.trans (RK.of e68))) ?_⟩
      exact q H8 (KeepX.new e03 hn0 (k36.trans (KeepX.of e68))) (tabs_same (tabs_same tb4 e46) e68)
end
end T34

/-! Kd26 -/
set_option maxHeartbeats 4000000
namespace T34
open PySem PySem.Spec PyProof.Rows L2
local macro_rules | `(tactic| walk_at "ev") => `(tactic| (first
  | (with_reducible exact ev_c)
  | ((with_reducible refine' ev_var ?R ?h); (case R => assumption); (case h => rfl))
  | (with_reducible refine' ea_cons ?_ ?_)
  | (with_reducible exact ea_nil)
  | (with_reducible refine' ev_add ?_ ?_)
  | (with_reducible refine' ev_sub ?_ ?_)
  | (with_reducible refine' ev_mul ?_ ?_ ?_)
  | (with_reducible refine' ev_mod ?_ ?_ ?_)
  | (with_reducible refine' ev_div ?_ ?_ ?_)
  | (with_reducible refine' ev_lt ?_ ?_)
  | (with_reducible refine' ev_le ?_ ?_)
  | (with_reducible refine' ev_gt ?_ ?_)
  | (with_reducible refine' ev_ge ?_ ?_)
  | (with_reducible refine' ev_int ?_)
  | (with_reducible refine' ev_not ?_)
  | (with_reducible refine' ev_tup ?_)
  | (with_reducible refine' ev_between ?_ ?_ ?_)
  | (with_reducible refine' et_test ?_)
  | (with_reducible refine' et_B ?_)
  | (with_reducible refine' et_not ?_)))
section
variable {P : Program} {w : World} {K : PySem.W.Frag} {mg : Str → Option Value} {base : Heap} {a : Ad} {TT : List (Addr × Str)} {f : Addr} {fd : FuncData}
open LamX (Tabs)
/-! ### _law_work -/
def spTried (K : PySem.W.Frag) (a : Ad) (TT : List (Addr × Str)) (d : Nat) : Sp := fun vs H Q _ => ∃ (ns : List Int) (at_ : Int) (p : Pl) (h dx : Addr) (st : Sto) (past : List Ent) (fl : Nat) (vS vP : V), vs = [vS, .int at_, vP, .ref h, .int (d : Int)] ∧ Rep K a.FC H (.lst (ns.map di)) vS ∧ Rep K a.FC H (plainD p) vP ∧ p.ok ∧
  HsI K a p.norm h dx st past fl H ∧ past.length + 6 * (d + 1) ≤ 24 ∧ Tabs TT H ∧ ∀ H', HsI K a p.norm h dx st past fl H' → KeepX [h] H H' → Tabs TT H' → Q (.bl true) H'
/-- .. one less deep -/
def spLess (K : PySem.W.Frag) (a : Ad) (TT : List (Addr × Str)) (d : Nat) : Sp := fun vs H Q E => ∃ d', d = d' + 1 ∧ spTried K a TT d' vs H Q E
def spWork (K : PySem.W.Frag) (a : Ad) (TT : List (Addr × Str)) (d : Nat) : Sp := fun vs H Q _ => ∃ (ns : List Int) (at_ : Int) (p : Pl) (h dx : Addr) (st : Sto) (past : List Ent) (fl : Nat) (vS vP : V), vs = [vS, .int at_, vP, .ref h, .int (d : Int), .int (fl : Int)] ∧ Rep K a.FC H (.lst (ns.map di)) vS ∧ Rep K a.FC H (plainD p) vP ∧ p.ok ∧
  HsI K a p.norm h dx st past fl H ∧ fl ≤ past.length ∧ past.length + 6 * (d + 1) ≤ 24 ∧ Tabs TT H ∧ ∀ st' past' H', HsI K a p.norm h dx st' past' fl H' → fl ≤ past'.length → past'.length ≤ past.length + 6 → KeepX [h] H H' → Tabs TT H' → Q (.bl true) H'
abbrev s_law_work : Stmt := top 60
theorem sc_law_work : FnScope ["script", "at", "plain", "house", "deep", "floor", "turn", "word", "spot"] ["script", "at", "plain", "house", "deep", "floor"] (defScope s_law_work) := ⟨rfl, rfl, rfl, by decide +kernel, rfl, by decide +kernel, by decide +kernel⟩
theorem ok_law_work {d kT kD : Nat} (F : FnP K "_law_work" "_law_work" s_law_work f fd) (T : Tx K w mg a) (c_law_number : C8.Cal P w K mg base 1 "_law_number" (spN K a.FC rNum) []) (c_law_undone_right : C8.Cal P w K mg base 3 "_law_undone_right" (spUR K a TT) []) (c_law_other_right : C8.Cal P w K mg base 9 "_law_other_right" (spOR K a TT) [])
    (c_law_do : C8.Cal P w K mg base kD "_law_do" (spDo K a TT) []) (c_law_tried : C8.Cal P w K mg base kT "_law_tried" (spLess K a TT d) []) (h9 : 9 ≤ kT) (hD : kD ≤ kT) : FnOk P w K mg base CX0 (kT + 1) f fd ["script", "at", "plain", "house", "deep", "floor"] (spWork K a TT d) := by
  refine fnG0 F sc_law_work (fun vs H Q E h => ?_) (fun cdv Ar outer s H E hr => ⟨_, (pss_cons (ps_for PassesOwn.never rfl (pi_range1 (by rfl) T.f_range (pa_cons pe_int pa_nil)) (pg_name (i := 6) sc_law_work.nd (by rfl) (.inl (by rfl)) (by first | exact .inl rfl | exact .inr rfl))
      (pss_cons (ps_set (i := 7) sc_law_work.nd rfl (Or.inl rfl) (pe_op op_mod (pe_callTy call_int1 (by rfl) T.f_int (by decide +kernel) (pa_cons (C8.pe_c c_law_number hr (by omega) (by rfl) (pa_cons (pv 0) (pa_cons (pe_op op_add (pe_op op_add (pv 1) pe_int) (pv 6)) pa_nil))) pa_nil)) pe_int))
    (pss_one (ps_if (pt_cmpR op_eq (pv 7) pe_int (nomark _)) (pss_one (ps_if (pt_not (pt_val (C8.pe_c c_law_undone_right hr (by omega) (by rfl) (pa_cons (pv 3) (pa_cons (pv 5) pa_nil))))) (pss_one (ps_ret pe_bl)) pss_nil)) (pss_one (ps_if (pt_cmpR op_eq (pv 7) pe_int (nomark _)) (pss_cons (ps_set (i := 8) sc_law_work.nd rfl (Or.inl rfl) (pe_op op_add (pe_op op_add (pe_op op_mul pe_int (pv 1)) pe_int) (pv 6)))
    (pss_one (ps_if (PW.pt (pw_and (pt_cmpR op_gt (pv 4) pe_int (nomark _)) (pw_and1 (pt_not (pt_val (C8.pe_c c_law_tried hr (by omega) (by rfl) (pa_cons (pv 0) (pa_cons (pv 8) (pa_cons (pv 2) (pa_cons (pv 3) (pa_cons (pe_op op_sub (pv 4) pe_int) pa_nil))))))))))) (pss_one (ps_ret pe_bl)) pss_nil))) (pss_one (ps_expr (C8.pe_c c_law_do hr (by omega) (by rfl) (pa_cons (pv 0) (pa_cons (pe_op op_add (pv 1) (pv 6)) (pa_cons (pv 2) (pa_cons (pv 3) pa_nil)))))))))))))
    (pss_one (ps_ret (C8.pe_c c_law_other_right hr (by omega) (by rfl) (pa_cons (pv 3) pa_nil))))), ?_⟩)
  · obtain ⟨ns, at_, p, h, dx, st, past, fl, vS, vP, rfl, _⟩ := h
    rfl
  · rintro vs Q ⟨ns, at_, p, h, dx, st, past, fl, vS, vP, rfl, rS, rP, ok, I, hfl, hl, tb, q⟩
    have R : RepE K a.FC H [some (.lst (ns.map di)), some (di at_), some (plainD p), some (.at (.ref h)), some (di (d : Int)), some (di (fl : Int)), none, none, none] (start ["script", "at", "plain", "house", "deep", "floor", "turn", "word", "spot"] [vS, .int at_, vP, .ref h, .int (d : Int), .int (fl : Int)]) := RepE.start (N := ["script", "at", "plain", "house", "deep", "floor", "turn", "word", "spot"]) (ds := [.lst (ns.map di), di at_, plainD p, .at (.ref h), di (d : Int), di (fl : Int)]) (.cons rS (.cons (.at _) (.cons rP (.cons (.at _) (.cons (.at _) (.cons (.at _) .nil))))))
    refine st_seq (st_forZ (K := K) (FC := a.FC) (evz_range (n := 6) (ea_cons (ev_c (v := .int 6)) ea_nil) (by decide)) fun H2 e2 => ⟨fun i σ' H' => ∃ st' past', HsI K a p.norm h dx st' past' fl H' ∧ fl ≤ past'.length ∧ past'.length ≤ past.length + i ∧ KeepX [h] H2 H' ∧ Tabs TT H' ∧ RepE K a.FC H' [some (.lst (ns.map di)), some (di at_), some (plainD p), some (.at (.ref h)), some (di (d : Int)), some (di (fl : Int)), none, none, none] σ',
      ⟨st, past, I.same e2, hfl, Nat.le_refl _, KeepX.refl, tabs_same tb e2, R.mono e2⟩, fun i σ' H' ⟨_, _, _, _, _, kp, _⟩ => kp.frz ((I.same e2).mut T), ?_, ?_⟩)
    · rintro i dv x σ' H' H'' hd ⟨st', past', I', f1, f2, kp, tb', R'⟩ e' rx
      rw [List.getElem?_map] at hd
      obtain ⟨i', hi', rfl⟩ := Option.map_eq_some_iff.mp hd
      have li : i < 6 := by
        have := (List.getElem?_eq_some_iff.mp hi').1
        rwa [List.length_range] at this
      rw [List.getElem?_range li] at hi'
      cases hi'
      have I3 := I'.same e'
      have k3 := kp.trans (KeepX.of e')
      have t3 := tabs_same tb' e'
      have R3 : RepE K a.FC H'' [some (.lst (ns.map di)), some (di at_), some (plainD p), some (.at (.ref h)), some (di (d : Int)), some (di (fl : Int)), some (di (i : Int)), none, none] (σ'.set 6 (some x)) := (R'.mono e').set (i := 6) rx
      obtain ⟨σ3, hσ3⟩ : ∃ σ3 : L2.St, σ3 = σ'.set 6 (some x) := ⟨_, rfl⟩
      show tSeq _ _ _ (σ'.set 6 (some x)) H''
      rw [← hσ3] at R3 ⊢
      refine st_setS R3 (ev_mod (ev_int (ev_num (ev_var R3 (n := 0) rfl) (ev_add (ev_add (ev_var R3 (n := 1) rfl) (ev_c (v := .int 20))) (ev_var R3 (n := 6) rfl)))) (ev_c (v := .int 5)) (by decide)) fun v4 H4 e4 r4 R4 => ?_
      obtain ⟨wd, hwd⟩ : ∃ wd : Int, lawNum ns (at_ + 20 + (i : Int)) % 5 = wd := ⟨_, rfl⟩
      rw [hwd] at R4
      have R4 : RepE K a.FC H4 [some (.lst (ns.map di)), some (di at_), some (plainD p), some (.at (.ref h)), some (di (d : Int)), some (di (fl : Int)), some (di (i : Int)), some (di wd), none] _ := R4
      obtain ⟨σ4, hσ4⟩ : ∃ σ4 : L2.St, σ4 = σ3.set 7 (some v4) := ⟨_, rfl⟩
      rw [← hσ4] at R4 ⊢
      have I4 := I3.same e4
      have k4 := k3.trans (KeepX.of e4)
      have t4 := tabs_same t3 e4
      by_cases h0 : wd = 0
      · refine st_yes ((et_test (ev_eq (ev_var R4 (n := 7) rfl) (ev_c (v := .int 0)) rfl)).to (decide_eq_true (by rw [h0]))) fun H5 e5 => ?_
        have R5 := R4.mono e5
        have I5 := I4.same e5
        show tCall (spUR K a TT) [] C8.E0 (tCons (tVar 3) (tCons (tVar 5) tNil)) σ4 H5 _
        refine (ea_cons (ev_var R5 (n := 3) rfl) (ea_cons (ev_var R5 (n := 5) rfl) ea_nil) : EvA K a.FC _ σ4 H5 [.at (.ref h), .at (.int (fl : Int))]).go fun vs6 H6 e6 r6 => ?_
        have ev6 := args2 r6
        subst ev6
        have e56 := e5.trans e6
        have k6 := k4.trans (KeepX.of e56)
        refine ⟨p.norm, h, dx, st', past', fl, rfl, I5.same e6, f1, by omega, tabs_same t4 e56, fun el H7 e7 => ⟨true, rfl, ?_⟩, fun hlt past7 e7 H7 ep I7 k7 t7 => ⟨true, rfl, ?_⟩⟩
        · have e47 := e56.trans e7
          exact ⟨st', past', I4.same e47, f1, by omega, k4.trans (KeepX.of e47), tabs_same t4 e47, (((R4.mono e47).drop0 6).drop0 7)⟩
        · have l7 : past7.length + 1 = past'.length := by rw [ep, List.length_append]; rfl
          have k47 : KeepX [h] H4 H7 := (KeepX.of e56).trans k7
          exact ⟨e7.st, past7, I7, by omega, by omega, k4.trans k47, t7, (((R4.rk (I4.rk T k47)).drop0 6).drop0 7)⟩
      · refine st_no ((et_test (ev_eq (ev_var R4 (n := 7) rfl) (ev_c (v := .int 0)) rfl)).to (decide_eq_false fun z => h0 (V.int.inj z))) fun H5 e5 => ?_
        have R5 := R4.mono e5
        have I5 := I4.same e5
        have k5 := k4.trans (KeepX.of e5)
        have t5 := tabs_same t4 e5
        by_cases h1 : wd = 1
        · refine st_yes ((et_test (ev_eq (ev_var R5 (n := 7) rfl) (ev_c (v := .int 1)) rfl)).to (decide_eq_true (by rw [h1]))) fun H6 e6 => ?_
          have R6 := R5.mono e6
          refine st_setS R6 (ev_add (ev_add (ev_mul (ev_c (v := .int 2)) (ev_var R6 (n := 1) rfl) (.inl ⟨by decide, by decide⟩)) (ev_c (v := .int 37))) (ev_var R6 (n := 6) rfl)) fun v7 H7 e7 r7 R7 => ?_
          obtain ⟨sp, hsp⟩ : ∃ sp : Int, 2 * at_ + 37 + (i : Int) = sp := ⟨_, rfl⟩
          rw [hsp] at R7
          have R7 : RepE K a.FC H7 [some (.lst (ns.map di)), some (di at_), some (plainD p), some (.at (.ref h)), some (di (d : Int)), some (di (fl : Int)), some (di (i : Int)), some (di wd), some (di sp)] _ := R7
          obtain ⟨σ7, hσ7⟩ : ∃ σ7 : L2.St, σ7 = σ4.set 8 (some v7) := ⟨_, rfl⟩
          rw [← hσ7] at R7 ⊢
          have e57 := e6.trans e7
          have I7 := I5.same e57
          have k7 := k5.trans (KeepX.of e57)
          have t7 := tabs_same t5 e57
          have fin : ∀ {H8 : Hp}, Same H7 H8 → ∃ st' past', HsI K a p.norm h dx st' past' fl H8 ∧ fl ≤ past'.length ∧ past'.length ≤ past.length + (i + 1) ∧ KeepX [h] H2 H8 ∧ Tabs TT H8 ∧ RepE K a.FC H8 [some (.lst (ns.map di)), some (di at_), some (plainD p), some (.at (.ref h)), some (di (d : Int)), some (di (fl : Int)), none, none, none] σ7 := fun {H8} e8 =>
            ⟨st', past', I7.same e8, f1, by omega, k7.trans (KeepX.of e8), tabs_same t7 e8, ((((R7.mono e8).drop0 6).drop0 7).drop0 8)⟩
          have hg := et_test (ev_gt (ev_var R7 (n := 4) rfl) (ev_c (FC := a.FC) (K := K) (v := .int 0)))
          refine hg.go fun H8 e8 => ?_
          cases d with
          | zero =>
            rw [if_neg (by decide)]
            exact fin e8
          | succ d' =>
            rw [if_pos (decide_eq_true (show (0 : Int) < ((d' + 1 : Nat) : Int) by omega))]
            have R8 := R7.mono e8
            show tCall (spLess K a TT (d' + 1)) [] C8.E0 (tCons (tVar 0) (tCons (tVar 8) (tCons (tVar 2) (tCons (tVar 3) (tCons (tOp _ (tVar 4) (tC (.int 1))) tNil))))) σ7 H8 _
            refine (ea_cons (ev_var R8 (n := 0) rfl) (ea_cons (ev_var R8 (n := 8) rfl) (ea_cons (ev_var R8 (n := 2) rfl) (ea_cons (ev_var R8 (n := 3) rfl) (ea_cons ((ev_sub (ev_var R8 (n := 4) rfl) (ev_c (v := .int 1))).to (d' := di (d' : Int)) (congrArg di (by omega))) ea_nil)))) : EvA K a.FC _ σ7 H8 [.lst (ns.map di), di sp, plainD p, .at (.ref h), di (d' : Int)]).go fun vs9 H9 e9 r9 => ?_
            obtain ⟨wS, wP, rfl, qS, qP⟩ : ∃ wS wP, vs9 = [wS, .int sp, wP, .ref h, .int (d' : Int)] ∧ Rep K a.FC H9 (.lst (ns.map di)) wS ∧ Rep K a.FC H9 (plainD p) wP := by
              cases r9 with
              | cons z1 rr => cases rr with
                | cons z2 rr => cases rr with
                  | cons z3 rr => cases rr with
                    | cons z4 rr => cases rr with
                      | cons z5 rr =>
                        cases rr
                        cases z2.at_inv
                        cases z4.at_inv
                        cases z5.at_inv
                        exact ⟨_, _, rfl, z1, z3⟩
            have e79 := e8.trans e9
            have I9 := I7.same e79
            refine ⟨d', rfl, ns, sp, p, h, dx, st', past', fl, wS, wP, rfl, qS, qP, ok, I9, by omega, tabs_same t7 e79, fun H10 I10 k10 t10 => ⟨true, rfl, ?_⟩⟩
            have k710 : KeepX [h] H7 H10 := (KeepX.of e79).trans k10
            exact ⟨st', past', I10, f1, by omega, k7.trans k710, t10, ((((R7.rk (I7.rk T k710)).drop0 6).drop0 7).drop0 8)⟩
        · refine st_no ((et_test (ev_eq (ev_var R5 (n := 7) rfl) (ev_c (v := .int 1)) rfl)).to (decide_eq_false fun z => h1 (V.int.inj z))) fun H6 e6 => ?_
          have R6 := R5.mono e6
          have I6 := I5.same e6
          show tCall (spDo K a TT) [] C8.E0 (tCons (tVar 0) (tCons (tOp _ (tVar 1) (tVar 6)) (tCons (tVar 2) (tCons (tVar 3) tNil)))) σ4 H6 _
          refine (ea_cons (ev_var R6 (n := 0) rfl) (ea_cons (ev_add (ev_var R6 (n := 1) rfl) (ev_var R6 (n := 6) rfl)) (ea_cons (ev_var R6 (n := 2) rfl) (ea_cons (ev_var R6 (n := 3) rfl) ea_nil))) : EvA K a.FC _ σ4 H6 [.lst (ns.map di), di (at_ + (i : Int)), plainD p, .at (.ref h)]).go fun vs7 H7 e7 r7 => ?_
          obtain ⟨wS, wP, rfl, qS, qP⟩ : ∃ wS wP, vs7 = [wS, .int (at_ + (i : Int)), wP, .ref h] ∧ Rep K a.FC H7 (.lst (ns.map di)) wS ∧ Rep K a.FC H7 (plainD p) wP := by
            cases r7 with
            | cons z1 rr => cases rr with
              | cons z2 rr => cases rr with
                | cons z3 rr => cases rr with
                  | cons z4 rr =>
                    cases rr
                    cases z2.at_inv
                    cases z4.at_inv
                    exact ⟨_, _, rfl, z1, z3⟩
          have e57 := e6.trans e7
          have I7 := I5.same e57
          refine ⟨ns, _, p, h, dx, st', past', fl, wS, wP, rfl, qS, qP, ok, I7, by omega, tabs_same t5 e57, fun H8 ⟨⟨st8, x8, I8⟩, k8, t8⟩ => ?_⟩
          have k58 : KeepX [h] H5 H8 := (KeepX.of e57).trans k8
          exact ⟨st8, past' ++ [x8], I8, by rw [List.length_append]; omega, by rw [List.length_append]; show past'.length + 1 ≤ _; omega, k5.trans k58, t8, ((R5.rk (I5.rk T k58)).drop0 6).drop0 7⟩
    · rw [List.length_map, List.length_range]
      rintro σ3 H3 ⟨st', past', I3, f1, f2, kp, t3, R3⟩
      show tCall (spOR K a TT) [] C8.E0 (tCons (tVar 3) tNil) σ3 H3 _
      refine (ea_cons (ev_var R3 (n := 3) rfl) ea_nil : EvA K a.FC _ σ3 H3 [.at (.ref h)]).go fun vs4 H4 e4 r4 => ?_
      have ev4 := args1 r4
      subst ev4
      refine ⟨p.norm, h, dx, st', past', fl, rfl, I3.same e4, by omega, tabs_same t3 e4, fun H5 k5 t5 => ?_⟩
      have I5 := (I3.same e4).off k5 (k5.frz fun _ z => nomatch z) fun z => nomatch z
      exact q st' past' H5 I5 f1 f2 (((KeepX.of e2).trans kp).trans ((KeepX.of e4).trans (k5.mono fun _ z => nomatch z))) t5
end
end T34

/-! Kd27 -/
set_option maxHeartbeats 4000000
namespace T34
open PySem PySem.Spec PyProof.Rows L2
local macro_rules | `(tactic| walk_at "ev") => `(tactic| (first
  | (with_reducible exact ev_c)
  | ((with_reducible refine' ev_var ?R ?h); (case R => assumption); (case h => rfl))
  | (with_reducible refine' ea_cons ?_ ?_)
  | (with_reducible exact ea_nil)
  | (with_reducible refine' ev_add ?_ ?_)
  | (with_reducible refine' ev_sub ?_ ?_)
  | (with_reducible refine' ev_mul ?_ ?_ ?_)
  | (with_reducible refine' ev_mod ?_ ?_ ?_)
  | (with_reducible refine' ev_div ?_ ?_ ?_)
  | (with_reducible refine' ev_lt ?_ ?_)
  | (with_reducible refine' ev_le ?_ ?_)
  | (with_reducible refine' ev_gt ?_ ?_)
  | (with_reducible refine' ev_ge ?_ ?_)
  | (with_reducible refine' ev_int ?_)
  | (with_reducible refine' ev_not ?_)
  | (with_reducible refine' ev_tup ?_)
  | (with_reducible refine' ev_between ?_ ?_ ?_)
  | (with_reducible refine' et_test ?_)
  | (with_reducible refine' et_B ?_)
  | (with_reducible refine' et_not ?_)))
section
variable {P : Program} {w : World} {K : PySem.W.Frag} {mg : Str → Option Value} {base : Heap} {a : Ad} {TT : List (Addr × Str)} {f : Addr} {fd : FuncData}
open LamX (Tabs)
/-! ### _law_within -/
/-- what stands behind the work in a trial -/
structure Aft (K : PySem.W.Frag) (a : Ad) (TT : List (Addr × Str)) (pl : Pl) (h dx hd : Addr) (fl : Nat) (H H' : Hp) : Prop where
  ex : ∃ st past, HsI K a pl h dx st past fl H'
  kp : KeepX [h, hd] H H'
  hl : H' hd = some (.lst [.bl true])
  tb : Tabs TT H'
def spWithin (K : PySem.W.Frag) (a : Ad) (TT : List (Addr × Str)) (CN : Addr) (d : Nat) : Sp := fun vs H Q E => ∃ (ns : List Int) (at_ : Int) (p : Pl) (h dx : Addr) (st : Sto) (past : List Ent) (fl : Nat) (vS vP : V) (tr hd : Addr), vs = [vS, .int at_, vP, .ref tr, .ref h] ∧ (∀ H', KeepX [h, hd] H H' → Rep K a.FC H' (.lst (ns.map di)) vS) ∧ Rep K a.FC H (plainD p) vP ∧ p.ok ∧
  SqT K H tr [.ref h, .int (d : Int), .int (fl : Int), .ref hd] ∧ H hd = some (.lst []) ∧ HsI K a p.norm h dx st past fl H ∧ past.length = fl ∧ fl + 6 * (d + 1) ≤ 24 ∧ Tabs TT H ∧
  (∀ v H', Aft K a TT p.norm h dx hd fl H H' → lawNum ns (at_ + 9) % 3 = 2 → Rep K a.FC H' (.tup [dz "fine", di at_]) v → Q v H') ∧ ∀ cls dd H', Aft K a TT p.norm h dx hd fl H H' → ((lawNum ns (at_ + 9) % 3 = 0 ∧ cls = .type "KeyError") ∨ (lawNum ns (at_ + 9) % 3 = 1 ∧ cls = .ref CN)) → E cls dd H'
abbrev s_law_within : Stmt := top 62
theorem sc_law_within : FnScope ["script", "at", "plain", "rest", "inner", "house", "deep", "floor", "held"] ["script", "at", "plain", "rest", "inner"] (defScope s_law_within) := ⟨rfl, rfl, rfl, by decide +kernel, rfl, by decide +kernel, by decide +kernel⟩
theorem ok_law_within {d kT : Nat} {CN : Addr} (F : FnP K "_law_within" "_law_within" s_law_within f fd) (T : Tx K w mg a) (L : Looks P w K mg base a) (N : ExN K mg CN) (c_law_number : C8.Cal P w K mg base 1 "_law_number" (spN K a.FC rNum) []) (c_law_work : C8.Cal P w K mg base (kT + 1) "_law_work" (spWork K a TT d) [])
    (m_undo : MetN P w K mg base 2 a.CH "undo" (spUndo K a CN TT)) (h1 : 2 ≤ kT) : FnOk P w K mg base (L2N.CX P w) (kT + 2) f fd ["script", "at", "plain", "rest", "inner"] (spWithin K a TT CN d) := by
  have c_hlen := L.c_hlen
  refine fnG F sc_law_within (fun vs H Q E h => ?_) (fun cdv Ar outer s H E hr => ⟨_, (pss_cons (ps_asg (pv 3) (pg_tupK (K := K) (n := 4) (by rfl) (pgs_cons (pg_name (i := 5) sc_law_within.nd (by rfl) (.inl (by rfl)) (by first | exact .inl rfl | exact .inr rfl)) (pgs_cons (pg_name (i := 6) sc_law_within.nd (by rfl) (.inl (by rfl)) (by first | exact .inl rfl | exact .inr rfl)) (pgs_cons (pg_name (i := 7) sc_law_within.nd (by rfl) (.inl (by rfl)) (by first | exact .inl rfl | exact .inr rfl)) (pgs_cons (pg_name (i := 8) sc_law_within.nd (by rfl) (.inl (by rfl)) (by first | exact .inl rfl | exact .inr rfl)) pgs_nil))))))
    (pss_cons (ps_expr (pe_bm PySem.F.plainAttrs_list PySem.F.slot_list_append PySem.F.type_list_append mt_append (pv 8) (pa_cons (C8.pe_c c_law_work hr (by omega) (by rfl) (pa_cons (pv 0) (pa_cons (pv 1) (pa_cons (pv 2) (pa_cons (pv 4) (pa_cons (pv 6) (pa_cons (pv 7) pa_nil))))))) pa_nil)))
    (pss_cons (ps_if (pt_cmpR op_eq (pe_op op_mod (pe_callTy call_int1 (by rfl) T.f_int (by decide +kernel) (pa_cons (C8.pe_c c_law_number hr (by omega) (by rfl) (pa_cons (pv 0) (pa_cons (pe_op op_add (pv 1) pe_int) pa_nil))) pa_nil)) pe_int) pe_int (nomark _)) (pss_one (L2N.ps_raise rfl takesN (pmk_keyN PyProof.Rows.excClass_KeyError (by rfl) T.f_KeyError))) pss_nil)
    (pss_cons (ps_if (pt_cmpR op_eq (pe_op op_mod (pe_callTy call_int1 (by rfl) T.f_int (by decide +kernel) (pa_cons (C8.pe_c c_law_number hr (by omega) (by rfl) (pa_cons (pv 0) (pa_cons (pe_op op_add (pv 1) pe_int) pa_nil))) pa_nil)) pe_int) pe_int (nomark _)) (pss_cons (ps_while (L2.passes_of rfl) (pt_cmpR op_gt (pe_callB (call_lenO c_hlen hr (by omega)) (by rfl) T.f_len (by decide +kernel) (pa_cons (pv 4) pa_nil)) (pv 7) (nomark _)) (pss_one (ps_expr (pe_methE m_undo hr (by omega) (fun σ => L2N.passAt takesN σ) (pv 4)))))
    (pss_one (ps_expr (pe_methE m_undo hr (by omega) (fun σ => L2N.passAt takesN σ) (pv 5))))) pss_nil)
    (pss_one (ps_ret (pe_tup (pa_cons pe_str (pa_cons (pv 1) pa_nil))))))))), ?_⟩)
  · obtain ⟨ns, at_, p, h, dx, st, past, fl, vS, vP, tr, hd, rfl, _⟩ := h
    rfl
  · rintro vs Q ⟨ns, at_, p, h, dx, st, past, fl, vS, vP, tr, hd, rfl, rS, rP, ok, hT, hH, I, epl, hl, tb, q1, q2⟩
    have R : RepE K a.FC H [some (.at vS), some (di at_), some (plainD p), some (.at (.ref tr)), some (.at (.ref h)), none, none, none, none] (start ["script", "at", "plain", "rest", "inner", "house", "deep", "floor", "held"] [vS, .int at_, vP, .ref tr, .ref h]) := RepE.start (N := ["script", "at", "plain", "rest", "inner", "house", "deep", "floor", "held"]) (ds := [.at vS, di at_, plainD p, .at (.ref tr), .at (.ref h)]) (.cons (.at _) (.cons (.at _) (.cons rP (.cons (.at _) (.cons (.at _) .nil)))))
    have evS : ∀ {H' : Hp} {σ' : L2.St} {ρ' : SD}, KeepX [h, hd] H H' → RepE K a.FC H' ρ' σ' → ρ'[0]? = some (some (.at vS)) → EvD K a.FC (tVar 0) σ' H' (.lst (ns.map di)) := fun {H' σ' ρ'} k R h0 H1 e Q q => by
      obtain ⟨v, hv, rv⟩ := R.get 0 _ h0
      have ev := rv.at_inv
      subst ev
      exact ⟨_, hv, q _ H1 (Same.refl H1) (rS H1 (k.trans (KeepX.of e)))⟩
    refine st_asg ?_
    refine ⟨.ref tr, R.ref (i := 3) rfl, tr, _, rfl, hT, rfl, _, _, rfl, _, _, rfl, _, _, rfl, _, _, rfl, rfl, ?_⟩
    have R1 : RepE K a.FC H [some (.at vS), some (di at_), some (plainD p), some (.at (.ref tr)), some (.at (.ref h)), some (.at (.ref h)), some (di (d : Int)), some (di (fl : Int)), some (.at (.ref hd))] (((((start ["script", "at", "plain", "rest", "inner", "house", "deep", "floor", "held"] [vS, .int at_, vP, .ref tr, .ref h]).set 5 (some (.ref h))).set 6 (some (.int (d : Int)))).set 7 (some (.int (fl : Int)))).set 8 (some (.ref hd))) :=
      (((R.set (i := 5) (d := .at (.ref h)) (.at _)).set (i := 6) (d := di (d : Int)) (.at _)).set (i := 7) (d := di (fl : Int)) (.at _)).set (i := 8) (d := .at (.ref hd)) (.at _)
    obtain ⟨σ1, hσ1⟩ : ∃ σ1 : L2.St, σ1 = (((((start ["script", "at", "plain", "rest", "inner", "house", "deep", "floor", "held"] [vS, .int at_, vP, .ref tr, .ref h]).set 5 (some (.ref h))).set 6 (some (.int (d : Int)))).set 7 (some (.int (fl : Int)))).set 8 (some (.ref hd))) := ⟨_, rfl⟩
    dsimp only
    rw [← hσ1] at R1 ⊢
    have hne : hd ≠ h := fun z => by
      obtain ⟨_, _, _, g, _⟩ := I.ex
      rw [z, g] at hH
      cases hH
    -- the work
    refine st_seq ⟨.ref hd, R1.ref (i := 8) rfl, .inl ⟨rfl, _, .inl (.inl hH)⟩, ?_⟩
    show tCall (spWork K a TT d) [] C8.E0 (tCons (tVar 0) (tCons (tVar 1) (tCons (tVar 2) (tCons (tVar 4) (tCons (tVar 6) (tCons (tVar 7) tNil)))))) σ1 H _
    refine (ea_cons (evS KeepX.refl R1 rfl) (ea_cons (ev_var R1 (n := 1) rfl) (ea_cons (ev_var R1 (n := 2) rfl) (ea_cons (ev_var R1 (n := 4) rfl) (ea_cons (ev_var R1 (n := 6) rfl) (ea_cons (ev_var R1 (n := 7) rfl) ea_nil))))) : EvA K a.FC _ σ1 H [.lst (ns.map di), di at_, plainD p, .at (.ref h), di (d : Int), di (fl : Int)]).go fun vs2 H2 e2 r2 => ?_
    obtain ⟨wS, wP, rfl, qS, qP⟩ : ∃ wS wP, vs2 = [wS, .int at_, wP, .ref h, .int (d : Int), .int (fl : Int)] ∧ Rep K a.FC H2 (.lst (ns.map di)) wS ∧ Rep K a.FC H2 (plainD p) wP := by
      cases r2 with
      | cons z1 rr => cases rr with
        | cons z2 rr => cases rr with
          | cons z3 rr => cases rr with
            | cons z4 rr => cases rr with
              | cons z5 rr => cases rr with
                | cons z6 rr =>
                  cases rr
                  cases z2.at_inv
                  cases z4.at_inv
                  cases z5.at_inv
                  cases z6.at_inv
                  exact ⟨_, _, rfl, z1, z3⟩
    have I2 := I.same e2
    refine ⟨ns, at_, p, h, dx, st, past, fl, wS, wP, rfl, qS, qP, ok, I2, by omega, by omega, tabs_same tb e2, fun st3 past3 H3 I3 f3 g3 k3 t3 => ?_⟩
    have hH3 : H3 hd = some (.lst []) := k3 _ _ (e2 _ _ hH) (by simp; exact hne) fun _ z => by cases z
    refine ⟨hd, [], .bl true, rfl, rfl, hH3, by decide +kernel, ?_⟩
    obtain ⟨H4, h4⟩ : ∃ H4, H4 = upd H3 hd (.lst [.bl true]) := ⟨_, rfl⟩
    dsimp only [List.nil_append]
    rw [← h4]
    have k34 : KeepX [hd] H3 H4 := by rw [h4]; exact KeepX.upd (by simp)
    have z34 : Frz a.FC H3 H4 := by rw [h4]; exact Frz.upd_lst hH3
    have I4 := I3.off k34 z34 (by simp; exact fun z => hne z.symm)
    have t4 : Tabs TT H4 := by rw [h4]; exact tabs_upd (FC := a.FC) t3 (.inl ⟨_, hH3⟩)
    have k04 : KeepX [h, hd] H H4 := (((KeepX.of e2).trans (k3.mono fun x hx => by rw [List.mem_singleton.mp hx]; simp)).trans (k34.mono fun x hx => by rw [List.mem_singleton.mp hx]; simp))
    have hH4 : H4 hd = some (.lst [.bl true]) := by rw [h4]; exact upd_same
    have nol : ∀ d', some d' ∈ ([some (.at vS), some (di at_), some (plainD p), some (.at (.ref tr)), some (.at (.ref h)), some (.at (.ref h)), some (di (d : Int)), some (di (fl : Int)), some (.at (.ref hd))] : SD) → NoL d' := fun d' hd' => by
      simp at hd'
      rcases hd' with rfl | rfl | rfl | rfl | rfl | rfl | rfl | rfl
      · exact .at _
      · exact .at _
      · exact plainD_noL p
      · exact .at _
      · exact .at _
      · exact .at _
      · exact .at _
      · exact .at _
    have mut0 : ∀ x ∈ [h, hd], MutO a.FC H x := fun x hx => by
      rcases List.mem_cons.mp hx with rfl | hx
      · exact I.mut T _ (by simp)
      · rw [List.mem_singleton.mp hx]
        exact .inl ⟨_, hH⟩
    have R4 : RepE K a.FC H4 [some (.at vS), some (di at_), some (plainD p), some (.at (.ref tr)), some (.at (.ref h)), some (.at (.ref h)), some (di (d : Int)), some (di (fl : Int)), some (.at (.ref hd))] σ1 := R1.frz (k04.frz mut0) nol
    have l3 : past3.length ≤ 24 := by omega
    obtain ⟨r, hr0⟩ : ∃ r : Int, lawNum ns (at_ + 9) % 3 = r := ⟨_, rfl⟩
    have rb : 0 ≤ r ∧ r < 3 := by
      rw [← hr0]
      exact ⟨Int.emod_nonneg _ (by decide), Int.emod_lt_of_pos _ (by decide)⟩
    rw [hr0] at q1 q2
    have evN : ∀ {H' : Hp} {z : Int}, Same H4 H' → EvT (tTest (tOp rEq (tOp (rI (fun _ j => 0 < j) fun i j => .int (i % j)) (tCB (fun xs H Q => (∃ i, xs = [.int i] ∧ Q (.int i) H) ∨ ∃ k, xs = [.bl k] ∧ Q (.int (if k then 1 else 0)) H) (tCons (tCall (spN K a.FC rNum) [] C8.E0 (tCons (tVar 0) (tCons (tOp (rI0 fun i j => .int (i + j)) (tVar 1) (tC (.int 9))) tNil))) tNil)) (tC (.int 3))) (tC (.int z)))) σ1 H' (decide (V.int r = V.int z)) := fun {H' z} e => by
      rw [← hr0]
      exact et_test (ev_eq (ev_mod (ev_int (ev_num (evS (k04.trans (KeepX.of e)) (R4.mono e) rfl) (ev_add (ev_var (R4.mono e) (n := 1) rfl) (ev_c (v := .int 9))))) (ev_c (v := .int 3)) (by decide)) (ev_c (v := .int z)) rfl)
    have aft : ∀ {H' : Hp}, Same H4 H' → Aft K a TT p.norm h dx hd fl H H' := fun {H'} e => ⟨⟨st3, past3, I4.same e⟩, k04.trans (KeepX.of e), e _ _ hH4, tabs_same t4 e⟩
    by_cases c0 : r = 0
    · refine st_seq (st_yes ((evN (Same.refl _)).to (decide_eq_true (by rw [c0]))) fun H5 e5 => ?_)
      exact fun dd => q2 _ dd H5 (aft e5) (.inl ⟨c0, rfl⟩)
    · refine st_skipS ((evN (Same.refl _)).to (decide_eq_false fun z => c0 (V.int.inj z))) fun H5 e5 => ?_
      by_cases c1 : r = 1
      · refine st_seq (st_yes ((evN e5).to (decide_eq_true (by rw [c1]))) fun H6 e6 => ?_)
        have e46 := e5.trans e6
        refine st_seq ?_
        refine ⟨fun m σ' H' => ∃ st' past', m = past'.length ∧ HsI K a p.norm h dx st' past' fl H' ∧ fl ≤ past'.length ∧ past'.length ≤ 24 ∧ KeepX [h, hd] H H' ∧ H' hd = some (.lst [.bl true]) ∧ Tabs TT H' ∧ RepE K a.FC H' [some (.at vS), some (di at_), some (plainD p), some (.at (.ref tr)), some (.at (.ref h)), some (.at (.ref h)), some (di (d : Int)), some (di (fl : Int)), some (.at (.ref hd))] σ',
          ⟨_, st3, past3, rfl, I4.same e46, f3, l3, k04.trans (KeepX.of e46), e46 _ _ hH4, tabs_same t4 e46, R4.mono e46⟩, ?_⟩
        rintro m σ' H7 ⟨st', past', rfl, I7, f7, l7, k7, h7, t7, R7⟩
        refine (et_test (ev_gt (ev_lenH I7 l7 R7 (n := 4) rfl) (ev_var R7 (n := 7) rfl))).go fun H8 e8 => ?_
        have I8 := I7.same e8
        have R8 := R7.mono e8
        have k8 := k7.trans (KeepX.of e8)
        have h8 := e8 _ _ h7
        have t8 := tabs_same t7 e8
        obtain ⟨_, _, _, g8, _⟩ := I8.ex
        by_cases hp : fl < past'.length
        · rw [decide_eq_true (show (fl : Int) < (past'.length : Int) by omega), if_pos rfl]
          refine ⟨fun σ9 H9 => ∃ st9 past9, past9.length < past'.length ∧ HsI K a p.norm h dx st9 past9 fl H9 ∧ fl ≤ past9.length ∧ past9.length ≤ 24 ∧ KeepX [h, hd] H H9 ∧ H9 hd = some (.lst [.bl true]) ∧ Tabs TT H9 ∧ RepE K a.FC H9 [some (.at vS), some (di at_), some (plainD p), some (.at (.ref tr)), some (.at (.ref h)), some (.at (.ref h)), some (di (d : Int)), some (di (fl : Int)), some (.at (.ref hd))] σ9,
            fun σ9 H9 ⟨st9, past9, l9, I9, f9, g9, k9, hh9, t9, R9⟩ => ⟨_, l9, st9, past9, rfl, I9, f9, g9, k9, hh9, t9, R9⟩, ?_⟩
          refine ⟨.ref h, R8.ref (i := 4) rfl, h, dx, _, rfl, g8, rfl, p.norm, h, dx, st', past', fl, rfl, I8, l7, t8, fun z => absurd z (by omega), fun _ past9 e9 v9 H9 ep I9 k9 z9 t9 r9 => ?_⟩
          have l9 : past9.length + 1 = past'.length := by rw [ep, List.length_append]; rfl
          exact ⟨e9.st, past9, by omega, I9, by omega, by omega, k8.trans (k9.mono fun x hx => by rw [List.mem_singleton.mp hx]; simp), k9 _ _ h8 (by simp; exact hne) (fun _ z => by cases z), t9, R8.rk (I8.rk T k9)⟩
        · rw [decide_eq_false (show ¬ (fl : Int) < (past'.length : Int) by omega), if_neg Bool.false_ne_true]
          refine ⟨.ref h, R8.ref (i := 5) rfl, h, dx, _, rfl, g8, rfl, p.norm, h, dx, st', past', fl, rfl, I8, l7, t8, fun _ H9 e9 => q2 _ none H9 ⟨⟨st', past', I8.same e9⟩, k8.trans (KeepX.of e9), e9 _ _ h8, tabs_same t8 e9⟩ (.inr ⟨c1, rfl⟩), fun z => absurd z (by omega)⟩
      · refine st_skipS ((evN e5).to (decide_eq_false fun z => c1 (V.int.inj z))) fun H6 e6 => ?_
        have e46 := e5.trans e6
        have R6 := R4.mono e46
        exact st_ret (ev_tup (ea_cons (ev_c (v := .str "fine")) (ea_cons (ev_var R6 (n := 1) rfl) ea_nil)) (by show 2 ≤ sizeLine; decide)) fun v7 H7 e7 r7 => q1 v7 H7 (aft (e46.trans e7)) (by omega) r7
end
end T34

/-! Kd28 -/
set_option maxHeartbeats 4000000
namespace T34
open PySem PySem.Spec PyProof.Rows L2
local macro_rules | `(tactic| walk_at "ev") => `(tactic| (first
  | (with_reducible exact ev_c)
  | ((with_reducible refine' ev_var ?R ?h); (case R => assumption); (case h => rfl))
  | (with_reducible refine' ea_cons ?_ ?_)
  | (with_reducible exact ea_nil)
  | (with_reducible refine' ev_add ?_ ?_)
  | (with_reducible refine' ev_sub ?_ ?_)
  | (with_reducible refine' ev_mul ?_ ?_ ?_)
  | (with_reducible refine' ev_mod ?_ ?_ ?_)
  | (with_reducible refine' ev_div ?_ ?_ ?_)
  | (with_reducible refine' ev_lt ?_ ?_)
  | (with_reducible refine' ev_le ?_ ?_)
  | (with_reducible refine' ev_gt ?_ ?_)
  | (with_reducible refine' ev_ge ?_ ?_)
  | (with_reducible refine' ev_int ?_)
  | (with_reducible refine' ev_not ?_)
  | (with_reducible refine' ev_tup ?_)
  | (with_reducible refine' ev_between ?_ ?_ ?_)
  | (with_reducible refine' et_test ?_)
  | (with_reducible refine' et_B ?_)
  | (with_reducible refine' et_not ?_)))
section
variable {P : Program} {w : World} {K : PySem.W.Frag} {mg : Str → Option Value} {base : Heap} {a : Ad} {TT : List (Addr × Str)} {f : Addr} {fd : FuncData}
open LamX (Tabs)
/-! ### what was told is untold again -/
section
variable {FC : Addr → Prop} {cs : Cs} {H H' : Hp}
theorem less_keep (t : Told cs H) {b : Addr} {u : HO} (e : H b = some u) (n : ∀ o, u ≠ pinH o) : lessC cs H b = some u := by rw [less_out (told_not t e n)]; exact e
theorem SqT.less (t : Told cs H) {p : Addr} {xs : List V} (h : SqT K H p xs) : SqT K (lessC cs H) p xs := by
  rcases h with (h | ⟨o, h⟩) | h
  · exact .inl (.inl (less_keep t h fun o z => by cases z))
  · exact .inl (.inr ⟨o, less_keep t h fun o z => by cases z⟩)
  · exact .inr h
theorem SqL.less (t : Told cs H) {p : Addr} {xs : List V} (h : SqL K H p xs) : SqL K (lessC cs H) p xs := by
  rcases h with (h | ⟨o, h⟩) | h
  · exact .inl (.inl (less_keep t h fun o z => by cases z))
  · exact .inl (.inr ⟨o, less_keep t h fun o z => by cases z⟩)
  · exact .inr h
mutual
theorem Rep.less (t : Told cs H) : ∀ {d : D} {v : V}, Rep K FC H d v → Rep K FC (lessC cs H) d v
  | _, _, .at v => .at v
  | _, _, .tup h r => .tup (SqT.less t h) (Reps.less t r)
  | _, _, .lst h r => .lst (SqL.less t h) (Reps.less t r)
  | _, _, .obj c h n r => .obj c (less_keep t h fun o z => by cases z) n (RepF.less t r)
theorem Reps.less (t : Told cs H) : ∀ {ds : List D} {vs : List V}, Reps K FC H ds vs → Reps K FC (lessC cs H) ds vs
  | _, _, .nil => .nil
  | _, _, .cons h r => .cons (Rep.less t h) (Reps.less t r)
theorem RepF.less (t : Told cs H) : ∀ {fs : List (Str × D)} {gs : List (Str × V)}, RepF K FC H fs gs → RepF K FC (lessC cs H) fs gs
  | _, _, .nil => .nil
  | _, _, .cons h r => .cons (Rep.less t h) (RepF.less t r)
end
theorem HsI.less {pl : Pl} {h dx : Addr} {st : Sto} {past : List Ent} {fl : Nat} (t : Told cs H) (I : HsI K a pl h dx st past fl H) : HsI K a pl h dx st past fl (lessC cs H) := by
  obtain ⟨vp, vh, vq, h1, h2, h3, h4⟩ := I.ex
  exact ⟨⟨vp, vh, vq, less_keep t h1 fun o z => (by cases z), h2.less t, h3.less t, h4.less t⟩, I.po⟩
theorem tabs_less (t : Told cs H) (h : Tabs TT H) : Tabs TT (lessC cs H) := fun p hp => by
  obtain ⟨ps, h1, h2, h3⟩ := h p hp
  refine ⟨ps, less_keep t h1 fun o z => (by cases z), h2, fun pos cv hc => ?_⟩
  obtain ⟨c, e1, e2⟩ := h3 pos cv hc
  exact ⟨c, e1, less_keep t e2 fun o z => (by cases z)⟩
/-- a list of ints, where no list was written -/
theorem rep_ints {L : List Addr} {ns : List Int} {v : V} (r : Rep K FC H (.lst (ns.map di)) v) (hL : ∀ x ∈ L, ∀ o, H x = some o → (∀ us, o ≠ .lst us) ∧ ∀ ob u, o ≠ .frz ob u) (k : KeepX L H H') : Rep K FC H' (.lst (ns.map di)) v := by
  obtain ⟨p, us, rfl, hs, rr⟩ := r.lst_inv
  have e : us = ns.map V.int := by
    have r' : Reps K FC H ((ns.map V.int).map D.at) us := by rw [List.map_map]; exact rr
    exact r'.ats_inv
  subst e
  have r2 : Reps K FC H' ((ns.map V.int).map D.at) (ns.map V.int) := Reps.ats _
  rw [List.map_map] at r2
  refine .lst ?_ r2
  rcases hs with (y | ⟨o, y⟩) | y
  · exact .inl (.inl (k _ _ y (fun m => (hL _ m _ y).1 _ rfl) fun _ z => by cases z))
  · exact .inl (.inr ⟨o, k _ _ y (fun m => (hL _ m _ y).2 _ _ rfl) fun _ z => by cases z⟩)
  · exact .inr y
end
/-- o.m(lambda ..), whose reading names no context -/
def tMethLS (P : Program) (w : World) (K : PySem.W.Frag) (mg : Str → Option Value) (base : Heap) (C : Addr) (m : Str) (kc : Nat) (q : Str) (ixs : List Nat) (tb : XK → TE) (sp : Sp) (E : L2.St → XK) (ta : TE) (t : TLA) : TE := fun σ H Q => ta σ H fun y H0 => ∃ a dx fs, y = .ref a ∧ H0 a = some (.ins C dx fs) ∧ fs.lookup m = none ∧ t σ H0 fun vs H1 f c' => ∃ ws, SlotsAt σ ixs ws ∧
  ∀ cs, Untold cs H1 → FnTold cs f → FnR P w K mg base (L2N.CX P w) (kc + 1) f (spClo q c' cs ws tb) → sp ((.ref a :: vs) ++ [.ref f]) (withC cs H1) (fun r H' => Told cs H' → Q r (lessC cs H')) (fun cls d H' => Told cs H' → E σ cls d (lessC cs H'))
theorem pe_methLS {X : Cx} {P : Program} {w : World} {K : PySem.W.Frag} {mg : Str → Option Value} {base : Heap} {N : List Str} {ixs : List Nat} {x q : Str} {params : Arguments} {body : Expr} {scope : Scope} {pl : Sem Bool} {m : Str} {C g : Addr} {fd : FuncData} {ps : List Str} {kc k : Nat} {tb : XK → TE} {sp : Sp} {E : L2.St → XK} {o e : Expr} {es : List Expr} {ta : TE} {t : TLA} {apos pos : Pos}
    (ha : PAl X N x q params body scope (e :: es) t) (ho : PE X o ta) (c : Cls K C) (hm : Meth K C m g) (F : FnOk P w K mg base (L2N.CX P w) k g fd ps sp) (hr : Room k X.A) (hb : Binds K fd ps []) (hx : ∀ σ, PassesAt (L2N.CX P w) X σ (E σ))
    (L : LamOk X N ixs x scope) (hfn : X.fn = fun _ => true) (hbind : ∀ (cl : List (Str × Addr)) (pm cv ctv u : Value), bindArgs (PySem.W.kla_fn "<lambda>" q params body scope cl pm cv ctv) ⟨[u], []⟩ = pure [(x, u)])
    (hbody : ∀ (f c' : Addr) (cl : List (Str × Addr)) (A : Around) (outer : List Env) (s : Shared) (H : Hp) (E : XK), Room kc (A.deeper (cloEnv q scope s.heap.objs.size f c' cl)) → PE (cloCx P w K mg base N q scope f c' cl A outer s H E) body (tb E))
    (h1 : X.prog = P := by rfl) (h2 : X.w = w := by rfl) (h3 : X.K = K := by rfl) (h4 : X.mg = mg := by rfl) (h5 : X.base = base := by rfl)
    (hst : starEach (e :: es) X.env = (false, eval e X.env) :: starEach es X.env := by rfl) (hpl : (backTo pos (starEach es X.env)).any (·.1) = false := by rfl)
    (ht : eval (.Call (.Attribute o m apos) (e :: es) [] pos) X.env = (do
      let ov ← eval o X.env
      standAt apos.atName
      let (f, first) ← holding [ov] (getMethod ov m pl)
      callWith pos f first (backTo pos (starEach (e :: es) X.env)) (backToKw pos (keywordEach [] X.env))) := by rfl) :
    PE X (.Call (.Attribute o m apos) (e :: es) [] pos) (tMethLS P w K mg base C m kc q ixs tb sp E ta t) := by
  subst h1 h2 h3 h4 h5
  exact pe_methL ho c hm F hr hb hx L hfn hbind hbody ha hst hpl ht
/-! ### _law_tried -/
abbrev s_law_tried : Stmt := top 63
theorem sc_law_tried : FnScope ["script", "at", "plain", "house", "deep", "end", "before", "held", "rest", "found", "fine"] ["script", "at", "plain", "house", "deep"] (defScope s_law_tried) := ⟨rfl, rfl, rfl, by decide +kernel, rfl, by decide +kernel, by decide +kernel⟩
abbrev qTried : Str := ("_law_tried" ++ ".<locals>." : Str) ++ "<lambda>"
theorem st_par3G {i j l : Nat} {ta : TA} {t2 : TS} {B : Ends} {σ : L2.St} {H : Hp} (h : ta σ H fun vs H1 => ∃ u v w, vs = [u, v, w] ∧ t2 B (((σ.set i (some u)).set j (some v)).set l (some w)) H1) : tSeq (tPar3 i j l ta) t2 B σ H := h
theorem ok_law_tried {d kT : Nat} {CN c P0 g : Addr} {fg : FuncData} (F : FnP K "_law_tried" "_law_tried" s_law_tried f fd) (T : Tx K w mg a) (L : Looks P w K mg base a) (N : ExN K mg CN) (c_law_number : C8.Cal P w K mg base 1 "_law_number" (spN K a.FC rNum) []) (c_law_shot : C8.Cal P w K mg base 7 "_law_shot" (spShot K a) [])
    (c_law_within : CalN P w K mg base (kT + 2) "_law_within" (spWithin K a TT CN d)) (hm : Meth K a.CH "attempt" g) (Fa : FnOk P w K mg base (L2N.CX P w) (kT + 4) g fg ["self", "work"] (spTry P w K mg base a (kT + 3))) (hb : Binds K fg ["self", "work"] [])
    (TB : LamX.TabB base mg c P0) (hcode : fd.code = .ref c) (hT : (P0, qTried) ∈ TT) (hu : ∀ p ∈ TT, p.1 = P0 → p.2 = qTried) (h7 : 7 ≤ kT) : FnOk P w K mg base CX0 (kT + 5) f fd ["script", "at", "plain", "house", "deep"] (spTried K a TT d) := by
  have c_hlen := L.c_hlen
  refine fnGc F sc_law_tried (fun vs H Q E h => ?_) (fun Ar outer s H E hr => ⟨_, PSs.nox (pss_cons (ps_par3 (i := 5) (j := 6) (l := 7) (by rfl) sc_law_tried.nd rfl rfl rfl (by decide) (by decide) (by decide) rfl rfl rfl (pa_cons (pe_op op_mod (pe_callTy call_int1 (by rfl) T.f_int (by decide +kernel) (pa_cons (C8.pe_c c_law_number hr (by omega) (by rfl) (pa_cons (pv 0) (pa_cons (pe_op op_add (pv 1) pe_int) pa_nil))) pa_nil)) pe_int) (pa_cons (C8.pe_c c_law_shot hr (by omega) (by rfl) (pa_cons (pv 3) pa_nil)) (pa_cons (pe_lst pa_nil) pa_nil))) (by rfl))
    (pss_cons (ps_set (i := 8) sc_law_tried.nd rfl (Or.inr rfl) (pe_tup (pa_cons (pv 3) (pa_cons (pv 4) (pa_cons (pe_callB (call_lenO c_hlen hr (by omega)) (by rfl) T.f_len (by decide +kernel) (pa_cons (pv 3) pa_nil)) (pa_cons (pv 7) pa_nil))))))
    (pss_cons (L2N.ps_try_many rfl rfl takesNo (fun W pn xe tk _ => (pss_cons (ps_set (i := 9) sc_law_tried.nd rfl (Or.inl rfl) (pe_methLS (q := qTried) (P := P) (w := w) (K := K) (mg := mg) (base := base) (kc := kT + 2) (N := ["it", "script", "at", "plain", "rest"]) (ixs := [0, 1, 2, 8]) (pal_lam (ixs := [0, 1, 2, 8]) (lamOk_by (show lamOkB (defScope s_law_tried) ["script", "at", "plain", "house", "deep", "end", "before", "held", "rest", "found", "fine"] ["it", "script", "at", "plain", "rest"] [0, 1, 2, 8] "it" _ = true by decide +kernel)) TB hcode hT hu rfl) (pv 3) T.oH.cl hm Fa hr hb (fun σ => L2N.passAt tk σ) (lamOk_by (show lamOkB (defScope s_law_tried) ["script", "at", "plain", "house", "deep", "end", "before", "held", "rest", "found", "fine"] ["it", "script", "at", "plain", "rest"] [0, 1, 2, 8] "it" _ = true by decide +kernel)) rfl (fun _ _ _ _ _ => rfl) (fun f c cl A outer s H E hr => (pe_callE c_law_within hr (Nat.le_refl _) (fun σ => L2N.passAt takesC σ) (by rfl) (pa_cons (pv 1) (pa_cons (pv 2) (pa_cons (pv 3) (pa_cons (pv 4) (pa_cons (pv 0) pa_nil)))))))))
      (pss_one (ps_set (i := 10) sc_law_tried.nd rfl (Or.inl rfl) (pe_and (pe_cmpR op_eq (pv 5) pe_int (nomark _)) (pe_one (pe_cmpR (op_eqDK (K := K) hr) (pv 9) (pe_tup (pa_cons pe_str (pa_cons (pv 1) pa_nil))) (nomark _))))))))
      (.cons (c := .type "KeyError") (names_blt (by rfl) T.f_KeyError boot_KeyError) (fun x oe cls d pn hz hd => (pss_one (ps_set (i := 10) sc_law_tried.nd rfl (Or.inl rfl) (pe_cmpR op_eq (pv 5) pe_int (nomark _))))) (.cons (c := .ref CN) ⟨by rfl, by decide, .inl N.g⟩ (fun x oe cls d pn hz hd => (pss_one (ps_set (i := 10) sc_law_tried.nd rfl (Or.inl rfl) (pe_cmpR op_eq (pv 5) pe_int (nomark _))))) .nil)))
    (pss_one (ps_ret (pe_and (pv 10) (pe_and (pe_cmpR (op_eqDK (K := K) hr) (pv 7) (pe_lst (pa_cons pe_bl pa_nil)) (nomark _)) (pe_one (pe_cmpR (op_eqShot (K := K) (j := 7) (hr.mono (by omega))) (C8.pe_c c_law_shot hr (by omega) (by rfl) (pa_cons (pv 3) pa_nil)) (pv 6) (nomark _)))))))))), ?_⟩)
  · obtain ⟨ns, at_, p, h, dx, st, past, fl, vS, vP, rfl, _⟩ := h
    rfl
  · rintro vs Q ⟨ns, at_, p, h, dx, st, past, fl, vS, vP, rfl, rS, rP, ok, I, hl, tb, q⟩
    have l24 : past.length ≤ 24 := by omega
    have R : RepE K a.FC H [some (.at vS), some (di at_), some (plainD p), some (.at (.ref h)), some (di (d : Int)), none, none, none, none, none, none] (start ["script", "at", "plain", "house", "deep", "end", "before", "held", "rest", "found", "fine"] [vS, .int at_, vP, .ref h, .int (d : Int)]) := RepE.start (N := ["script", "at", "plain", "house", "deep", "end", "before", "held", "rest", "found", "fine"]) (ds := [.at vS, di at_, plainD p, .at (.ref h), di (d : Int)]) (.cons (.at _) (.cons (.at _) (.cons rP (.cons (.at _) (.cons (.at _) .nil)))))
    obtain ⟨σ0, hσ0⟩ : ∃ σ0 : L2.St, σ0 = start ["script", "at", "plain", "house", "deep", "end", "before", "held", "rest", "found", "fine"] [vS, .int at_, vP, .ref h, .int (d : Int)] := ⟨_, rfl⟩
    have s0 : σ0[0]? = some (some vS) := by rw [hσ0]; rfl
    have s2 : σ0[2]? = some (some vP) := by rw [hσ0]; rfl
    rw [← hσ0] at R ⊢
    clear hσ0
    have evS : EvD K a.FC (tVar 0) σ0 H (.lst (ns.map di)) := fun H1 e Q q => ⟨vS, s0, q _ H1 (Same.refl H1) (rS.mono e)⟩
    obtain ⟨r, hr0⟩ : ∃ r : Int, lawNum ns (at_ + 9) % 3 = r := ⟨_, rfl⟩
    refine st_par3G ?_
    refine ((ev_mod (ev_int (ev_num evS (ev_add (ev_var R (n := 1) rfl) (ev_c (v := .int 9))))) (ev_c (v := .int 3)) (by decide)).to (d' := di r) (by rw [← hr0])).go fun v1 H1 e1 r1 => ?_
    cases r1.at_inv
    have R1 := R.mono e1
    show tCall (spShot K a) [] C8.E0 (tCons (tVar 3) tNil) σ0 H1 _
    refine (ea_cons (ev_var R1 (n := 3) rfl) ea_nil : EvA K a.FC _ σ0 H1 [.at (.ref h)]).go fun vs1 H1' e1' r1' => ?_
    have ev1 := args1 r1'
    subst ev1
    refine ⟨p.norm, h, dx, st, past, fl, rfl, I.same (e1.trans e1'), l24, fun t H2 e2 S2 => ?_⟩
    have e02 := (e1.trans e1').trans e2
    have I2 := I.same e02
    show tLst tNil σ0 H2 _
    refine (ev_lst ea_nil : EvL K a.FC _ σ0 H2 []).go fun hd us3 H3 hhd e3 hl3 r3 => ?_
    cases r3
    refine ⟨_, _, _, rfl, ?_⟩
    have e03 := e02.trans e3
    have R3 : RepE K a.FC H3 [some (.at vS), some (di at_), some (plainD p), some (.at (.ref h)), some (di (d : Int)), some (di r), some (.at (.ref t)), some (.at (.ref hd)), none, none, none] (((σ0.set 5 (some (.int r))).set 6 (some (.ref t))).set 7 (some (.ref hd))) := (((R.mono e03).set (i := 5) (d := di r) (.at _)).set (i := 6) (d := .at (.ref t)) (.at _)).set (i := 7) (d := .at (.ref hd)) (.at _)
    obtain ⟨σ3, hσ3⟩ : ∃ σ3 : L2.St, σ3 = ((σ0.set 5 (some (.int r))).set 6 (some (.ref t))).set 7 (some (.ref hd)) := ⟨_, rfl⟩
    have s30 : σ3[0]? = some (some vS) := by
      rw [hσ3, List.getElem?_set_ne (by decide), List.getElem?_set_ne (by decide), List.getElem?_set_ne (by decide)]
      exact s0
    have s32 : σ3[2]? = some (some vP) := by
      rw [hσ3, List.getElem?_set_ne (by decide), List.getElem?_set_ne (by decide), List.getElem?_set_ne (by decide)]
      exact s2
    rw [← hσ3] at R3 ⊢
    clear hσ3
    have I3 := I2.same e3
    refine st_setS R3 (ev_tup (ea_cons (ev_var R3 (n := 3) rfl) (ea_cons (ev_var R3 (n := 4) rfl) (ea_cons (ev_lenH I3 l24 R3 (n := 3) rfl) (ea_cons (ev_var R3 (n := 7) rfl) ea_nil)))) (by show 4 ≤ sizeLine; decide)) fun v4 H4 e4 r4 R4 => ?_
    obtain ⟨tr, us4, rfl, hs4, rr4⟩ := r4.tup_inv
    have eus : us4 = [.ref h, .int (d : Int), .int (past.length : Int), .ref hd] := Reps.ats_inv (vs := [.ref h, .int (d : Int), .int (past.length : Int), .ref hd]) rr4
    subst eus
    have R4 : RepE K a.FC H4 [some (.at vS), some (di at_), some (plainD p), some (.at (.ref h)), some (di (d : Int)), some (di r), some (.at (.ref t)), some (.at (.ref hd)), some (.tup [.at (.ref h), di (d : Int), di (past.length : Int), .at (.ref hd)]), none, none] (σ3.set 8 (some (.ref tr))) := R4
    obtain ⟨σ4, hσ4⟩ : ∃ σ4 : L2.St, σ4 = σ3.set 8 (some (.ref tr)) := ⟨_, rfl⟩
    have s40 : σ4[0]? = some (some vS) := by rw [hσ4, List.getElem?_set_ne (by decide)]; exact s30
    have s42 : σ4[2]? = some (some vP) := by rw [hσ4, List.getElem?_set_ne (by decide)]; exact s32
    have s48 : σ4[8]? = some (some (.ref tr)) := by
      rw [hσ4]
      refine List.getElem?_set_self ?_
      rw [← R3.len]
      show 8 < 11
      decide
    rw [← hσ4] at R4 ⊢
    clear hσ4
    have e24 := e3.trans e4
    have e04 := e02.trans e24
    have I4 := I3.same e4
    have hd4 := e4 _ _ hl3
    have t4 := tabs_same tb e04
    have rP4 := rP.mono e04
    obtain ⟨_, _, _, g4, _⟩ := I4.ex
    obtain ⟨_, _, _, g2, _⟩ := I2.ex
    have hne : hd ≠ h := fun z => by rw [z, g4] at hd4; cases hd4
    have nol4 : ∀ d', some d' ∈ ([some (.at vS), some (di at_), some (plainD p), some (.at (.ref h)), some (di (d : Int)), some (di r), some (.at (.ref t)), some (.at (.ref hd)), some (.tup [.at (.ref h), di (d : Int), di (past.length : Int), .at (.ref hd)]), none, none] : SD) → NoL d' := fun d' hd' => by
      simp at hd'
      rcases hd' with rfl | rfl | rfl | rfl | rfl | rfl | rfl | rfl | rfl
      · exact .at _
      · exact .at _
      · exact plainD_noL p
      · exact .at _
      · exact .at _
      · exact .at _
      · exact .at _
      · exact .at _
      · exact .tup (.cons (.at _) (.cons (.at _) (.cons (.at _) (.cons (.at _) .nil))))
    have mut4 : ∀ x ∈ [h, hd], MutO a.FC H4 x := fun x hx => by
      rcases List.mem_cons.mp hx with rfl | hx
      · exact I4.mut T _ (by simp)
      · rw [List.mem_singleton.mp hx]
        exact .inl ⟨_, hd4⟩
    have up1 : ∀ {H H' : Hp}, KeepX [h] H H' → KeepX [h, hd] H H' := fun k => k.mono fun x hx => by rw [List.mem_singleton.mp hx]; simp
    -- the end
    have fin : ∀ {σf : L2.St} {Hf : Hp} {fd' : Option D}, KeepX [h, hd] H4 Hf → HsI K a p.norm h dx st past fl Hf → Hf hd = some (.lst [.bl true]) → Tabs TT Hf → RepE K a.FC Hf [some (.at vS), some (di at_), some (plainD p), some (.at (.ref h)), some (di (d : Int)), some (di r), some (.at (.ref t)), some (.at (.ref hd)), some (.tup [.at (.ref h), di (d : Int), di (past.length : Int), .at (.ref hd)]), fd', some (db true)] σf →
        tRet (tAndV (tVar 10) (tAndV (tOp (rEqD K) (tVar 7) (tLst (tCons (tC (.bl true)) tNil))) (tOp (rEqShot K) (tCall (spShot K a) [] C8.E0 (tCons (tVar 3) tNil)) (tVar 6)))) { nx := fun _ H' => Q .non H', rt := Q } σf Hf := fun {σf Hf fd'} kf If hf tf Rf => by
      refine ⟨.bl true, Rf.ref (i := 10) rfl, true, rfl, ?_⟩
      rw [if_pos rfl]
      have pkh : PK (.lst [db true]) 1 := pk_lst fun d' hd' => by
        rw [List.mem_singleton.mp hd']
        exact ⟨_, .bl true, by simp [PyData.canLay0], by simp [PyData.depth]⟩
      refine (ev_eqSame pkh (by omega) (ev_varQ Rf (n := 7) rfl (SqL.of hf) (.cons (.at _) .nil)) (ev_lst (ea_cons (ev_c (v := .bl true)) ea_nil) (by show 1 ≤ sizeLine; decide)).toD).go fun v5 H5 e5 r5 => ?_
      cases r5.at_inv
      refine ⟨true, rfl, ?_⟩
      rw [if_pos rfl]
      have R5 := Rf.mono e5
      show tCall (spShot K a) [] C8.E0 (tCons (tVar 3) tNil) σf H5 _
      refine (ea_cons (ev_var R5 (n := 3) rfl) ea_nil : EvA K a.FC _ σf H5 [.at (.ref h)]).go fun vs6 H6 e6 r6 => ?_
      have ev6 := args1 r6
      subst ev6
      refine ⟨p.norm, h, dx, st, past, fl, rfl, If.same (e5.trans e6), l24, fun u H7 e7 S7 => ?_⟩
      have ef7 := (e5.trans e6).trans e7
      have k2 : KeepX [h] H2 H7 := fun b o hb' n t' => ef7 _ _ (kf b o (e24 _ _ hb') (fun m => by
        rcases List.mem_cons.mp m with z | z
        · exact n (by rw [z]; simp)
        · rw [List.mem_singleton.mp z, hhd] at hb'; cases hb') t')
      refine ⟨_, (Rf.mono ef7).ref (i := 6) rfl, S7.eq (S2.rk (I2.rk T k2)) ?_⟩
      exact q H7 (If.same ef7) ((KeepX.of e02).trans k2) (tabs_same tf ef7)
    -- the trial
    refine st_seq ?_
    refine st_asg ?_
    refine ⟨.ref h, R4.ref (i := 3) rfl, h, dx, _, rfl, g4, rfl, t4, fun H5 f5 c5 x5 t5 hc5 => ⟨[vS, .int at_, vP, .ref tr], ⟨rfl, fun i' j v z1 z2 => ?_⟩, fun cs un ft FR => ?_⟩⟩
    · match i', z1, z2 with
      | 0, z1, z2 => cases z1; cases z2; exact s40
      | 1, z1, z2 => cases z1; cases z2; exact R4.ref (i := 1) rfl
      | 2, z1, z2 => cases z1; cases z2; exact s42
      | 3, z1, z2 => cases z1; cases z2; exact s48
    · have k45 : KeepX [] H4 H5 := extN_keep x5
      have I5 := I4.off k45 (k45.frz fun _ z => nomatch z) fun z => nomatch z
      have sw := same_with un
      have I5w := I5.same sw
      obtain ⟨Hw, hHw⟩ : ∃ Hw, Hw = withC cs H5 := ⟨_, rfl⟩
      have gw : ∃ gs, Hw h = some (.ins a.CH dx gs) := by
        obtain ⟨_, _, _, g, _⟩ := I5w.ex
        rw [hHw]
        exact ⟨_, g⟩
      -- from before the trial into it and out of it
      have low : ∀ {L : List Addr} {H' : Hp}, KeepX L Hw H' → ∀ b o, H5 b = some o → b ∉ L → (∀ ps, o ≠ .tbl ps) → lessC cs H' b = some o := fun {L H'} k b o hb' n t' => by
        have nb := untold_some un hb'
        rw [less_out nb]
        refine k b o ?_ n t'
        rw [hHw, with_out nb]
        exact hb'
      have low4 : ∀ {L : List Addr} {H' : Hp}, KeepX L Hw H' → KeepX L H4 (lessC cs H') := fun {L H'} k b o hb' n t' => low k b o (k45 b o hb' (fun z => nomatch z) t') n t'
      have fpw : FnPin Hw f5 := by
        obtain ⟨oc', od', fd', sl', e⟩ := ft
        exact ⟨oc', od', fd', sl', by rw [hHw]; exact with_in e⟩
      rw [← hHw] at I5w sw ⊢
      have tw : Tabs TT Hw := tabs_same t5 sw
      obtain ⟨B0, hB0⟩ : ∃ B0 : List Addr → Hp → Prop, B0 = fun L H' => Told cs H' ∧ KeepX L Hw H' ∧ Tabs TT H' := ⟨_, rfl⟩
      have told_of : ∀ {L : List Addr} {H' : Hp}, (∀ x ∈ L, x = h ∨ x = hd) → KeepX L Hw H' → Told cs H' := fun {L H'} hL k b o e => k b _ (by rw [hHw]; exact with_in e) (fun m => by
        rcases hL b m with z | z
        · obtain ⟨gs, g⟩ := gw
          rw [hHw, ← z, with_in e] at g
          cases g
        · have y : H5 hd = some (.lst []) := k45 _ _ hd4 (fun z => nomatch z) fun _ z => by cases z
          rw [← z] at y
          have := un b o e
          rw [this] at y
          cases y) fun _ z => by cases z
      have bothL : ∀ x ∈ [h, hd], x = h ∨ x = hd := fun x hx => by simpa using hx
      have oneL : ∀ x ∈ [h], x = h ∨ x = hd := fun x hx => .inl (by simpa using hx)
      refine ⟨p.norm, h, dx, st, past, fl, f5, _, fun v H' => KeepX [h, hd] Hw H' ∧ H' hd = some (.lst [.bl true]) ∧ Tabs TT H' ∧ r = 2 ∧ Rep K a.FC H' (.tup [dz "fine", di at_]) v, fun cls _ H' => KeepX [h, hd] Hw H' ∧ H' hd = some (.lst [.bl true]) ∧ Tabs TT H' ∧ ((r = 0 ∧ cls = .type "KeyError") ∨ (r = 1 ∧ cls = .ref CN)),
        rfl, I5w, fpw, FR, fun H6 m6 I6 Q' E' kv kx => ?_, fun v H6 H7 ⟨k6, hh6, t6, hr2, rv⟩ m7 I7 told => ?_, fun cls dd H6 H7 ⟨k6, hh6, t6, hor⟩ m7 I7 told => ?_⟩
      · -- inside
        have told6 := told_of oneL m6.kp
        have wl : withC cs (lessC cs H6) = H6 := with_less told6
        have hc6 : H6 c5 = some (codeH c5 qTried) := m6.kp _ _ (sw _ _ hc5) (fun m => by
          obtain ⟨gs, g⟩ := gw
          rw [List.mem_singleton.mp m] at hc5
          rw [sw _ _ hc5] at g
          cases g) fun _ z => by cases z
        have k46 : KeepX [h] H4 (lessC cs H6) := low4 m6.kp
        have z46 : RK a.FC H4 (lessC cs H6) := I4.rk T k46
        have hd6 : lessC cs H6 hd = some (.lst []) := k46 _ _ hd4 (by simp; exact hne) fun _ z => by cases z
        have I6l := HsI.less told6 I6
        have both : ∀ {H7 : Hp}, Aft K a TT p.norm h dx hd past.length (lessC cs H6) H7 → Untold cs H7 → KeepX [h, hd] Hw (withC cs H7) ∧ Frz a.FC H6 (withC cs H7) ∧ withC cs H7 hd = some (.lst [.bl true]) ∧ Tabs TT (withC cs H7) := fun {H7} aft un7 => by
          refine ⟨fun b o hb' n t' => ?_, ?_, with_some un7 aft.hl, tabs_same aft.tb (same_with un7)⟩
          · cases qb : cs.lookup b with
            | some ob =>
              rw [hHw, with_in qb] at hb'
              rw [with_in qb]
              exact hb'
            | none =>
              rw [hHw, with_out qb] at hb'
              rw [with_out qb]
              exact aft.kp b o (low m6.kp b o hb' (fun m => n (by rw [List.mem_singleton.mp m]; simp)) t') n t'
          · have z := frz_with (FC := a.FC) (cs := cs) (H := lessC cs H6) (H' := withC cs H7) untold_less told_with (by
              rw [less_with un7]
              exact aft.kp.frz fun x hx => by
                rcases bothL x hx with rfl | rfl
                · exact I6l.mut T _ (by simp)
                · exact .inl ⟨_, hd6⟩)
            rw [wl] at z
            exact z
        refine ⟨.ref h, rfl, told6, hc6, ?_⟩
        refine ⟨vS, rfl, .int at_, rfl, vP, rfl, .ref tr, rfl, .ref h, rfl, ?_⟩
        refine ⟨ns, at_, p, h, dx, st, past, past.length, vS, vP, tr, hd, rfl, fun H' k' => ?_, rP4.rk z46, ok, z46.sqt hs4, hd6, I6l, rfl, hl |> (fun z => by omega), tabs_less told6 (m6.tb TT tw), fun v H7 aft hr2 rv un7 => ?_, fun cls dd H7 aft hor un7 => ?_⟩
        · refine rep_ints (rS.mono e02) (L := [h, hd]) (fun x hx o ho => ?_) (H' := H') ((KeepX.of e24).trans ((up1 k46).trans k'))
          rcases bothL x hx with rfl | rfl
          · rw [g2] at ho
            cases ho
            exact ⟨fun _ z => (by cases z), fun _ _ z => (by cases z)⟩
          · rw [hhd] at ho
            cases ho
        · obtain ⟨b1, b2, b3, b4⟩ := both aft un7
          obtain ⟨st7, past7, I7⟩ := aft.ex
          rw [hr0] at hr2
          exact kv v _ st7 past7 _ (I7.same (same_with un7)) b2 ⟨b1, b3, b4, hr2, rv.mono (same_with un7)⟩
        · obtain ⟨b1, b2, b3, b4⟩ := both aft un7
          obtain ⟨st7, past7, I7⟩ := aft.ex
          rw [hr0] at hor
          exact kx cls dd _ st7 past7 _ (I7.same (same_with un7)) b2 ⟨b1, b3, b4, hor⟩
      · -- it returned
        have k7 : KeepX [h, hd] Hw H7 := k6.trans (up1 m7.kp)
        have k47 := low4 k7
        have I7l := HsI.less told I7
        have hh7 : H7 hd = some (.lst [.bl true]) := m7.kp _ _ hh6 (by simp; exact hne) fun _ z => by cases z
        have hh7l := less_keep told hh7 fun o z => by cases z
        have t7l := tabs_less told (m7.tb TT t6)
        have rv7 := (rv.frz m7.fz (.tup (.cons (.at _) (.cons (.at _) .nil)))).less told
        have R7 := (R4.frz (k47.frz mut4) nol4).set (i := 9) rv7
        have pkf : PK (.tup [dz "fine", di at_]) 1 := pk_tup fun d' hd' => by
          simp at hd'
          rcases hd' with rfl | rfl
          · exact pk_str _ (by decide +kernel)
          · exact pk_int _ _
        refine st_set R7 ((ev_and (b := true) (c := true) ((ev_eq (ev_var R7 (n := 5) rfl) (ev_c (v := .int 2)) rfl).to (congrArg db (decide_eq_true (by rw [hr2])))) fun _ => ev_eqSame pkf (by omega) (ev_var R7 (n := 9) rfl) (ev_tup (ea_cons (ev_c (v := .str "fine")) (ea_cons (ev_var R7 (n := 1) rfl) ea_nil)) (by show 2 ≤ sizeLine; decide))).to (d' := db true) rfl) fun v8 H8 e8 r8 R8 => ?_
        exact fin (k47.trans (KeepX.of e8)) (I7l.same e8) (e8 _ _ hh7l) (tabs_same t7l e8) R8
      · -- it raised
        have k7 : KeepX [h, hd] Hw H7 := k6.trans (up1 m7.kp)
        have k47 := low4 k7
        have I7l := HsI.less told I7
        have hh7 : H7 hd = some (.lst [.bl true]) := m7.kp _ _ hh6 (by simp; exact hne) fun _ z => by cases z
        have hh7l := less_keep told hh7 fun o z => by cases z
        have t7l := tabs_less told (m7.tb TT t6)
        have R7 := R4.frz (k47.frz mut4) nol4
        rcases hor with ⟨hr0', rfl⟩ | ⟨hr1, rfl⟩
        · refine ⟨true, exm_KE, fun _ x hx => ?_, fun z => nomatch z⟩
          refine st_set R7 ((ev_eq (ev_var R7 (n := 5) rfl) (ev_c (v := .int 0)) rfl).to (d' := db true) (congrArg db (decide_eq_true (by rw [hr0'])))) fun v8 H8 e8 r8 R8 => ?_
          exact fin (k47.trans (KeepX.of e8)) (I7l.same e8) (e8 _ _ hh7l) (tabs_same t7l e8) R8
        · refine ⟨false, N.nk, (fun z => nomatch z), fun _ => ⟨true, N.nn, fun _ x hx => ?_, fun z => nomatch z⟩⟩
          refine st_set R7 ((ev_eq (ev_var R7 (n := 5) rfl) (ev_c (v := .int 1)) rfl).to (d' := db true) (congrArg db (decide_eq_true (by rw [hr1])))) fun v8 H8 e8 r8 R8 => ?_
          exact fin (k47.trans (KeepX.of e8)) (I7l.same e8) (e8 _ _ hh7l) (tabs_same t7l e8) R8
end
end T34

/-! Kd29 -/
set_option maxHeartbeats 4000000
namespace T34
open PySem PySem.Spec PyProof.Rows L2
local macro_rules | `(tactic| walk_at "ev") => `(tactic| (first
  | (with_reducible exact ev_c)
  | ((with_reducible refine' ev_var ?R ?h); (case R => assumption); (case h => rfl))
  | (with_reducible refine' ea_cons ?_ ?_)
  | (with_reducible exact ea_nil)
  | (with_reducible refine' ev_add ?_ ?_)
  | (with_reducible refine' ev_sub ?_ ?_)
  | (with_reducible refine' ev_mul ?_ ?_ ?_)
  | (with_reducible refine' ev_mod ?_ ?_ ?_)
  | (with_reducible refine' ev_div ?_ ?_ ?_)
  | (with_reducible refine' ev_lt ?_ ?_)
  | (with_reducible refine' ev_le ?_ ?_)
  | (with_reducible refine' ev_gt ?_ ?_)
  | (with_reducible refine' ev_ge ?_ ?_)
  | (with_reducible refine' ev_int ?_)
  | (with_reducible refine' ev_not ?_)
  | (with_reducible refine' ev_tup ?_)
  | (with_reducible refine' ev_between ?_ ?_ ?_)
  | (with_reducible refine' et_test ?_)
  | (with_reducible refine' et_B ?_)
  | (with_reducible refine' et_not ?_)))
section
variable {P : Program} {w : World} {K : PySem.W.Frag} {mg : Str → Option Value} {base : Heap} {a : Ad} {TT : List (Addr × Str)} {f : Addr} {fd : FuncData}
open LamX (Tabs)
/-! ### law -/
theorem RK.frz {FC : Addr → Prop} {H H' : Hp} (e : RK FC H H') : Frz FC H H' := ⟨fun b xs h => e.k _ _ h (fun _ _ _ z => by cases z) fun _ z => (by cases z), fun b o u h => e.k _ _ h (fun _ _ _ z => by cases z) fun _ z => (by cases z), fun b C dx gs c _ h => e.k _ _ h (fun _ _ _ z => by cases z; exact c) fun _ z => (by cases z)⟩
def spLaw (K : PySem.W.Frag) (a : Ad) (TT : List (Addr × Str)) : Sp := fun vs H Q _ => ∃ (sc : Addr) (ns : List Int), vs = [.ref sc] ∧ SqL K H sc (ns.map V.int) ∧ Tabs TT H ∧ ∀ H', Q (.bl true) H'
theorem tCall_mono {σ : L2.St} {H : Hp} {Q Q' : VK} (h : ∀ v H', Q v H' → Q' v H') (q : tCall (spUR K a TT) [] C8.E0 (tCons (tVar 3) (tCons (tC (.int 0)) tNil)) σ H Q) : tCall (spUR K a TT) [] C8.E0 (tCons (tVar 3) (tCons (tC (.int 0)) tNil)) σ H Q' := by
  obtain ⟨v, hv, pl, x, dx, st, past, fl, e, I, f1, f2, tb, q1, q2⟩ := q
  exact ⟨v, hv, pl, x, dx, st, past, fl, e, I, f1, f2, tb, fun z H' e' => h _ _ (q1 z H' e'), fun z past' en H' ep I' k' t' => h _ _ (q2 z past' en H' ep I' k' t')⟩
abbrev s_law : Stmt := top 64
theorem sc_law : FnScope ["script", "by", "plain", "house", "turn", "lap"] ["script"] (defScope s_law) := ⟨rfl, rfl, rfl, by decide +kernel, rfl, by decide +kernel, by decide +kernel⟩
theorem ok_law {kT kD kU : Nat} (F : FnP K "law" "law" s_law f fd) (T : Tx K w mg a) (L : Looks P w K mg base a) (c_law_plain : C8.Cal P w K mg base 8 "_law_plain" (spN K a.FC rLPlain) []) (c_law_plan : C8.Cal P w K mg base 12 "_law_plan" (spN K a.FC (rLPlan a)) []) (c_House : C8.Mak P w K mg base 6 "House" a.CH (spHinit K a) [])
    (c_law_do : C8.Cal P w K mg base kD "_law_do" (spDo K a TT) []) (c_law_tried : C8.Cal P w K mg base kT "_law_tried" (spTried K a TT 2) []) (c_law_undone_right : C8.Cal P w K mg base 3 "_law_undone_right" (spUR K a TT) []) (h12 : 12 ≤ kT) (hD : kD ≤ kT) : FnOk P w K mg base CX0 (kT + 1) f fd ["script"] (spLaw K a TT) := by
  have c_hlen := L.c_hlen
  refine fnG0 F sc_law (fun vs H Q E h => ?_) (fun cdv Ar outer s H E hr => ⟨_, (pss_cons (ps_for PassesOwn.never rfl (pi_tup (pe_tup (pa_cons pe_int (pa_cons pe_int pa_nil)))) (pg_name (i := 1) sc_law.nd (by rfl) (.inl (by rfl)) (by first | exact .inl rfl | exact .inr rfl))
      (pss_cons (ps_set (i := 2) sc_law.nd rfl (Or.inl rfl) (C8.pe_c c_law_plain hr (by omega) (by rfl) (pa_cons (pv 0) (pa_cons (pv 1) pa_nil))))
    (pss_cons (ps_set (i := 3) sc_law.nd rfl (Or.inl rfl) (C8.pe_mk c_House hr (by omega) (by rfl) (pa_cons (C8.pe_c c_law_plan hr (by omega) (by rfl) (pa_cons (pv 2) pa_nil)) pa_nil)))
    (pss_cons (ps_for PassesOwn.never rfl (pi_range1 (by rfl) T.f_range (pa_cons pe_int pa_nil)) (pg_name (i := 4) sc_law.nd (by rfl) (.inl (by rfl)) (by first | exact .inl rfl | exact .inr rfl))
      (pss_cons (ps_expr (C8.pe_c c_law_do hr (by omega) (by rfl) (pa_cons (pv 0) (pa_cons (pe_op op_add (pe_op op_add pe_int (pv 1)) (pv 4)) (pa_cons (pv 2) (pa_cons (pv 3) pa_nil))))))
    (pss_one (ps_if (pt_not (pt_val (C8.pe_c c_law_tried hr (by omega) (by rfl) (pa_cons (pv 0) (pa_cons (pe_op op_add (pe_op op_add pe_int (pv 1)) (pe_op op_mul pe_int (pv 4))) (pa_cons (pv 2) (pa_cons (pv 3) (pa_cons pe_int pa_nil)))))))) (pss_one (ps_ret pe_bl)) pss_nil))))
    (pss_cons (ps_for PassesOwn.never rfl (pi_range1 (by rfl) T.f_range (pa_cons pe_int pa_nil)) (pg_name (i := 5) sc_law.nd (by rfl) (.inl (by rfl)) (by first | exact .inl rfl | exact .inr rfl))
      (pss_cons (ps_if (pt_not (pt_cmpR op_gt (pe_callB (call_lenO c_hlen hr (by omega)) (by rfl) T.f_len (by decide +kernel) (pa_cons (pv 3) pa_nil)) pe_int (nomark _))) (pss_one ps_break) pss_nil)
    (pss_one (ps_if (pt_not (pt_val (C8.pe_c c_law_undone_right hr (by omega) (by rfl) (pa_cons (pv 3) (pa_cons pe_int pa_nil))))) (pss_one (ps_ret pe_bl)) pss_nil))))
    (pss_one (ps_if (pt_not (pt_val (C8.pe_c c_law_undone_right hr (by omega) (by rfl) (pa_cons (pv 3) (pa_cons pe_int pa_nil))))) (pss_one (ps_ret pe_bl)) pss_nil)))))))
    (pss_one (ps_ret pe_bl))), ?_⟩)
  · obtain ⟨sc, ns, rfl, _⟩ := h
    rfl
  · rintro vs Q ⟨sc, ns, rfl, hsc, tb, q⟩
    have rI : Reps K a.FC H (ns.map di) (ns.map V.int) := by
      have r2 : Reps K a.FC H ((ns.map V.int).map D.at) (ns.map V.int) := Reps.ats _
      rw [List.map_map] at r2
      exact r2
    have R : RepE K a.FC H [some (.lst (ns.map di)), none, none, none, none, none] (start ["script", "by", "plain", "house", "turn", "lap"] [.ref sc]) := RepE.start (N := ["script", "by", "plain", "house", "turn", "lap"]) (ds := [.lst (ns.map di)]) (.cons (.lst hsc rI) .nil)
    refine st_seq (st_forZ (K := K) (FC := a.FC) (evz_tup (ds := [di 0, di 40]) (ev_tup (ea_cons (ev_c (v := .int 0)) (ea_cons (ev_c (v := .int 40)) ea_nil)) (by show 2 ≤ sizeLine; decide)) (.cons (.at _) (.cons (.at _) .nil))) fun H2 e2 => ⟨fun i σ' H' => RK a.FC H2 H' ∧ Tabs TT H' ∧ RepE K a.FC H' [some (.lst (ns.map di)), none, none, none, none, none] σ',
      ⟨RK.of (Same.refl _), tabs_same tb e2, R.mono e2⟩, fun i σ' H' h => h.1.frz, ?_, ?_⟩)
    · rintro i dv x σ' H' H3 hd ⟨z', t', R'⟩ e' rx
      obtain ⟨by_, rfl⟩ : ∃ by_ : Int, dv = di by_ := by
        match i, hd with
        | 0, hd => cases hd; exact ⟨0, rfl⟩
        | 1, hd => cases hd; exact ⟨40, rfl⟩
        | n + 2, hd => simp at hd
      have z3 := z'.trans (RK.of e')
      have t3 := tabs_same t' e'
      have R3 : RepE K a.FC H3 [some (.lst (ns.map di)), some (di by_), none, none, none, none] (σ'.set 1 (some x)) := (R'.mono e').set (i := 1) rx
      obtain ⟨σ3, hσ3⟩ : ∃ σ3 : L2.St, σ3 = σ'.set 1 (some x) := ⟨_, rfl⟩
      show tSeq _ _ _ (σ'.set 1 (some x)) H3
      rw [← hσ3] at R3 ⊢
      refine st_seq (st_setP R3 (ev_call (ea_cons (ev_var R3 (n := 0) rfl) (ea_cons (ev_var R3 (n := 1) rfl) ea_nil)) ⟨ns, by_, rfl, rfl⟩) fun d v4 H4 pd e4 r4 R4 => ?_)
      obtain ⟨p, ok, rfl⟩ := pd
      have R4 : RepE K a.FC H4 [some (.lst (ns.map di)), some (di by_), some (plainD p), none, none, none] (σ3.set 2 (some v4)) := R4
      obtain ⟨σ4, hσ4⟩ : ∃ σ4 : L2.St, σ4 = σ3.set 2 (some v4) := ⟨_, rfl⟩
      rw [← hσ4] at R4 ⊢
      have okn := Pl.norm_ok ok
      -- the house
      dsimp only
      refine st_asg ?_
      refine (ea_cons (ev_callD (d := p.norm.d a) (ea_cons (ev_var R4 (n := 2) rfl) ea_nil) ⟨p, ok, rfl, rfl⟩) ea_nil : EvA K a.FC _ σ4 H4 [p.norm.d a]).go fun vs5 H5 e5 r5 x5 dx hx hdx ne => ?_
      obtain ⟨vp, rfl, rp⟩ : ∃ vp, vs5 = [vp] ∧ Rep K a.FC H5 (p.norm.d a) vp := by
        cases r5 with
        | cons r rr => cases rr; exact ⟨_, rfl, r⟩
      have sM : Same H5 (upd (upd H5 dx (.own x5)) x5 (.ins a.CH dx [])) := (Same.new hdx).trans (Same.new (by rw [upd_ne (Ne.symm ne)]; exact hx))
      refine ⟨x5, dx, p.norm, vp, rfl, upd_same, rp.mono sM, okn, fun H6 I6 keep => ⟨rfl, ?_⟩⟩
      have e56 : Same H5 H6 := fun b o e => keep b o (sM b o e) (fun z => by rw [z, hx] at e; cases e)
      have e36 := (e4.trans e5).trans e56
      have z6 := z3.trans (RK.of e36)
      have t6 := tabs_same t3 e36
      have R6 : RepE K a.FC H6 [some (.lst (ns.map di)), some (di by_), some (plainD p), some (.at (.ref x5)), none, none] (σ4.set 3 (some (.ref x5))) := (R4.mono (e5.trans e56)).set (i := 3) (.at (.ref x5))
      obtain ⟨σ6, hσ6⟩ : ∃ σ6 : L2.St, σ6 = σ4.set 3 (some (.ref x5)) := ⟨_, rfl⟩
      show tSeq _ _ _ (σ4.set 3 (some (.ref x5))) H6
      rw [← hσ6] at R6 ⊢
      -- deeds and trials
      refine st_seq (st_forZ (K := K) (FC := a.FC) (evz_range (n := 4) (ea_cons (ev_c (v := .int 4)) ea_nil) (by decide)) fun H7 e7 => ⟨fun j σ' H' => ∃ st' past', HsI K a p.norm x5 dx st' past' 0 H' ∧ past'.length = j ∧ KeepX [x5] H7 H' ∧ Tabs TT H' ∧ RepE K a.FC H' [some (.lst (ns.map di)), some (di by_), some (plainD p), some (.at (.ref x5)), none, none] σ',
        ⟨firstS p.norm, [], I6.same e7, rfl, KeepX.refl, tabs_same t6 e7, R6.mono e7⟩, fun i σ' H' ⟨_, _, _, _, kp, _⟩ => kp.frz ((I6.same e7).mut T), ?_, ?_⟩)
      · rintro j dv x8 σ7 H8 H9 hd ⟨st8, past8, I8, l8, k8, t8, R8⟩ e9 rx8
        rw [List.getElem?_map] at hd
        obtain ⟨j', hj', rfl⟩ := Option.map_eq_some_iff.mp hd
        have lj : j < 4 := by
          have := (List.getElem?_eq_some_iff.mp hj').1
          rwa [List.length_range] at this
        rw [List.getElem?_range lj] at hj'
        cases hj'
        have I9 := I8.same e9
        have t9 := tabs_same t8 e9
        have R9 : RepE K a.FC H9 [some (.lst (ns.map di)), some (di by_), some (plainD p), some (.at (.ref x5)), some (di (j : Int)), none] (σ7.set 4 (some x8)) := (R8.mono e9).set (i := 4) rx8
        obtain ⟨σ9, hσ9⟩ : ∃ σ9 : L2.St, σ9 = σ7.set 4 (some x8) := ⟨_, rfl⟩
        show tSeq _ _ _ (σ7.set 4 (some x8)) H9
        rw [← hσ9] at R9 ⊢
        refine st_seq ?_
        show tCall (spDo K a TT) [] C8.E0 (tCons (tVar 0) (tCons (tOp _ (tOp _ (tC (.int 100)) (tVar 1)) (tVar 4)) (tCons (tVar 2) (tCons (tVar 3) tNil)))) σ9 H9 _
        refine (ea_cons (ev_var R9 (n := 0) rfl) (ea_cons (ev_add (ev_add (ev_c (v := .int 100)) (ev_var R9 (n := 1) rfl)) (ev_var R9 (n := 4) rfl)) (ea_cons (ev_var R9 (n := 2) rfl) (ea_cons (ev_var R9 (n := 3) rfl) ea_nil))) : EvA K a.FC _ σ9 H9 [.lst (ns.map di), di (100 + by_ + (j : Int)), plainD p, .at (.ref x5)]).go fun vs10 H10 e10 r10 => ?_
        obtain ⟨wS, wP, rfl, qS, qP⟩ : ∃ wS wP, vs10 = [wS, .int (100 + by_ + (j : Int)), wP, .ref x5] ∧ Rep K a.FC H10 (.lst (ns.map di)) wS ∧ Rep K a.FC H10 (plainD p) wP := by
          cases r10 with
          | cons z1 rr => cases rr with
            | cons z2 rr => cases rr with
              | cons z3 rr => cases rr with
                | cons z4 rr =>
                  cases rr
                  cases z2.at_inv
                  cases z4.at_inv
                  exact ⟨_, _, rfl, z1, z3⟩
        have I10 := I9.same e10
        refine ⟨ns, _, p, x5, dx, st8, past8, 0, wS, wP, rfl, qS, qP, ok, I10, by omega, tabs_same t9 e10, fun H11 ⟨⟨st11, en, I11⟩, k11, t11⟩ => ?_⟩
        have k911 : KeepX [x5] H9 H11 := (KeepX.of e10).trans k11
        have R11 := R9.rk (I9.rk T k911)
        have l11 : (past8 ++ [en]).length = j + 1 := by rw [List.length_append, l8]; rfl
        show tCall (spTried K a TT 2) [] C8.E0 (tCons (tVar 0) (tCons (tOp _ (tOp _ (tC (.int 120)) (tVar 1)) (tOp _ (tC (.int 30)) (tVar 4))) (tCons (tVar 2) (tCons (tVar 3) (tCons (tC (.int 2)) tNil))))) σ9 H11 _
        refine (ea_cons (ev_var R11 (n := 0) rfl) (ea_cons (ev_add (ev_add (ev_c (v := .int 120)) (ev_var R11 (n := 1) rfl)) (ev_mul (ev_c (v := .int 30)) (ev_var R11 (n := 4) rfl) (.inl ⟨by decide, by decide⟩))) (ea_cons (ev_var R11 (n := 2) rfl) (ea_cons (ev_var R11 (n := 3) rfl) (ea_cons (ev_c (v := .int 2)) ea_nil)))) : EvA K a.FC _ σ9 H11 [.lst (ns.map di), di (120 + by_ + 30 * (j : Int)), plainD p, .at (.ref x5), di 2]).go fun vs12 H12 e12 r12 => ?_
        obtain ⟨wS, wP, rfl, qS, qP⟩ : ∃ wS wP, vs12 = [wS, .int (120 + by_ + 30 * (j : Int)), wP, .ref x5, .int 2] ∧ Rep K a.FC H12 (.lst (ns.map di)) wS ∧ Rep K a.FC H12 (plainD p) wP := by
          cases r12 with
          | cons z1 rr => cases rr with
            | cons z2 rr => cases rr with
              | cons z3 rr => cases rr with
                | cons z4 rr => cases rr with
                  | cons z5 rr =>
                    cases rr
                    cases z2.at_inv
                    cases z4.at_inv
                    cases z5.at_inv
                    exact ⟨_, _, rfl, z1, z3⟩
        have I12 := I11.same e12
        refine ⟨ns, _, p, x5, dx, st11, past8 ++ [en], 0, wS, wP, rfl, qS, qP, ok, I12, by omega, tabs_same t11 e12, fun H13 I13 k13 t13 => ⟨true, rfl, ?_⟩⟩
        have k1113 : KeepX [x5] H11 H13 := (KeepX.of e12).trans k13
        exact ⟨st11, past8 ++ [en], I13, l11, ((k8.trans (KeepX.of e9)).trans k911).trans k1113, t13, (R11.rk (I11.rk T k1113)).drop0 4⟩
      · rw [List.length_map, List.length_range]
        rintro σ8 H8 ⟨st8, past8, I8, l8, k8, t8, R8⟩
        have z8 : RK a.FC H6 H8 := (RK.of e7).trans ((I6.same e7).rk T k8)
        -- all is taken back
        have fin : ∀ {σ9 : L2.St} {H9 : Hp}, (∃ st' past', HsI K a p.norm x5 dx st' past' 0 H9 ∧ past'.length ≤ 24 ∧ RK a.FC H6 H9 ∧ Tabs TT H9 ∧ RepE K a.FC H9 [some (.lst (ns.map di)), some (di by_), some (plainD p), some (.at (.ref x5)), none, none] σ9) →
            tCall (spUR K a TT) [] C8.E0 (tCons (tVar 3) (tCons (tC (.int 0)) tNil)) σ9 H9 fun v H10 => v = .bl true ∧ RK a.FC H2 H10 ∧ Tabs TT H10 ∧ RepE K a.FC H10 [some (.lst (ns.map di)), none, none, none, none, none] σ9 := fun {σ9 H9} ⟨st9, past9, I9, l9, z9, t9, R9⟩ => by
          refine (ea_cons (ev_var R9 (n := 3) rfl) (ea_cons (ev_c (v := .int 0)) ea_nil) : EvA K a.FC _ σ9 H9 [.at (.ref x5), .at (.int 0)]).go fun vs10 H10 e10 r10 => ?_
          have ev10 := args2 r10
          subst ev10
          refine ⟨p.norm, x5, dx, st9, past9, 0, rfl, I9.same e10, Nat.zero_le _, l9, tabs_same t9 e10, fun _ H11 e11 => ?_, fun _ past11 e11 H11 ep I11 k11 t11 => ?_⟩
          · have e911 := e10.trans e11
            exact ⟨rfl, z6.trans (z9.trans (RK.of e911)), tabs_same t9 e911, (((R9.mono e911).drop0 1).drop0 2).drop0 3⟩
          · have k911 : KeepX [x5] H9 H11 := (KeepX.of e10).trans k11
            have zz := I9.rk T k911
            exact ⟨rfl, z6.trans (z9.trans zz), t11, (((R9.rk zz).drop0 1).drop0 2).drop0 3⟩
        refine st_seq (st_forZ (K := K) (FC := a.FC) (evz_range (n := 20000) (ea_cons (ev_c (v := .int 20000)) ea_nil) (by decide)) fun H9 e9 => ⟨fun j σ' H' => ∃ st' past', HsI K a p.norm x5 dx st' past' 0 H' ∧ past'.length ≤ 24 ∧ KeepX [x5] H9 H' ∧ Tabs TT H' ∧ RepE K a.FC H' [some (.lst (ns.map di)), some (di by_), some (plainD p), some (.at (.ref x5)), none, none] σ',
          ⟨st8, past8, I8.same e9, by omega, KeepX.refl, tabs_same t8 e9, R8.mono e9⟩, fun i σ' H' ⟨_, _, _, _, kp, _⟩ => kp.frz ((I8.same e9).mut T), ?_, ?_⟩)
        · rintro j dv x10 σ10 H10 H11 hd ⟨st10, past10, I10, l10, k10, t10, R10⟩ e11 rx11
          rw [List.getElem?_map] at hd
          obtain ⟨j', hj', rfl⟩ := Option.map_eq_some_iff.mp hd
          have I11 := I10.same e11
          have t11 := tabs_same t10 e11
          have k11 := k10.trans (KeepX.of e11)
          have R11 : RepE K a.FC H11 [some (.lst (ns.map di)), some (di by_), some (plainD p), some (.at (.ref x5)), none, some (di (j' : Int))] (σ10.set 5 (some x10)) := (R10.mono e11).set (i := 5) rx11
          obtain ⟨σ11, hσ11⟩ : ∃ σ11 : L2.St, σ11 = σ10.set 5 (some x10) := ⟨_, rfl⟩
          show tSeq _ _ _ (σ10.set 5 (some x10)) H11
          rw [← hσ11] at R11 ⊢
          have hgt := et_test (ev_gt (ev_lenH I11 l10 R11 (n := 3) rfl) (ev_c (FC := a.FC) (K := K) (v := .int 0)))
          refine st_seq ?_
          by_cases hp : 0 < past10.length
          · refine st_skip ((et_not hgt).to (by rw [decide_eq_true (show (0 : Int) < (past10.length : Int) by omega)]; rfl)) fun H12 e12 => ?_
            have R12 := R11.mono e12
            show tCall (spUR K a TT) [] C8.E0 (tCons (tVar 3) (tCons (tC (.int 0)) tNil)) σ11 H12 _
            refine (ea_cons (ev_var R12 (n := 3) rfl) (ea_cons (ev_c (v := .int 0)) ea_nil) : EvA K a.FC _ σ11 H12 [.at (.ref x5), .at (.int 0)]).go fun vs13 H13 e13 r13 => ?_
            have ev13 := args2 r13
            subst ev13
            have e1113 := e12.trans e13
            refine ⟨p.norm, x5, dx, st10, past10, 0, rfl, I11.same e1113, Nat.zero_le _, l10, tabs_same t11 e1113, fun z => absurd z (by omega), fun _ past14 e14 H14 ep I14 k14 t14 => ⟨true, rfl, ?_⟩⟩
            have l14 : past14.length + 1 = past10.length := by rw [ep, List.length_append]; rfl
            have k1114 : KeepX [x5] H11 H14 := (KeepX.of e1113).trans k14
            exact ⟨e14.st, past14, I14, by omega, k11.trans k1114, t14, (R11.rk (I11.rk T k1114)).drop0 5⟩
          · refine st_yes ((et_not hgt).to (by rw [decide_eq_false (show ¬ (0 : Int) < (past10.length : Int) by omega)]; rfl)) fun H12 e12 => ?_
            have k912 : KeepX [x5] H9 H12 := k11.trans (KeepX.of e12)
            have h := fin (σ9 := σ11) (H9 := H12) ⟨st10, past10, I11.same e12, l10, z8.trans ((RK.of e9).trans ((I8.same e9).rk T k912)), tabs_same t11 e12, (R11.mono e12).drop0 5⟩
            show tCall (spUR K a TT) [] C8.E0 (tCons (tVar 3) (tCons (tC (.int 0)) tNil)) σ11 H12 _
            exact tCall_mono (fun v H' hv => ⟨true, hv.1, hv.2⟩) h
        · rintro σ10 H10 ⟨st10, past10, I10, l10, k10, t10, R10⟩
          have h := fin (σ9 := σ10) (H9 := H10) ⟨st10, past10, I10, l10, z8.trans ((RK.of e9).trans ((I8.same e9).rk T k10)), t10, R10⟩
          show tCall (spUR K a TT) [] C8.E0 (tCons (tVar 3) (tCons (tC (.int 0)) tNil)) σ10 H10 _
          exact tCall_mono (fun v H' hv => ⟨true, hv.1, hv.2⟩) h
    · rintro σ3 H3 ⟨z3, t3, R3⟩
      exact q H3
end
end T34

/-! Kd30 -/
set_option maxHeartbeats 4000000
namespace T34
open PySem PySem.Spec PyProof.Rows L2
local macro_rules | `(tactic| walk_at "ev") => `(tactic| (first
  | (with_reducible exact ev_c)
  | ((with_reducible refine' ev_var ?R ?h); (case R => assumption); (case h => rfl))
  | (with_reducible refine' ea_cons ?_ ?_)
  | (with_reducible exact ea_nil)
  | (with_reducible refine' ev_add ?_ ?_)
  | (with_reducible refine' ev_sub ?_ ?_)
  | (with_reducible refine' ev_mul ?_ ?_ ?_)
  | (with_reducible refine' ev_mod ?_ ?_ ?_)
  | (with_reducible refine' ev_div ?_ ?_ ?_)
  | (with_reducible refine' ev_lt ?_ ?_)
  | (with_reducible refine' ev_le ?_ ?_)
  | (with_reducible refine' ev_gt ?_ ?_)
  | (with_reducible refine' ev_ge ?_ ?_)
  | (with_reducible refine' ev_int ?_)
  | (with_reducible refine' ev_not ?_)
  | (with_reducible refine' ev_tup ?_)
  | (with_reducible refine' ev_between ?_ ?_ ?_)
  | (with_reducible refine' et_test ?_)
  | (with_reducible refine' et_B ?_)
  | (with_reducible refine' et_not ?_)))
section
variable {P : Program} {w : World} {K : PySem.W.Frag} {mg : Str → Option Value} {base : Heap} {a : Ad} {TT : List (Addr × Str)} {f : Addr} {fd : FuncData}
open LamX (Tabs)
/-! ### Key.__eq__ -/
abbrev s_Key___eq__ : Stmt := inClass (top 29) 3
theorem sc_Key___eq__ : FnScope ["self", "other"] ["self", "other"] (defScope s_Key___eq__) := ⟨rfl, rfl, rfl, by decide +kernel, rfl, by decide +kernel, by decide +kernel⟩
theorem ok_Keq (F : FnP K "__eq__" "Key.__eq__" s_Key___eq__ f fd) (T : Tx K w mg a) : FnOk P w K mg base CX0 1 f fd ["self", "other"] (spKeyEq K a) := by
  refine fnN F sc_Key___eq__ (fun ds Pd h => ?_) (fun cdv A outer s H E hr => ⟨_, (pss_one (ps_ret (pe_and (pe_callB (call_isiK1 (K := K)) (by rfl) T.f_isinstance (by decide +kernel) (pa_cons (pv 1) (pa_cons (C8.pe_gc rfl T.c_Key) pa_nil))) (pe_one (pe_cmpR (op_eqDK (K := K) hr) (pe_fldK (K := K) (pv 0)) (pe_fldK (K := K) (pv 1)) (nomark _)))))), ?_⟩)
  · obtain ⟨l, z, rfl, _⟩ := h
    rfl
  · rintro ds Pd vs Q ⟨l, z, rfl, rfl⟩ R k
    exact st_ret ((ev_and (b := false) (c := false) (ev_isi (d := dz z) (b := false) (ev_var R (n := 1) rfl) (.str _) ev_c (.own _) T.kSK) fun h => nomatch h).to rfl) fun v H1 e1 r1 => k _ v H1 rfl e1 r1
/-! ### all together -/
theorem cal_of {x : Str} {sp : Sp} {k : Nat} {ps : List Str} (F : FnOk P w K mg base CX0 k f fd ps sp) (kp : PySem.W.keepIn K (.ref f) = true) (g : mg x = some (.ref f)) (b : Binds K fd ps []) : C8.Cal P w K mg base k x sp [] := ⟨f, fd, ps, [], F, g, kp, b, .nil⟩
theorem met_of {C : Addr} {x : Str} {sp : Sp} {k : Nat} {ps : List Str} (F : FnOk P w K mg base CX0 k f fd ps sp) (c : Cls K C) (m : Meth K C x f) (b : Binds K fd ps []) : C8.Met P w K mg base k C x sp [] := ⟨f, fd, ps, [], c, m, F, b, .nil⟩
theorem mak_of {C : Addr} {x : Str} {sp : Sp} {k : Nat} {ps : List Str} (F : FnOk P w K mg base CX0 k f fd ps sp) (M : Mk K C f) (g : mg x = some (.ref C)) (b : Binds K fd ps []) : C8.Mak P w K mg base k x C sp [] := ⟨f, fd, ps, [], M, F, g, b, .nil⟩
theorem prp_of {C p : Addr} {x : Str} {sp : Sp} {k : Nat} {ps : List Str} (F : FnOk P w K mg base CX0 k f fd ps sp) (c : Cls K C) (m : PropOf K C x p f) (b : Binds K fd ps []) : Prp P w K mg base k C x sp := ⟨p, f, fd, ps, c, m, F, b⟩
theorem raw_of {sp : Sp} {k : Nat} {ps : List Str} (F : FnOk P w K mg base CX0 k f fd ps sp) (b : Binds K fd ps []) : FnR P w K mg base CX0 k f sp := (F.raw b .nil).imp fun vs H Q E h => by rw [List.append_nil]; exact h
theorem fn_never {CX : CXT} {sp : Sp} {k : Nat} {ps : List Str} (h : ∀ vs H Q E, ¬ sp vs H Q E) : FnOk P w K mg base CX k f fd ps sp := ⟨fun vs H Q E z => (h _ _ _ _ z).elim, fun _ _ _ _ _ _ _ _ _ _ _ _ _ z => (h _ _ _ _ z).elim⟩
theorem fn_or {CX : CXT} {sp1 sp2 sp : Sp} {k : Nat} {ps : List Str} (F1 : FnOk P w K mg base CX k f fd ps sp1) (F2 : FnOk P w K mg base CX k f fd ps sp2) (h : ∀ vs H Q E, sp vs H Q E → sp1 vs H Q E ∨ sp2 vs H Q E) : FnOk P w K mg base CX k f fd ps sp :=
  ⟨fun vs H Q E z => (h _ _ _ _ z).elim (F1.len _ _ _ _) (F2.len _ _ _ _), fun A outer s H args us vs Q E hr e0 b r z => (h _ _ _ _ z).elim (F1.run A outer s H args us vs Q E hr e0 b r) (F2.run A outer s H args us vs Q E hr e0 b r)⟩
/-- one def of the top -/
abbrev GlD (K : PySem.W.Frag) (mg : Str → Option Value) (x : Str) (st : Stmt) : Prop := ∃ f fd, FnP K x x st f fd ∧ mg x = some (.ref f)
abbrev MeD (K : PySem.W.Frag) (C : Addr) (x qual : Str) (st : Stmt) : Prop := ∃ f fd, FnP K x qual st f fd ∧ Meth K C x f
abbrev PrD (K : PySem.W.Frag) (C : Addr) (x qual : Str) (st : Stmt) : Prop := ∃ f fd p, FnP K x qual st f fd ∧ PropOf K C x p f
abbrev MaD (K : PySem.W.Frag) (C : Addr) (qual : Str) (st : Stmt) (dvs : List V) (kws : List (Str × V)) : Prop := ∃ f fd, FunD K "__init__" qual (defArgs st) (defBody st) (defScope st) dvs kws f fd ∧ Mk K C f
structure Al (K : PySem.W.Frag) (mg : Str → Option Value) (a : Ad) (TT : List (Addr × Str)) (dK : V) (cs : List (Addr × Addr)) : Prop where
  is_number : GlD K mg "is_number" s_is_number
  name_of : GlD K mg "name_of" s_name_of
  joined : GlD K mg "joined" s_joined
  every_name : GlD K mg "every_name" s_every_name
  names_for : GlD K mg "names_for" s_names_for
  power : GlD K mg "power" s_power
  is_name : GlD K mg "is_name" s_is_name
  leaves_of : GlD K mg "leaves_of" s_leaves_of
  is_rule : GlD K mg "is_rule" s_is_rule
  is_place : GlD K mg "is_place" s_is_place
  are_drops : GlD K mg "are_drops" s_are_drops
  check_plan : GlD K mg "check_plan" s_check_plan
  check_place : GlD K mg "check_place" s_check_place
  first_of : GlD K mg "first_of" s_first_of
  is_deed : GlD K mg "is_deed" s_is_deed
  reckoned : GlD K mg "reckoned" s_reckoned
  done : GlD K mg "done" s_done
  law_number : GlD K mg "_law_number" s_law_number
  law_grown : GlD K mg "_law_grown" s_law_grown
  law_form : GlD K mg "_law_form" s_law_form
  law_names : GlD K mg "_law_names" s_law_names
  law_rule : GlD K mg "_law_rule" s_law_rule
  law_plain : GlD K mg "_law_plain" s_law_plain
  law_plan : GlD K mg "_law_plan" s_law_plan
  law_deed : GlD K mg "_law_deed" s_law_deed
  law_shot : GlD K mg "_law_shot" s_law_shot
  law_do : GlD K mg "_law_do" s_law_do
  law_undone_right : GlD K mg "_law_undone_right" s_law_undone_right
  law_work : GlD K mg "_law_work" s_law_work
  law_other_right : GlD K mg "_law_other_right" s_law_other_right
  law_within : GlD K mg "_law_within" s_law_within
  Anumber_now : MeD K a.CA "number_now" "Ask.number_now" s_Ask_number_now
  Afits : MeD K a.CA "fits" "Ask.fits" s_Ask_fits
  Aread : MeD K a.CA "read" "Ask.read" s_Ask_read
  Afirst : MeD K a.CA "first_that_fits" "Ask.first_that_fits" s_Ask_first_that_fits
  Hstock : MeD K a.CH "stock" "House.stock" s_House_stock
  Hjournal : MeD K a.CH "journal" "House.journal" s_House_journal
  Hgo : MeD K a.CH "go" "House.go" s_House_go
  Hbill : MeD K a.CH "bill" "House.bill" s_House_bill
  Hbranch : MeD K a.CH "branch" "House.branch" s_House_branch
  Hundo : MeD K a.CH "undo" "House.undo" s_House_undo
  Hatt : MeD K a.CH "attempt" "House.attempt" s_House_attempt
  Rnames : PrD K a.CR "names" "Recipe.names" s_Recipe_names
  Knames : PrD K a.CK "names" "Key.names" s_Key_names
  Pbase : PrD K a.CP "base" "Plan.base" s_Plan_base
  Pfields : PrD K a.CP "fields" "Plan.fields" s_Plan_fields
  Pcells : PrD K a.CP "cells" "Plan.cells" s_Plan_cells
  Pplaces : PrD K a.CP "places" "Plan.places" s_Plan_places
  Pdrops : PrD K a.CP "drops" "Plan.drops" s_Plan_drops
  is_form : ∃ f fd, FunD K "is_form" "is_form" (defArgs s_is_form) (defBody s_is_form) (defScope s_is_form) [.int 0] [] f fd ∧ mg "is_form" = some (.ref f)
  Rinit : MaD K a.CR "Recipe.__init__" s_Recipe___init__ [] []
  Kinit : MaD K a.CK "Key.__init__" s_Key___init__ [dK] []
  Pinit : MaD K a.CP "Plan.__init__" s_Plan___init__ [] [("drops", .non)]
  Ainit : MaD K a.CA "Ask.__init__" s_Ask___init__ [] []
  Hinit : MaD K a.CH "House.__init__" s_House___init__ [] []
  g_Ask : mg "Ask" = some (.ref a.CA)
  g_House : mg "House" = some (.ref a.CH)
  Keq : ∃ f fd, FnP K "__eq__" "Key.__eq__" s_Key___eq__ f fd ∧ PySem.W.findIn K (.ref a.CK) "__eq__" = some (some (.ref f)) ∧ PySem.W.isFn K (.ref f) = true
  Keqn : PySem.W.notFirst K a.CK (.type "str") = true
  Plen : ∃ f fd, FnP K "__len__" "Plan.__len__" s_Plan___len__ f fd ∧ PySem.W.findIn K (.ref a.CP) "__len__" = some (some (.ref f)) ∧ PySem.W.isFn K (.ref f) = true
  Hlen : ∃ f fd, FnP K "__len__" "House.__len__" s_House___len__ f fd ∧ PySem.W.findIn K (.ref a.CH) "__len__" = some (some (.ref f)) ∧ PySem.W.isFn K (.ref f) = true
  Hset : ∃ f fd, FnP K "__setitem__" "House.__setitem__" s_House___setitem__ f fd ∧ PySem.W.findIn K (.ref a.CH) "__setitem__" = some (some (.ref f)) ∧ PySem.W.isFn K (.ref f) = true
  Hsetn : PySem.W.noSeq K a.CH = true
  Hcall : ∃ f fd, FnP K "__call__" "House.__call__" s_House___call__ f fd ∧ StX.CallO K a.CH f
  Aasked : ∃ f fd c P0, FnP K "asked" "Ask.asked" s_Ask_asked f fd ∧ Meth K a.CA "asked" f ∧ fd.code = .ref c ∧ (c, P0) ∈ cs ∧ (P0, qAsked) ∈ TT ∧ ∀ p ∈ TT, p.1 = P0 → p.2 = qAsked
  law_tried : ∃ f fd c P0, FnP K "_law_tried" "_law_tried" s_law_tried f fd ∧ mg "_law_tried" = some (.ref f) ∧ fd.code = .ref c ∧ (c, P0) ∈ cs ∧ (P0, qTried) ∈ TT ∧ ∀ p ∈ TT, p.1 = P0 → p.2 = qTried
  law : GlD K mg "law" s_law
theorem gv_ref {mg : Str → Option Value} {x : Str} {C : Addr} (h : GV mg x (.ref C)) : mg x = some (.ref C) := by
  obtain ⟨u, e, r⟩ := h
  obtain rfl : u = Value.ref C := r
  exact e
theorem all_law {CN : Addr} {dK : V} {cs : List (Addr × Addr)} (T : Tx K w mg a) (N : ExN K mg CN) (L : Al K mg a TT dK cs) (TB : ∀ p ∈ cs, LamX.TabB base mg p.1 p.2) : ∃ f fd, mg "law" = some (.ref f) ∧ FnP K "law" "law" s_law f fd ∧ FnOk P w K mg base CX0 43 f fd ["script"] (spLaw K a TT) := by
  obtain ⟨f_is_number, d_is_number, F_is_number, g_is_number⟩ := L.is_number
  obtain ⟨f_name_of, d_name_of, F_name_of, g_name_of⟩ := L.name_of
  obtain ⟨f_joined, d_joined, F_joined, g_joined⟩ := L.joined
  obtain ⟨f_every_name, d_every_name, F_every_name, g_every_name⟩ := L.every_name
  obtain ⟨f_names_for, d_names_for, F_names_for, g_names_for⟩ := L.names_for
  obtain ⟨f_power, d_power, F_power, g_power⟩ := L.power
  obtain ⟨f_is_name, d_is_name, F_is_name, g_is_name⟩ := L.is_name
  obtain ⟨f_leaves_of, d_leaves_of, F_leaves_of, g_leaves_of⟩ := L.leaves_of
  obtain ⟨f_is_rule, d_is_rule, F_is_rule, g_is_rule⟩ := L.is_rule
  obtain ⟨f_is_place, d_is_place, F_is_place, g_is_place⟩ := L.is_place
  obtain ⟨f_are_drops, d_are_drops, F_are_drops, g_are_drops⟩ := L.are_drops
  obtain ⟨f_check_plan, d_check_plan, F_check_plan, g_check_plan⟩ := L.check_plan
  obtain ⟨f_check_place, d_check_place, F_check_place, g_check_place⟩ := L.check_place
  obtain ⟨f_first_of, d_first_of, F_first_of, g_first_of⟩ := L.first_of
  obtain ⟨f_is_deed, d_is_deed, F_is_deed, g_is_deed⟩ := L.is_deed
  obtain ⟨f_reckoned, d_reckoned, F_reckoned, g_reckoned⟩ := L.reckoned
  obtain ⟨f_done, d_done, F_done, g_done⟩ := L.done
  obtain ⟨f_law_number, d_law_number, F_law_number, g_law_number⟩ := L.law_number
  obtain ⟨f_law_grown, d_law_grown, F_law_grown, g_law_grown⟩ := L.law_grown
  obtain ⟨f_law_form, d_law_form, F_law_form, g_law_form⟩ := L.law_form
  obtain ⟨f_law_names, d_law_names, F_law_names, g_law_names⟩ := L.law_names
  obtain ⟨f_law_rule, d_law_rule, F_law_rule, g_law_rule⟩ := L.law_rule
  obtain ⟨f_law_plain, d_law_plain, F_law_plain, g_law_plain⟩ := L.law_plain
  obtain ⟨f_law_plan, d_law_plan, F_law_plan, g_law_plan⟩ := L.law_plan
  obtain ⟨f_law_deed, d_law_deed, F_law_deed, g_law_deed⟩ := L.law_deed
  obtain ⟨f_law_shot, d_law_shot, F_law_shot, g_law_shot⟩ := L.law_shot
  obtain ⟨f_law_do, d_law_do, F_law_do, g_law_do⟩ := L.law_do
  obtain ⟨f_law_undone_right, d_law_undone_right, F_law_undone_right, g_law_undone_right⟩ := L.law_undone_right
  obtain ⟨f_law_work, d_law_work, F_law_work, g_law_work⟩ := L.law_work
  obtain ⟨f_law_other_right, d_law_other_right, F_law_other_right, g_law_other_right⟩ := L.law_other_right
  obtain ⟨f_law_within, d_law_within, F_law_within, g_law_within⟩ := L.law_within
  obtain ⟨f_Anumber_now, d_Anumber_now, F_Anumber_now, m_Anumber_now⟩ := L.Anumber_now
  obtain ⟨f_Afits, d_Afits, F_Afits, m_Afits⟩ := L.Afits
  obtain ⟨f_Aread, d_Aread, F_Aread, m_Aread⟩ := L.Aread
  obtain ⟨f_Afirst, d_Afirst, F_Afirst, m_Afirst⟩ := L.Afirst
  obtain ⟨f_Hstock, d_Hstock, F_Hstock, m_Hstock⟩ := L.Hstock
  obtain ⟨f_Hjournal, d_Hjournal, F_Hjournal, m_Hjournal⟩ := L.Hjournal
  obtain ⟨f_Hgo, d_Hgo, F_Hgo, m_Hgo⟩ := L.Hgo
  obtain ⟨f_Hbill, d_Hbill, F_Hbill, m_Hbill⟩ := L.Hbill
  obtain ⟨f_Hbranch, d_Hbranch, F_Hbranch, m_Hbranch⟩ := L.Hbranch
  obtain ⟨f_Hundo, d_Hundo, F_Hundo, m_Hundo⟩ := L.Hundo
  obtain ⟨f_Hatt, d_Hatt, F_Hatt, m_Hatt⟩ := L.Hatt
  obtain ⟨f_Rnames, d_Rnames, p_Rnames, F_Rnames, m_Rnames⟩ := L.Rnames
  obtain ⟨f_Knames, d_Knames, p_Knames, F_Knames, m_Knames⟩ := L.Knames
  obtain ⟨f_Pbase, d_Pbase, p_Pbase, F_Pbase, m_Pbase⟩ := L.Pbase
  obtain ⟨f_Pfields, d_Pfields, p_Pfields, F_Pfields, m_Pfields⟩ := L.Pfields
  obtain ⟨f_Pcells, d_Pcells, p_Pcells, F_Pcells, m_Pcells⟩ := L.Pcells
  obtain ⟨f_Pplaces, d_Pplaces, p_Pplaces, F_Pplaces, m_Pplaces⟩ := L.Pplaces
  obtain ⟨f_Pdrops, d_Pdrops, p_Pdrops, F_Pdrops, m_Pdrops⟩ := L.Pdrops
  have c_is_number := cal_of (ok_is_number (P := P) (w := w) (K := K) (mg := mg) (base := base) (a := a) F_is_number T) F_is_number.kp g_is_number (F_is_number.bindsN (fun _ _ _ _ _ _ us hl => match us, hl with | [_, _], _ => rfl))
  have c_name_of := cal_of (ok_name_of (P := P) (w := w) (K := K) (mg := mg) (base := base) (a := a) F_name_of T) F_name_of.kp g_name_of (F_name_of.bindsN (fun _ _ _ _ _ _ us hl => match us, hl with | [_], _ => rfl))
  have c_joined := cal_of (ok_joined (P := P) (w := w) (K := K) (mg := mg) (base := base) (a := a) F_joined T) F_joined.kp g_joined (F_joined.bindsN (fun _ _ _ _ _ _ us hl => match us, hl with | [_, _, _, _], _ => rfl))
  have c_every_name := cal_of (ok_every_name (P := P) (w := w) (K := K) (mg := mg) (base := base) (a := a) F_every_name T) F_every_name.kp g_every_name (F_every_name.bindsN (fun _ _ _ _ _ _ us hl => match us, hl with | [], _ => rfl))
  have c_names_for := cal_of (ok_names_for (P := P) (w := w) (K := K) (mg := mg) (base := base) (a := a) F_names_for T) F_names_for.kp g_names_for (F_names_for.bindsN (fun _ _ _ _ _ _ us hl => match us, hl with | [_, _, _], _ => rfl))
  have c_power := cal_of (ok_power (P := P) (w := w) (K := K) (mg := mg) (base := base) (a := a) F_power T) F_power.kp g_power (F_power.bindsN (fun _ _ _ _ _ _ us hl => match us, hl with | [_, _], _ => rfl))
  have c_is_name := cal_of (ok_is_name (P := P) (w := w) (K := K) (mg := mg) (base := base) (a := a) F_is_name T c_every_name) F_is_name.kp g_is_name (F_is_name.bindsN (fun _ _ _ _ _ _ us hl => match us, hl with | [_], _ => rfl))
  have c_leaves_of := cal_of (ok_leaves_of (P := P) (w := w) (K := K) (mg := mg) (base := base) (a := a) F_leaves_of T g_leaves_of (F_leaves_of.bindsN (fun _ _ _ _ _ _ us hl => match us, hl with | [_], _ => rfl)) 5) F_leaves_of.kp g_leaves_of (F_leaves_of.bindsN (fun _ _ _ _ _ _ us hl => match us, hl with | [_], _ => rfl))
  obtain ⟨f_is_form, d_is_form, F_is_form, g_is_form⟩ := L.is_form
  obtain ⟨ds2, r2, b2⟩ := F_is_form.binds1 (ps := ["form", "deep"]) 2 1 (List.cons_ne_nil _ _) rfl fun T kV doc pm an cdv ct us its h1 h2 => by
      match us, h1, its, h2 with
      | [_, _], _, [_], _ => exact ⟨_, rfl, rfl⟩
  cases r2
  obtain ⟨ds1, r1, b1⟩ := F_is_form.binds1 (ps := ["form", "deep"]) 1 0 (List.cons_ne_nil _ _) rfl fun T kV doc pm an cdv ct us its h1 h2 => by
      match us, h1, its, h2 with
      | [_], _, [_], _ => exact ⟨_, rfl, rfl⟩
  have c_is_form : C8.Cal P w K mg base 7 "is_form" (spN K a.FC (rIsForm 5)) [.int 0] := ⟨f_is_form, d_is_form, _, ds1, ok_is_form (P := P) (w := w) (K := K) (mg := mg) (base := base) (a := a) F_is_form T g_is_form b2 c_is_number 5, g_is_form, F_is_form.kp, b1, r1⟩
  obtain ⟨f_Rinit, d_Rinit, F_Rinit, M_Rinit⟩ := L.Rinit
  have c_Recipe := mak_of (x := "Recipe") (ok_Rinit (P := P) (w := w) (K := K) (mg := mg) (base := base) (a := a) F_Rinit T c_is_form c_leaves_of) M_Rinit (gv_ref T.c_Recipe) (F_Rinit.bindsN (fun _ _ _ _ _ _ us hl => match us, hl with | [_, _], _ => rfl))
  have p_Rnames := prp_of (ok_Rnames (P := P) (w := w) (K := K) (mg := mg) (base := base) (a := a) F_Rnames T c_name_of c_leaves_of c_every_name) T.oR.cl m_Rnames (F_Rnames.bindsN (fun _ _ _ _ _ _ us hl => match us, hl with | [_], _ => rfl))
  obtain ⟨f_Kinit, d_Kinit, F_Kinit, M_Kinit⟩ := L.Kinit
  obtain ⟨ds3, r3, b3⟩ := F_Kinit.binds1 (ps := ["self", "names"]) 2 1 (List.cons_ne_nil _ _) rfl fun T kV doc pm an cdv ct us its h1 h2 => by
      match us, h1, its, h2 with
      | [_, _], _, [_], _ => exact ⟨_, rfl, rfl⟩
  cases r3
  have c_Key := mak_of (x := "Key") (ok_Kinit (P := P) (w := w) (K := K) (mg := mg) (base := base) (a := a) F_Kinit T c_is_name c_every_name) M_Kinit (gv_ref T.c_Key) b3
  have p_Knames := prp_of (ok_Knames (P := P) (w := w) (K := K) (mg := mg) (base := base) (a := a) F_Knames T) T.oK.cl m_Knames (F_Knames.bindsN (fun _ _ _ _ _ _ us hl => match us, hl with | [_], _ => rfl))
  have c_is_rule := cal_of (ok_is_rule (P := P) (w := w) (K := K) (mg := mg) (base := base) (a := a) F_is_rule T p_Knames) F_is_rule.kp g_is_rule (F_is_rule.bindsN (fun _ _ _ _ _ _ us hl => match us, hl with | [_, _], _ => rfl))
  have c_is_place := cal_of (ok_is_place (P := P) (w := w) (K := K) (mg := mg) (base := base) (a := a) F_is_place T p_Rnames c_is_rule c_leaves_of) F_is_place.kp g_is_place (F_is_place.bindsN (fun _ _ _ _ _ _ us hl => match us, hl with | [_, _, _], _ => rfl))
  have c_are_drops := cal_of (ok_are_drops (P := P) (w := w) (K := K) (mg := mg) (base := base) (a := a) F_are_drops T c_is_number) F_are_drops.kp g_are_drops (F_are_drops.bindsN (fun _ _ _ _ _ _ us hl => match us, hl with | [_, _, _], _ => rfl))
  obtain ⟨f_Pinit, d_Pinit, F_Pinit, M_Pinit⟩ := L.Pinit
  obtain ⟨mv, kb⟩ := F_Pinit.kbinds0 (ps := ["self", "base", "fields", "cells", "places", "drops"]) 5 ["drops"] [] (fun vs _ zs => vs ++ zs) (List.cons_ne_nil _ _) (fun q h => nomatch h) (fun r1 _ r2 => r1.append r2) fun D doc pm an cdv ct us mv ws h1 h2 h3 => by
      match us, h1, mv, h2, ws, h3 with
      | [_, _, _, _, _], _, [], _, [_], _ => exact rfl
  have c_Plan : MakN P w K mg base 10 "Plan" a.CP (spI K a.FC a.CP (rPlan a)) 4 ["drops"] := ⟨f_Pinit, d_Pinit, _, _, M_Pinit, ok_Pinit (P := P) (w := w) (K := K) (mg := mg) (base := base) (a := a) F_Pinit T c_is_number c_power c_is_place c_names_for c_are_drops, gv_ref T.c_Plan, kb⟩
  have p_Pbase := prp_of (ok_Pbase (P := P) (w := w) (K := K) (mg := mg) (base := base) (a := a) F_Pbase T) T.oP.cl m_Pbase (F_Pbase.bindsN (fun _ _ _ _ _ _ us hl => match us, hl with | [_], _ => rfl))
  have p_Pfields := prp_of (ok_Pfields (P := P) (w := w) (K := K) (mg := mg) (base := base) (a := a) F_Pfields T) T.oP.cl m_Pfields (F_Pfields.bindsN (fun _ _ _ _ _ _ us hl => match us, hl with | [_], _ => rfl))
  have p_Pcells := prp_of (ok_Pcells (P := P) (w := w) (K := K) (mg := mg) (base := base) (a := a) F_Pcells T) T.oP.cl m_Pcells (F_Pcells.bindsN (fun _ _ _ _ _ _ us hl => match us, hl with | [_], _ => rfl))
  have p_Pplaces := prp_of (ok_Pplaces (P := P) (w := w) (K := K) (mg := mg) (base := base) (a := a) F_Pplaces T) T.oP.cl m_Pplaces (F_Pplaces.bindsN (fun _ _ _ _ _ _ us hl => match us, hl with | [_], _ => rfl))
  have p_Pdrops := prp_of (ok_Pdrops (P := P) (w := w) (K := K) (mg := mg) (base := base) (a := a) F_Pdrops T) T.oP.cl m_Pdrops (F_Pdrops.bindsN (fun _ _ _ _ _ _ us hl => match us, hl with | [_], _ => rfl))
  obtain ⟨f_Plen, d_Plen, F_Plen, n1, n2⟩ := L.Plen
  have c_len : LenP P w K mg base a := ⟨f_Plen, n1, n2, raw_of (ok_Plen (P := P) (w := w) (K := K) (mg := mg) (base := base) (a := a) F_Plen T p_Pplaces) (F_Plen.bindsN (fun _ _ _ _ _ _ us hl => match us, hl with | [_], _ => rfl))⟩
  have c_check_plan := cal_of (ok_check_plan (P := P) (w := w) (K := K) (mg := mg) (base := base) (a := a) F_check_plan T) F_check_plan.kp g_check_plan (F_check_plan.bindsN (fun _ _ _ _ _ _ us hl => match us, hl with | [_], _ => rfl))
  have c_check_place := cal_of (ok_check_place (P := P) (w := w) (K := K) (mg := mg) (base := base) (a := a) F_check_place T c_check_plan c_is_number c_len) F_check_place.kp g_check_place (F_check_place.bindsN (fun _ _ _ _ _ _ us hl => match us, hl with | [_, _], _ => rfl))
  have c_first_of := cal_of (ok_first_of (P := P) (w := w) (K := K) (mg := mg) (base := base) (a := a) F_first_of T p_Pcells c_len) F_first_of.kp g_first_of (F_first_of.bindsN (fun _ _ _ _ _ _ us hl => match us, hl with | [_], _ => rfl))
  have c_is_deed := cal_of (ok_is_deed (P := P) (w := w) (K := K) (mg := mg) (base := base) (a := a) F_is_deed T p_Pcells p_Pbase p_Pfields c_is_number c_len) F_is_deed.kp g_is_deed (F_is_deed.bindsN (fun _ _ _ _ _ _ us hl => match us, hl with | [_, _], _ => rfl))
  obtain ⟨f_Keq, d_Keq, F_Keq, k1, k2⟩ := L.Keq
  have c_keq : EqOwn P w K mg base 2 a.CK (spKeyEq K a) := ⟨⟨f_Keq, k1, k2, (raw_of (ok_Keq (P := P) (w := w) (K := K) (mg := mg) (base := base) (a := a) F_Keq T) (F_Keq.bindsN (fun _ _ _ _ _ _ us hl => match us, hl with | [_, _], _ => rfl))).mono (by decide)⟩, L.Keqn⟩
  obtain ⟨f_as, d_as, cA, PA, F_as, m_as, hcA, hcsA, hTA, huA⟩ := L.Aasked
  have reck : ∀ kc, C8.Cal P w K mg base (kc + 5 + 2) "reckoned" (spReck P w K mg base a.FC kc 5) [] := fun kc => cal_of (ok_reckoned (P := P) (w := w) (K := K) (mg := mg) (base := base) (a := a) F_reckoned T g_reckoned (F_reckoned.bindsN (fun _ _ _ _ _ _ us hl => match us, hl with | [_, _, _], _ => rfl)) c_name_of c_joined kc 5) F_reckoned.kp g_reckoned (F_reckoned.bindsN (fun _ _ _ _ _ _ us hl => match us, hl with | [_, _, _], _ => rfl))
  have chain : ∀ (kA i : Nat), i ≤ 1 → C8.Met P w K mg base kA a.CA "asked" (spLow K a TT i) [] → FnOk P w K mg base CX0 (kA + 11) f_as d_as ["self", "place"] (spAsked K a TT i) := fun kA i hi m0 => by
    have m_now := met_of (ok_number_now (TT := TT) (P := P) (w := w) (K := K) (mg := mg) (base := base) (a := a) hi F_Anumber_now T m0) T.oA.cl m_Anumber_now (F_Anumber_now.bindsN (fun _ _ _ _ _ _ us hl => match us, hl with | [_, _], _ => rfl))
    have m_fit := met_of (ok_fits (TT := TT) (P := P) (w := w) (K := K) (mg := mg) (base := base) (a := a) F_Afits T m_now) T.oA.cl m_Afits (F_Afits.bindsN (fun _ _ _ _ _ _ us hl => match us, hl with | [_, _], _ => rfl))
    have m_rd := met_of (ok_read (TT := TT) (P := P) (w := w) (K := K) (mg := mg) (base := base) (a := a) F_Aread T m_now) T.oA.cl m_Aread (F_Aread.bindsN (fun _ _ _ _ _ _ us hl => match us, hl with | [_, _, _], _ => rfl))
    have m_fst := met_of (ok_first (TT := TT) (P := P) (w := w) (K := K) (mg := mg) (base := base) (a := a) F_Afirst T m_fit) T.oA.cl m_Afirst (F_Afirst.bindsN (fun _ _ _ _ _ _ us hl => match us, hl with | [_, _], _ => rfl))
    exact ok_asked hi F_as T p_Pplaces p_Pbase p_Knames m_now m_fst m_rd (reck (kA + 3)) c_keq (TB _ hcsA) hcA hTA huA
  have as0 := chain 0 0 (by decide) (met_of (ps := ["self", "place"]) (fn_never fun vs H Q E z => absurd z.1 (by decide)) T.oA.cl m_as (F_as.bindsN (fun _ _ _ _ _ _ us hl => match us, hl with | [_, _], _ => rfl)))
  have as1 := chain 11 1 (by decide) (met_of (as0.imp fun vs H Q E z => z.2) T.oA.cl m_as (F_as.bindsN (fun _ _ _ _ _ _ us hl => match us, hl with | [_, _], _ => rfl)))
  have m_asked : C8.Met P w K mg base 22 a.CA "asked" (fun vs H Q E => ∃ i, i ≤ 1 ∧ spAsked K a TT i vs H Q E) [] := met_of (fn_or (as0.mono (by decide)) as1 fun vs H Q E ⟨i, hi, z⟩ => by
    have : i = 0 ∨ i = 1 := by omega
    rcases this with rfl | rfl
    · exact .inl z
    · exact .inr z) T.oA.cl m_as (F_as.bindsN (fun _ _ _ _ _ _ us hl => match us, hl with | [_, _], _ => rfl))
  obtain ⟨f_Ainit, d_Ainit, F_Ainit, M_Ainit⟩ := L.Ainit
  have c_Ask := mak_of (x := "Ask") (ok_Ainit (P := P) (w := w) (K := K) (mg := mg) (base := base) (a := a) F_Ainit T) M_Ainit L.g_Ask (F_Ainit.bindsN (fun _ _ _ _ _ _ us hl => match us, hl with | [_, _, _, _], _ => rfl))
  have c_done := cal_of (ok_done (TT := TT) (P := P) (w := w) (K := K) (mg := mg) (base := base) (a := a) F_done T c_Ask m_asked p_Pdrops (by decide)) F_done.kp g_done (F_done.bindsN (fun _ _ _ _ _ _ us hl => match us, hl with | [_, _, _], _ => rfl))
  have m_go := met_of (ok_Hgo (TT := TT) (P := P) (w := w) (K := K) (mg := mg) (base := base) (a := a) F_Hgo T c_done) T.oH.cl m_Hgo (F_Hgo.bindsN (fun _ _ _ _ _ _ us hl => match us, hl with | [_, _], _ => rfl))
  obtain ⟨f_Hinit, d_Hinit, F_Hinit, M_Hinit⟩ := L.Hinit
  have c_House := mak_of (x := "House") (ok_Hinit (P := P) (w := w) (K := K) (mg := mg) (base := base) (a := a) F_Hinit T c_check_plan c_first_of) M_Hinit L.g_House (F_Hinit.bindsN (fun _ _ _ _ _ _ us hl => match us, hl with | [_, _], _ => rfl))
  obtain ⟨f_Hset, d_Hset, F_Hset, h1, h2⟩ := L.Hset
  have os : SetO P w K mg base 26 a.CH (spSet K a TT) := ⟨f_Hset, h1, h2, L.Hsetn, raw_of (ok_Hset (TT := TT) (P := P) (w := w) (K := K) (mg := mg) (base := base) (a := a) F_Hset T c_is_number p_Pcells p_Pbase m_go (by decide)) (F_Hset.bindsN (fun _ _ _ _ _ _ us hl => match us, hl with | [_, _, _], _ => rfl))⟩
  obtain ⟨f_Hcall, d_Hcall, F_Hcall, hc⟩ := L.Hcall
  have oc : CalO P w K mg base 26 a.CH (spCallH K a TT) := ⟨f_Hcall, hc, raw_of (ok_Hcall (TT := TT) (P := P) (w := w) (K := K) (mg := mg) (base := base) (a := a) F_Hcall T c_check_place c_is_deed m_go (by decide)) (F_Hcall.bindsN (fun _ _ _ _ _ _ us hl => match us, hl with | [_, _, _], _ => rfl))⟩
  obtain ⟨f_Hlen, d_Hlen, F_Hlen, l1, l2⟩ := L.Hlen
  have LK : Looks P w K mg base a := ⟨met_of (ok_Hstock (P := P) (w := w) (K := K) (mg := mg) (base := base) (a := a) F_Hstock T) T.oH.cl m_Hstock (F_Hstock.bindsN (fun _ _ _ _ _ _ us hl => match us, hl with | [_], _ => rfl)), met_of (ok_Hjournal (P := P) (w := w) (K := K) (mg := mg) (base := base) (a := a) F_Hjournal T) T.oH.cl m_Hjournal (F_Hjournal.bindsN (fun _ _ _ _ _ _ us hl => match us, hl with | [_], _ => rfl)), met_of (ok_Hbill (P := P) (w := w) (K := K) (mg := mg) (base := base) (a := a) F_Hbill T c_len) T.oH.cl m_Hbill (F_Hbill.bindsN (fun _ _ _ _ _ _ us hl => match us, hl with | [_], _ => rfl)), ⟨f_Hlen, l1, l2, raw_of (ok_Hlen (P := P) (w := w) (K := K) (mg := mg) (base := base) (a := a) F_Hlen T) (F_Hlen.bindsN (fun _ _ _ _ _ _ us hl => match us, hl with | [_], _ => rfl))⟩⟩
  have h_journal : MetH P w K mg base 1 a.CH "journal" (spLook K a fun _ _ past _ d => d = .lst (past.map jouD)) := ⟨f_Hjournal, d_Hjournal, _, T.oH.cl, m_Hjournal, hot_Hjournal (P := P) (w := w) (K := K) (mg := mg) (base := base) (a := a) F_Hjournal T, F_Hjournal.bindsN (fun _ _ _ _ _ _ us hl => match us, hl with | [_], _ => rfl)⟩
  have m_undo : MetN P w K mg base 2 a.CH "undo" (spUndo K a CN TT) := ⟨f_Hundo, d_Hundo, _, T.oH.cl, m_Hundo, ok_Hundo (TT := TT) (P := P) (w := w) (K := K) (mg := mg) (base := base) (a := a) F_Hundo T N, F_Hundo.bindsN (fun _ _ _ _ _ _ us hl => match us, hl with | [_], _ => rfl)⟩
  have m_branch := met_of (ok_Hbranch (P := P) (w := w) (K := K) (mg := mg) (base := base) (a := a) F_Hbranch T c_House) T.oH.cl m_Hbranch (F_Hbranch.bindsN (fun _ _ _ _ _ _ us hl => match us, hl with | [_], _ => rfl))
  have c_law_number := cal_of (ok_law_number (P := P) (w := w) (K := K) (mg := mg) (base := base) (a := a) F_law_number T) F_law_number.kp g_law_number (F_law_number.bindsN (fun _ _ _ _ _ _ us hl => match us, hl with | [_, _], _ => rfl))
  have c_law_grown := cal_of (ok_law_grown (P := P) (w := w) (K := K) (mg := mg) (base := base) (a := a) F_law_grown T g_law_grown (F_law_grown.bindsN (fun _ _ _ _ _ _ us hl => match us, hl with | [_, _, _], _ => rfl)) 5) F_law_grown.kp g_law_grown (F_law_grown.bindsN (fun _ _ _ _ _ _ us hl => match us, hl with | [_, _, _], _ => rfl))
  have c_law_form := cal_of (ok_law_form (P := P) (w := w) (K := K) (mg := mg) (base := base) (a := a) F_law_form T c_law_number c_law_grown) F_law_form.kp g_law_form (F_law_form.bindsN (fun _ _ _ _ _ _ us hl => match us, hl with | [_, _, _], _ => rfl))
  have c_law_names := cal_of (ok_law_names (P := P) (w := w) (K := K) (mg := mg) (base := base) (a := a) F_law_names T) F_law_names.kp g_law_names (F_law_names.bindsN (fun _ _ _ _ _ _ us hl => match us, hl with | [_, _, _], _ => rfl))
  have c_law_rule := cal_of (ok_law_rule (P := P) (w := w) (K := K) (mg := mg) (base := base) (a := a) F_law_rule T c_law_number) F_law_rule.kp g_law_rule (F_law_rule.bindsN (fun _ _ _ _ _ _ us hl => match us, hl with | [_, _, _], _ => rfl))
  have c_law_plain := cal_of (ok_law_plain (P := P) (w := w) (K := K) (mg := mg) (base := base) (a := a) F_law_plain T c_law_number c_law_form c_law_rule c_law_names) F_law_plain.kp g_law_plain (F_law_plain.bindsN (fun _ _ _ _ _ _ us hl => match us, hl with | [_, _], _ => rfl))
  have c_law_plan := cal_of (ok_law_plan (P := P) (w := w) (K := K) (mg := mg) (base := base) (a := a) F_law_plan T c_Recipe c_Key c_Plan) F_law_plan.kp g_law_plan (F_law_plan.bindsN (fun _ _ _ _ _ _ us hl => match us, hl with | [_], _ => rfl))
  have c_law_deed := cal_of (ok_law_deed (P := P) (w := w) (K := K) (mg := mg) (base := base) (a := a) F_law_deed T c_law_number) F_law_deed.kp g_law_deed (F_law_deed.bindsN (fun _ _ _ _ _ _ us hl => match us, hl with | [_, _, _], _ => rfl))
  have c_law_shot := cal_of (ok_law_shot (P := P) (w := w) (K := K) (mg := mg) (base := base) (a := a) F_law_shot T LK) F_law_shot.kp g_law_shot (F_law_shot.bindsN (fun _ _ _ _ _ _ us hl => match us, hl with | [_], _ => rfl))
  have c_law_do := cal_of (ok_law_do (P := P) (w := w) (K := K) (mg := mg) (base := base) (a := a) (TT := TT) F_law_do T c_law_deed oc os (by decide)) F_law_do.kp g_law_do (F_law_do.bindsN (fun _ _ _ _ _ _ us hl => match us, hl with | [_, _, _, _], _ => rfl))
  have c_law_undone_right := cal_of (ok_law_undone_right (P := P) (w := w) (K := K) (mg := mg) (base := base) (a := a) (TT := TT) F_law_undone_right T LK N m_undo h_journal) F_law_undone_right.kp g_law_undone_right (F_law_undone_right.bindsN (fun _ _ _ _ _ _ us hl => match us, hl with | [_, _], _ => rfl))
  have c_law_other_right := cal_of (ok_law_other_right (P := P) (w := w) (K := K) (mg := mg) (base := base) (a := a) (TT := TT) F_law_other_right T LK c_law_shot c_law_undone_right m_branch) F_law_other_right.kp g_law_other_right (F_law_other_right.bindsN (fun _ _ _ _ _ _ us hl => match us, hl with | [_], _ => rfl))
  obtain ⟨f_tr, d_tr, cT, PT, F_tr, g_tr, hcT, hcsT, hTT, huT⟩ := L.law_tried
  have bT : Binds K d_tr ["script", "at", "plain", "house", "deep"] [] := F_tr.bindsN (fun _ _ _ _ _ _ us hl => match us, hl with | [_, _, _, _, _], _ => rfl)
  have deep : ∀ (d kT : Nat), 27 ≤ kT → C8.Cal P w K mg base kT "_law_tried" (spLess K a TT d) [] → FnOk P w K mg base CX0 (kT + 5) f_tr d_tr ["script", "at", "plain", "house", "deep"] (spTried K a TT d) := fun d kT hk c0 => by
    have c_work := cal_of (ok_law_work (TT := TT) (P := P) (w := w) (K := K) (mg := mg) (base := base) (a := a) F_law_work T c_law_number c_law_undone_right c_law_other_right c_law_do c0 (by omega) hk) F_law_work.kp g_law_work (F_law_work.bindsN (fun _ _ _ _ _ _ us hl => match us, hl with | [_, _, _, _, _, _], _ => rfl))
    have c_within : CalN P w K mg base (kT + 2) "_law_within" (spWithin K a TT CN d) := ⟨f_law_within, d_law_within, _, ok_law_within (TT := TT) (P := P) (w := w) (K := K) (mg := mg) (base := base) (a := a) F_law_within T LK N c_law_number c_work m_undo (by omega), g_law_within, F_law_within.kp, F_law_within.bindsN (fun _ _ _ _ _ _ us hl => match us, hl with | [_, _, _, _, _], _ => rfl)⟩
    exact ok_law_tried (TT := TT) F_tr T LK N c_law_number c_law_shot c_within m_Hatt (ok_Hatt (kc := kT + 3) F_Hatt T (by omega)) (F_Hatt.bindsN (fun _ _ _ _ _ _ us hl => match us, hl with | [_, _], _ => rfl)) (TB _ hcsT) hcT hTT huT (by omega)
  have t0 := deep 0 27 (Nat.le_refl _) (cal_of (ps := ["script", "at", "plain", "house", "deep"]) (fn_never fun vs H Q E ⟨d', z, _⟩ => absurd z (by omega)) F_tr.kp g_tr bT)
  have t1 := deep 1 32 (by decide) (cal_of (t0.imp fun vs H Q E ⟨d', z, q⟩ => by
    have : d' = 0 := by omega
    subst this
    exact q) F_tr.kp g_tr bT)
  have t2 := deep 2 37 (by decide) (cal_of (t1.imp fun vs H Q E ⟨d', z, q⟩ => by
    have : d' = 1 := by omega
    subst this
    exact q) F_tr.kp g_tr bT)
  obtain ⟨f_law, d_law, F_law, g_law⟩ := L.law
  exact ⟨f_law, d_law, g_law, F_law, ok_law (kU := 0) F_law T LK c_law_plain c_law_plan c_House c_law_do (cal_of t2 F_tr.kp g_tr bT) c_law_undone_right (by decide) (by decide)⟩
end
end T34

/-! Ht -/
set_option maxHeartbeats 4000000
namespace T34
open PySem PySem.Spec PyProof.Rows L2
def adOf (K : PySem.W.Frag) : Ad := ⟨He.ga K "Recipe", He.ga K "Key", He.ga K "Plan", He.ga K "Ask", He.ga K "House", He.ga K "NothingDone", He.ga K "LEAVES", He.ga K "JOINS", He.ga K "LETTERS", He.ga K "TRACKED"⟩
def csOf (K : PySem.W.Frag) : List (Addr × Addr) := [He.cT K ("Ask", some "asked"), He.cT K ("_law_tried", none)]
def ttOf (K : PySem.W.Frag) : List (Addr × Str) := [((He.cT K ("Ask", some "asked")).2, qAsked), ((He.cT K ("_law_tried", none)).2, qTried)]
section
variable {K : PySem.W.Frag} {w : World} {h : Heap} {mg : Str → Option Value}
theorem tx_of (X : K.In h) (G : h.Ns mainGlobals mg) (c : SaysY faZ fnZ tsZ tfZ gsZ exY w h K) : Tx K w mg (adOf K) where
  f_len := He.free_ok X G (c.x.t.d.fact 0 (f := He.Fa.free "len") rfl)
  f_int := He.free_ok X G (c.x.t.d.fact 1 (f := He.Fa.free "int") rfl)
  f_str := He.free_ok X G (c.x.t.d.fact 2 (f := He.Fa.free "str") rfl)
  f_bool := He.free_ok X G (c.x.t.d.fact 3 (f := He.Fa.free "bool") rfl)
  f_tuple := He.free_ok X G (c.x.t.d.fact 4 (f := He.Fa.free "tuple") rfl)
  f_list := He.free_ok X G (c.x.t.d.fact 5 (f := He.Fa.free "list") rfl)
  f_all := He.free_ok X G (c.x.t.d.fact 6 (f := He.Fa.free "all") rfl)
  f_sum := He.free_ok X G (c.x.t.d.fact 7 (f := He.Fa.free "sum") rfl)
  f_isinstance := He.free_ok X G (c.x.t.d.fact 8 (f := He.Fa.free "isinstance") rfl)
  f_range := He.free_ok X G (c.x.t.d.fact 9 (f := He.Fa.free "range") rfl)
  f_enumerate := He.free_ok X G (c.x.t.d.fact 10 (f := He.Fa.free "enumerate") rfl)
  f_zip := He.free_ok X G (c.x.t.d.fact 11 (f := He.Fa.free "zip") rfl)
  f_KeyError := He.free_ok X G (c.x.t.d.fact 12 (f := He.Fa.free "KeyError") rfl)
  g_MOST := by
    obtain ⟨t, e⟩ := He.int_ok X G (c.x.t.d.fact 57 (f := He.Fa.int "MOST" 9) rfl)
    exact ⟨_, e, t, rfl⟩
  g_MOST_FIELDS := by
    obtain ⟨t, e⟩ := He.int_ok X G (c.x.t.d.fact 58 (f := He.Fa.int "MOST_FIELDS" 3) rfl)
    exact ⟨_, e, t, rfl⟩
  g_MOST_CELLS := by
    obtain ⟨t, e⟩ := He.int_ok X G (c.x.t.d.fact 59 (f := He.Fa.int "MOST_CELLS" 2) rfl)
    exact ⟨_, e, t, rfl⟩
  g_MOST_PLACES := by
    obtain ⟨t, e⟩ := He.int_ok X G (c.x.t.d.fact 60 (f := He.Fa.int "MOST_PLACES" 3) rfl)
    exact ⟨_, e, t, rfl⟩
  g_MOST_SITUATIONS := by
    obtain ⟨t, e⟩ := He.int_ok X G (c.x.t.d.fact 61 (f := He.Fa.int "MOST_SITUATIONS" 81) rfl)
    exact ⟨_, e, t, rfl⟩
  g_LEAVES := ⟨_, (He.glo_ok X G (c.x.t.d.fact 53 (f := He.Fa.glo "LEAVES") rfl)), rfl⟩
  g_JOINS := ⟨_, (He.glo_ok X G (c.x.t.d.fact 54 (f := He.Fa.glo "JOINS") rfl)), rfl⟩
  g_LETTERS := ⟨_, (He.glo_ok X G (c.x.t.d.fact 55 (f := He.Fa.glo "LETTERS") rfl)), rfl⟩
  g_TRACKED := ⟨_, (He.glo_ok X G (c.x.t.d.fact 56 (f := He.Fa.glo "TRACKED") rfl)), rfl⟩
  c_Recipe := ⟨_, (He.glo_ok X G (c.x.t.d.fact 47 (f := He.Fa.glo "Recipe") rfl)), rfl⟩
  c_Key := ⟨_, (He.glo_ok X G (c.x.t.d.fact 48 (f := He.Fa.glo "Key") rfl)), rfl⟩
  c_Plan := ⟨_, (He.glo_ok X G (c.x.t.d.fact 49 (f := He.Fa.glo "Plan") rfl)), rfl⟩
  d_LEAVES := c.x.t.tab 0
  d_JOINS := c.x.t.tab 1
  d_LETTERS := c.x.t.tab 2
  v_LEAVES := fun q hq => by
    have h := He.valsB_ok (kvs := [("number", .int 3), ("field", .int 3), ("cell", .int 2), ("place", .int 2)]) (exAt c.x.more 11 rfl) (q := (q.1, .int q.2)) (by
      simp only [List.mem_cons, List.not_mem_nil, or_false] at hq ⊢
      rcases hq with rfl | rfl | rfl | rfl <;> simp)
    exact h
  n_LEAVES := fun q hq => He.eqO_ok (List.all_eq_true.mp (exAt c.x.more 14 rfl) q hq)
  v_JOINS := fun q hq => by
    have h := He.valsB_ok (kvs := [("sum", .int 2), ("less", .int 2), ("times", .int 2), ("same", .int 2), ("when", .int 3)]) (exAt c.x.more 12 rfl) (q := (q.1, .int q.2)) (by
      simp only [List.mem_cons, List.not_mem_nil, or_false] at hq ⊢
      rcases hq with rfl | rfl | rfl | rfl | rfl <;> simp)
    exact h
  v_LETTERS := fun q hq => by
    have h := He.valsB_ok (kvs := [("field", .str "f"), ("cell", .str "c"), ("place", .str "p")]) (exAt c.x.more 13 rfl) (q := (q.1, .str q.2)) (by
      simp only [List.mem_cons, List.not_mem_nil, or_false] at hq ⊢
      rcases hq with rfl | rfl | rfl <;> simp)
    exact h
  t_TRACKED := fun H => He.tupB_ok (vs := [.str "reads", .str "shown"]) (exAt c.x.more 15 rfl) H
  oR := ownB_ok (exAt c.x.more 0 rfl) (c.x.t.d.fact 62 (f := He.Fa.cls "Recipe") rfl)
  oK := ownB_ok (exAt c.x.more 1 rfl) (c.x.t.d.fact 64 (f := He.Fa.cls "Key") rfl)
  oP := ownB_ok (exAt c.x.more 2 rfl) (c.x.t.d.fact 66 (f := He.Fa.cls "Plan") rfl)
  oA := ownB_ok (exAt c.x.more 3 rfl) (c.x.t.d.fact 68 (f := He.Fa.cls "Ask") rfl)
  oH := ownB_ok (exAt c.x.more 4 rfl) (c.x.t.d.fact 70 (f := He.Fa.cls "House") rfl)
  kRR := of_decide_eq_true (exAt c.x.more 5 rfl)
  kKK := of_decide_eq_true (exAt c.x.more 6 rfl)
  kPP := of_decide_eq_true (exAt c.x.more 7 rfl)
  kNK := of_decide_eq_true (exAt c.x.more 8 rfl)
  kSK := of_decide_eq_true (exAt c.x.more 9 rfl)
  kKT := of_decide_eq_true (exAt c.x.more 10 rfl)
  nRform := He.noat_ok (c.x.t.d.fact 72 (f := He.Fa.noat "Recipe" "form") rfl)
  nKrow := He.noat_ok (c.x.t.d.fact 73 (f := He.Fa.noat "Key" "row") rfl)
  nPparts := He.noat_ok (c.x.t.d.fact 74 (f := He.Fa.noat "Plan" "parts") rfl)
  nAowner := He.noat_ok (c.x.t.d.fact 75 (f := He.Fa.noat "Ask" "owner") rfl)
  nAsit := He.noat_ok (c.x.t.d.fact 76 (f := He.Fa.noat "Ask" "situation") rfl)
  nAheld := He.noat_ok (c.x.t.d.fact 77 (f := He.Fa.noat "Ask" "held") rfl)
  nAtrace := He.noat_ok (c.x.t.d.fact 78 (f := He.Fa.noat "Ask" "trace") rfl)
  nHsource := He.noat_ok (c.x.t.d.fact 79 (f := He.Fa.noat "House" "source") rfl)
  nHheld := He.noat_ok (c.x.t.d.fact 80 (f := He.Fa.noat "House" "held") rfl)
  nHpast := He.noat_ok (c.x.t.d.fact 81 (f := He.Fa.noat "House" "past") rfl)
  nHfloor := He.noat_ok (c.x.t.d.fact 82 (f := He.Fa.noat "House" "floor") rfl)
  nAF := fun z => by
    rcases z with z | z | z
    · exact of_decide_eq_true (exAt c.x.more 16 rfl) z
    · exact of_decide_eq_true (exAt c.x.more 17 rfl) z
    · exact of_decide_eq_true (exAt c.x.more 18 rfl) z
  nHF := fun z => by
    rcases z with z | z | z
    · exact of_decide_eq_true (exAt c.x.more 19 rfl) z
    · exact of_decide_eq_true (exAt c.x.more 20 rfl) z
    · exact of_decide_eq_true (exAt c.x.more 21 rfl) z
theorem al_of (X : K.In h) (G : h.Ns mainGlobals mg) (c : SaysY faZ fnZ tsZ tfZ gsZ exY w h K) : Al K mg (adOf K) (ttOf K) (.ref (He.dflAt ("Key", some "__init__") 0 K)) (csOf K) where
  is_number := by
    obtain ⟨fd, F⟩ := c.x.t.d.def_ 0
    exact ⟨_, fd, F, (He.glo_ok X G (c.x.t.d.fact 13 (f := He.Fa.glo "is_number") rfl))⟩
  name_of := by
    obtain ⟨fd, F⟩ := c.x.t.d.def_ 1
    exact ⟨_, fd, F, (He.glo_ok X G (c.x.t.d.fact 14 (f := He.Fa.glo "name_of") rfl))⟩
  joined := by
    obtain ⟨fd, F⟩ := c.x.t.d.def_ 2
    exact ⟨_, fd, F, (He.glo_ok X G (c.x.t.d.fact 15 (f := He.Fa.glo "joined") rfl))⟩
  every_name := by
    obtain ⟨fd, F⟩ := c.x.t.d.def_ 3
    exact ⟨_, fd, F, (He.glo_ok X G (c.x.t.d.fact 16 (f := He.Fa.glo "every_name") rfl))⟩
  names_for := by
    obtain ⟨fd, F⟩ := c.x.t.d.def_ 4
    exact ⟨_, fd, F, (He.glo_ok X G (c.x.t.d.fact 17 (f := He.Fa.glo "names_for") rfl))⟩
  power := by
    obtain ⟨fd, F⟩ := c.x.t.d.def_ 5
    exact ⟨_, fd, F, (He.glo_ok X G (c.x.t.d.fact 18 (f := He.Fa.glo "power") rfl))⟩
  is_name := by
    obtain ⟨fd, F⟩ := c.x.t.d.def_ 6
    exact ⟨_, fd, F, (He.glo_ok X G (c.x.t.d.fact 19 (f := He.Fa.glo "is_name") rfl))⟩
  leaves_of := by
    obtain ⟨fd, F⟩ := c.x.t.d.def_ 7
    exact ⟨_, fd, F, (He.glo_ok X G (c.x.t.d.fact 20 (f := He.Fa.glo "leaves_of") rfl))⟩
  is_rule := by
    obtain ⟨fd, F⟩ := c.x.t.d.def_ 8
    exact ⟨_, fd, F, (He.glo_ok X G (c.x.t.d.fact 21 (f := He.Fa.glo "is_rule") rfl))⟩
  is_place := by
    obtain ⟨fd, F⟩ := c.x.t.d.def_ 9
    exact ⟨_, fd, F, (He.glo_ok X G (c.x.t.d.fact 22 (f := He.Fa.glo "is_place") rfl))⟩
  are_drops := by
    obtain ⟨fd, F⟩ := c.x.t.d.def_ 10
    exact ⟨_, fd, F, (He.glo_ok X G (c.x.t.d.fact 23 (f := He.Fa.glo "are_drops") rfl))⟩
  check_plan := by
    obtain ⟨fd, F⟩ := c.x.t.d.def_ 11
    exact ⟨_, fd, F, (He.glo_ok X G (c.x.t.d.fact 24 (f := He.Fa.glo "check_plan") rfl))⟩
  check_place := by
    obtain ⟨fd, F⟩ := c.x.t.d.def_ 12
    exact ⟨_, fd, F, (He.glo_ok X G (c.x.t.d.fact 25 (f := He.Fa.glo "check_place") rfl))⟩
  first_of := by
    obtain ⟨fd, F⟩ := c.x.t.d.def_ 13
    exact ⟨_, fd, F, (He.glo_ok X G (c.x.t.d.fact 26 (f := He.Fa.glo "first_of") rfl))⟩
  is_deed := by
    obtain ⟨fd, F⟩ := c.x.t.d.def_ 14
    exact ⟨_, fd, F, (He.glo_ok X G (c.x.t.d.fact 27 (f := He.Fa.glo "is_deed") rfl))⟩
  reckoned := by
    obtain ⟨fd, F⟩ := c.x.t.d.def_ 15
    exact ⟨_, fd, F, (He.glo_ok X G (c.x.t.d.fact 28 (f := He.Fa.glo "reckoned") rfl))⟩
  done := by
    obtain ⟨fd, F⟩ := c.x.t.d.def_ 16
    exact ⟨_, fd, F, (He.glo_ok X G (c.x.t.d.fact 29 (f := He.Fa.glo "done") rfl))⟩
  law_number := by
    obtain ⟨fd, F⟩ := c.x.t.d.def_ 17
    exact ⟨_, fd, F, (He.glo_ok X G (c.x.t.d.fact 30 (f := He.Fa.glo "_law_number") rfl))⟩
  law_grown := by
    obtain ⟨fd, F⟩ := c.x.t.d.def_ 18
    exact ⟨_, fd, F, (He.glo_ok X G (c.x.t.d.fact 31 (f := He.Fa.glo "_law_grown") rfl))⟩
  law_form := by
    obtain ⟨fd, F⟩ := c.x.t.d.def_ 19
    exact ⟨_, fd, F, (He.glo_ok X G (c.x.t.d.fact 32 (f := He.Fa.glo "_law_form") rfl))⟩
  law_names := by
    obtain ⟨fd, F⟩ := c.x.t.d.def_ 20
    exact ⟨_, fd, F, (He.glo_ok X G (c.x.t.d.fact 33 (f := He.Fa.glo "_law_names") rfl))⟩
  law_rule := by
    obtain ⟨fd, F⟩ := c.x.t.d.def_ 21
    exact ⟨_, fd, F, (He.glo_ok X G (c.x.t.d.fact 34 (f := He.Fa.glo "_law_rule") rfl))⟩
  law_plain := by
    obtain ⟨fd, F⟩ := c.x.t.d.def_ 22
    exact ⟨_, fd, F, (He.glo_ok X G (c.x.t.d.fact 35 (f := He.Fa.glo "_law_plain") rfl))⟩
  law_plan := by
    obtain ⟨fd, F⟩ := c.x.t.d.def_ 23
    exact ⟨_, fd, F, (He.glo_ok X G (c.x.t.d.fact 36 (f := He.Fa.glo "_law_plan") rfl))⟩
  law_deed := by
    obtain ⟨fd, F⟩ := c.x.t.d.def_ 24
    exact ⟨_, fd, F, (He.glo_ok X G (c.x.t.d.fact 37 (f := He.Fa.glo "_law_deed") rfl))⟩
  law_shot := by
    obtain ⟨fd, F⟩ := c.x.t.d.def_ 25
    exact ⟨_, fd, F, (He.glo_ok X G (c.x.t.d.fact 38 (f := He.Fa.glo "_law_shot") rfl))⟩
  law_do := by
    obtain ⟨fd, F⟩ := c.x.t.d.def_ 26
    exact ⟨_, fd, F, (He.glo_ok X G (c.x.t.d.fact 39 (f := He.Fa.glo "_law_do") rfl))⟩
  law_undone_right := by
    obtain ⟨fd, F⟩ := c.x.t.d.def_ 27
    exact ⟨_, fd, F, (He.glo_ok X G (c.x.t.d.fact 40 (f := He.Fa.glo "_law_undone_right") rfl))⟩
  law_work := by
    obtain ⟨fd, F⟩ := c.x.t.d.def_ 28
    exact ⟨_, fd, F, (He.glo_ok X G (c.x.t.d.fact 41 (f := He.Fa.glo "_law_work") rfl))⟩
  law_other_right := by
    obtain ⟨fd, F⟩ := c.x.t.d.def_ 29
    exact ⟨_, fd, F, (He.glo_ok X G (c.x.t.d.fact 42 (f := He.Fa.glo "_law_other_right") rfl))⟩
  law_within := by
    obtain ⟨fd, F⟩ := c.x.t.d.def_ 30
    exact ⟨_, fd, F, (He.glo_ok X G (c.x.t.d.fact 43 (f := He.Fa.glo "_law_within") rfl))⟩
  law := by
    obtain ⟨fd, F⟩ := c.x.t.d.def_ 32
    exact ⟨_, fd, F, (He.glo_ok X G (c.x.t.d.fact 46 (f := He.Fa.glo "law") rfl))⟩
  Anumber_now := by
    obtain ⟨fd, F⟩ := c.x.t.d.def_ 34
    exact ⟨_, fd, F, He.meth_ok (c.x.t.d.fact 83 (f := He.Fa.meth "Ask" "number_now") rfl)⟩
  Afits := by
    obtain ⟨fd, F⟩ := c.x.t.d.def_ 35
    exact ⟨_, fd, F, He.meth_ok (c.x.t.d.fact 84 (f := He.Fa.meth "Ask" "fits") rfl)⟩
  Aread := by
    obtain ⟨fd, F⟩ := c.x.t.d.def_ 36
    exact ⟨_, fd, F, He.meth_ok (c.x.t.d.fact 85 (f := He.Fa.meth "Ask" "read") rfl)⟩
  Afirst := by
    obtain ⟨fd, F⟩ := c.x.t.d.def_ 37
    exact ⟨_, fd, F, He.meth_ok (c.x.t.d.fact 86 (f := He.Fa.meth "Ask" "first_that_fits") rfl)⟩
  Hstock := by
    obtain ⟨fd, F⟩ := c.x.t.d.def_ 38
    exact ⟨_, fd, F, He.meth_ok (c.x.t.d.fact 87 (f := He.Fa.meth "House" "stock") rfl)⟩
  Hjournal := by
    obtain ⟨fd, F⟩ := c.x.t.d.def_ 39
    exact ⟨_, fd, F, He.meth_ok (c.x.t.d.fact 88 (f := He.Fa.meth "House" "journal") rfl)⟩
  Hgo := by
    obtain ⟨fd, F⟩ := c.x.t.d.def_ 40
    exact ⟨_, fd, F, He.meth_ok (c.x.t.d.fact 89 (f := He.Fa.meth "House" "go") rfl)⟩
  Hbill := by
    obtain ⟨fd, F⟩ := c.x.t.d.def_ 41
    exact ⟨_, fd, F, He.meth_ok (c.x.t.d.fact 90 (f := He.Fa.meth "House" "bill") rfl)⟩
  Hbranch := by
    obtain ⟨fd, F⟩ := c.x.t.d.def_ 42
    exact ⟨_, fd, F, He.meth_ok (c.x.t.d.fact 91 (f := He.Fa.meth "House" "branch") rfl)⟩
  Hundo := by
    obtain ⟨fd, F⟩ := c.x.t.d.def_ 43
    exact ⟨_, fd, F, He.meth_ok (c.x.t.d.fact 92 (f := He.Fa.meth "House" "undo") rfl)⟩
  Hatt := by
    obtain ⟨fd, F⟩ := c.x.t.d.def_ 44
    exact ⟨_, fd, F, He.meth_ok (c.x.t.d.fact 93 (f := He.Fa.meth "House" "attempt") rfl)⟩
  Rnames := by
    obtain ⟨fd, F⟩ := c.getter 0
    exact ⟨_, fd, _, F, prpB_ok (exAt c.x.more 31 rfl)⟩
  Knames := by
    obtain ⟨fd, F⟩ := c.getter 1
    exact ⟨_, fd, _, F, prpB_ok (exAt c.x.more 32 rfl)⟩
  Pbase := by
    obtain ⟨fd, F⟩ := c.getter 2
    exact ⟨_, fd, _, F, prpB_ok (exAt c.x.more 33 rfl)⟩
  Pfields := by
    obtain ⟨fd, F⟩ := c.getter 3
    exact ⟨_, fd, _, F, prpB_ok (exAt c.x.more 34 rfl)⟩
  Pcells := by
    obtain ⟨fd, F⟩ := c.getter 4
    exact ⟨_, fd, _, F, prpB_ok (exAt c.x.more 35 rfl)⟩
  Pplaces := by
    obtain ⟨fd, F⟩ := c.getter 5
    exact ⟨_, fd, _, F, prpB_ok (exAt c.x.more 36 rfl)⟩
  Pdrops := by
    obtain ⟨fd, F⟩ := c.getter 6
    exact ⟨_, fd, _, F, prpB_ok (exAt c.x.more 37 rfl)⟩
  is_form := by
    obtain ⟨fd, F⟩ := c.x.t.d.def_ 33
    exact ⟨_, fd, F, (He.glo_ok X G (c.x.t.d.fact 44 (f := He.Fa.glo "is_form") rfl))⟩
  Rinit := by
    obtain ⟨fd, F⟩ := c.x.t.d.def_ 51
    exact ⟨_, fd, F, He.mkr_ok (c.x.t.d.fact 63 (f := He.Fa.mkr "Recipe") rfl)⟩
  Kinit := by
    obtain ⟨fd, F⟩ := c.x.t.d.def_ 52
    exact ⟨_, fd, F, He.mkr_ok (c.x.t.d.fact 65 (f := He.Fa.mkr "Key") rfl)⟩
  Pinit := by
    obtain ⟨fd, F⟩ := c.x.t.d.def_ 53
    exact ⟨_, fd, F, He.mkr_ok (c.x.t.d.fact 67 (f := He.Fa.mkr "Plan") rfl)⟩
  Ainit := by
    obtain ⟨fd, F⟩ := c.x.t.d.def_ 54
    exact ⟨_, fd, F, He.mkr_ok (c.x.t.d.fact 69 (f := He.Fa.mkr "Ask") rfl)⟩
  Hinit := by
    obtain ⟨fd, F⟩ := c.x.t.d.def_ 55
    exact ⟨_, fd, F, He.mkr_ok (c.x.t.d.fact 71 (f := He.Fa.mkr "House") rfl)⟩
  g_Ask := (He.glo_ok X G (c.x.t.d.fact 50 (f := He.Fa.glo "Ask") rfl))
  g_House := (He.glo_ok X G (c.x.t.d.fact 51 (f := He.Fa.glo "House") rfl))
  Keq := by
    obtain ⟨fd, F⟩ := c.x.t.d.def_ 46
    exact ⟨_, fd, F, (spcB_ok (exAt c.x.more 23 rfl)).1, (spcB_ok (exAt c.x.more 23 rfl)).2⟩
  Plen := by
    obtain ⟨fd, F⟩ := c.x.t.d.def_ 47
    exact ⟨_, fd, F, (spcB_ok (exAt c.x.more 24 rfl)).1, (spcB_ok (exAt c.x.more 24 rfl)).2⟩
  Hlen := by
    obtain ⟨fd, F⟩ := c.x.t.d.def_ 48
    exact ⟨_, fd, F, (spcB_ok (exAt c.x.more 25 rfl)).1, (spcB_ok (exAt c.x.more 25 rfl)).2⟩
  Hset := by
    obtain ⟨fd, F⟩ := c.x.t.d.def_ 49
    exact ⟨_, fd, F, (spcB_ok (exAt c.x.more 26 rfl)).1, (spcB_ok (exAt c.x.more 26 rfl)).2⟩
  Keqn := (exAt c.x.more 28 rfl)
  Hsetn := (exAt c.x.more 29 rfl)
  Hcall := by
    obtain ⟨fd, F⟩ := c.x.t.d.def_ 50
    exact ⟨_, fd, F, (spcB_ok (exAt c.x.more 27 rfl)).1, (spcB_ok (exAt c.x.more 27 rfl)).2, (exAt c.x.more 30 rfl)⟩
  Aasked := by
    obtain ⟨fd, F⟩ := c.x.t.d.def_ 45
    obtain ⟨oc, od, dV, kV, doc, pm, an, cdv, ct, osl, efd, lk, hcd, _⟩ := F.ex
    obtain ⟨cc, ec⟩ := He.codeIn_ref hcd
    have e : fd.code = .ref cc := by rw [efd]; exact ec
    have k := He.codeOf_eq lk e
    exact ⟨_, fd, cc, _, F, He.meth_ok (c.x.t.d.fact 94 (f := He.Fa.meth "Ask" "asked") rfl), e, by rw [← k]; exact List.mem_cons_self, List.mem_cons_self, fun p hp hq => by
      simp only [ttOf, List.mem_cons, List.not_mem_nil, or_false] at hp
      rcases hp with rfl | rfl
      · rfl
      · exact absurd hq.symm (of_decide_eq_true (exAt c.x.more 38 rfl))⟩
  law_tried := by
    obtain ⟨fd, F⟩ := c.x.t.d.def_ 31
    obtain ⟨oc, od, dV, kV, doc, pm, an, cdv, ct, osl, efd, lk, hcd, _⟩ := F.ex
    obtain ⟨cc, ec⟩ := He.codeIn_ref hcd
    have e : fd.code = .ref cc := by rw [efd]; exact ec
    have k := He.codeOf_eq lk e
    exact ⟨_, fd, cc, _, F, (He.glo_ok X G (c.x.t.d.fact 45 (f := He.Fa.glo "_law_tried") rfl)), e, by rw [← k]; exact List.mem_cons_of_mem _ List.mem_cons_self, List.mem_cons_of_mem _ List.mem_cons_self, fun p hp hq => by
      simp only [ttOf, List.mem_cons, List.not_mem_nil, or_false] at hp
      rcases hp with rfl | rfl
      · exact absurd hq (of_decide_eq_true (exAt c.x.more 38 rfl))
      · rfl⟩
theorem ex_of (X : K.In h) (G : h.Ns mainGlobals mg) (c : SaysY faZ fnZ tsZ tfZ gsZ exY w h K) : ExN K mg (He.ga K "NothingDone") := by
  obtain ⟨h1, h2, h3, h4⟩ := He.exc_ok (c.x.t.d.fact 95 (f := He.Fa.exc "NothingDone") rfl)
  exact ⟨(He.glo_ok X G (c.x.t.d.fact 52 (f := He.Fa.glo "NothingDone") rfl)), h2, ⟨_, _, _, _, PySem.F.excBase_ValueError, h1⟩, h3, h4, He.exm_ok (c.x.t.d.fact 96 (f := He.Fa.exm "NothingDone" "NothingDone" true) rfl), of_decide_eq_true (exAt c.x.more 22 rfl)⟩
end
end T34

/-! Hz -/
set_option maxHeartbeats 0
namespace T34
open PySem PySem.Spec PyProof.Rows L2
theorem law_at {w : World} {K : PySem.W.Frag} {mg : Str → Option Value} {fa : Addr} {h : Heap} (X : K.In h) (G : h.Ns mainGlobals mg) (c : SaysY faZ fnZ tsZ tfZ gsZ exY w h K) (hmg : mg "law" = some (.ref fa)) : LamX.LawAtS PySem.Challenge.rw_shortkeys_k34_whole_trials w K CX0 43 63 "script" mg fa h := by
  obtain ⟨fl, dl, F, gl⟩ := (al_of X G c).law
  rw [hmg] at gl
  cases gl
  have mem : ∀ p ∈ csOf K, ∃ q ∈ tfZ, p = He.cT K q := fun p hp => by
    simp only [csOf, List.mem_cons, List.not_mem_nil, or_false] at hp
    rcases hp with rfl | rfl
    · exact ⟨_, List.mem_cons_self, rfl⟩
    · exact ⟨_, List.mem_cons_of_mem _ List.mem_cons_self, rfl⟩
  refine ⟨dl, csOf K, spLaw K (adOf K) (ttOf K), fun p hp => ?_, fun p hp => ?_, fun p hp => ?_, fun s u => ?_, fun H sc ns _ _ hT hS => ?_, fun base XB GB TB => ?_⟩
  · obtain ⟨q, hq, rfl⟩ := mem p hp
    exact c.x.empty q hq
  · obtain ⟨q, hq, rfl⟩ := mem p hp
    exact c.x.out q hq
  · obtain ⟨q, hq, rfl⟩ := mem p hp
    exact PySem.W.codeHd_of_K X (c.x.hd q hq)
  · exact FunD.bindsA (ps := ["script"]) F (fun _ _ _ _ _ _ us hl => match us, hl with | [_], _ => rfl) s [u] rfl
  · refine ⟨sc, ns, rfl, hS, fun p hp => ?_, fun _ => rfl⟩
    simp only [ttOf, List.mem_cons, List.not_mem_nil, or_false] at hp
    rcases hp with rfl | rfl
    · exact ⟨#[], hT _ List.mem_cons_self, trivial, fun pos cv hc => by cases hc⟩
    · exact ⟨#[], hT _ (List.mem_cons_of_mem _ List.mem_cons_self), trivial, fun pos cv hc => by cases hc⟩
  · obtain ⟨f', d', g', F', ok⟩ := all_law (P := PySem.Challenge.rw_shortkeys_k34_whole_trials.prog) (base := base) (tx_of X G c) (ex_of X G c) (al_of X G c) TB
    rw [hmg] at g'
    cases g'
    have e : dl = d' := by
      obtain ⟨oc, od, dV, kV, doc, pm, an, cdv, ct, osl, _, lk, _⟩ := F.ex
      obtain ⟨oc', od', dV', kV', doc', pm', an', cdv', ct', osl', _, lk', _⟩ := F'.ex
      rw [lk] at lk'
      cases lk'
      rfl
    rw [e]
    exact ok
end T34
open PySem PySem.W PySem.Calls PyProof.Rows
theorem PySem.Challenge.cw_shortkeys_k34_whole_trials_holds : PySem.Challenge.rw_shortkeys_k34_whole_trials.Holds := by
  w_on; o_law
  refine HandSHeadRun.head_any (r := OpenLaw.row PySem.Challenge.rw_shortkeys_k34_whole_trials) (q := view (OpenLaw.row PySem.Challenge.rw_shortkeys_k34_whole_trials).prog [64]) (H := T34.hkY) (ob := T34.obR) (M := 8000) (loose := T34.loose) (d := HandSHeadRun.topDef (OpenLaw.row PySem.Challenge.rw_shortkeys_k34_whole_trials).prog 64) (kwd := []) T34.obR_eq
    (by kernel_rfl) (fun s => by kernel_rfl) T34.runR (by kernel_rfl) (by kernel_rfl) (by kernel_rfl) (by rfl) (by first | assumption | decide +kernel) (by decide +kernel) ⟨rfl, rfl, rfl, rfl, rfl, by decide +kernel⟩ ?hw ?hc
  case hw => w_witness2
  case hc =>
    refine LamX.walk_ofTsE (l := PySem.Challenge.rw_shortkeys_k34_whole_trials) (n := 63) (k := 43) (x := "script") (CX := fun _ => L2.CX0) rfl (by decide) (by kernel_rfl) ⟨rfl, by decide, by decide⟩ ?F (fun _ _ _ _ _ z => z)
    intro w mg fa h Y G hmg0
    obtain ⟨K, KX, c⟩ := Y
    have hmg : mg ("law" : PySem.Str) = some (.ref fa) := by
      have e : (HandSHeadRun.topDef (OpenLaw.row PySem.Challenge.rw_shortkeys_k34_whole_trials).prog 64).name = ("law" : PySem.Str) := by kernel_rfl
      rw [← e]
      exact hmg0
    exact ⟨K, KX, T34.law_at KX G c hmg⟩

