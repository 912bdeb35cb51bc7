import PyProof.Rows.All
import Wide.All
import OpenK.AllK
import Wide.FinOn
import HandS.ForMost
import HandS.TupAny
import HandS.Wide
import HandS.IsInst
import HandS.More
import HandS.Small
import HandS.DictComp
import KE.SortData
import PySem.Challenge.RW_howhigh_k23_whole_full_runs_take_ways_in
import HandS.HeadEnd
import HandS.Head2
import HandS.HeadHook4
import KE.GoesEnum
import KE.GoesMore
import HandS.Text
import PyProof.AutoSeq1
import HandS.ExcOwn
import HandS.WordsExc
import HandS.TryOnly
import PyProof.Rows.RuleB_pow
import HandS.SortOrd
import KE.KDictKeyed
import HandS.DeepEq
import KE.KEqNest
import PyProof.Rows.StrMeet
set_option Elab.async false
set_option linter.all false
set_option maxRecDepth 100000
set_option autoImplicit false
set_option maxHeartbeats 0
section
namespace DL
open PySem L2

/-- data: as Python's values, without addresses, but for adr (an object that is owned, and so may change) -/
inductive D where
  | non | bl (b : Bool) | int (i : Int) | str (s : Str) | adr (a : Addr)
  | ty (n : String) | tup (ds : List D) | lst (ds : List D) | sq (ds : List D) | dct (kvs : List (Str × D)) | ins (C : Addr) (fs : List (Str × D)) | ext (phGr : Heap → Prop)
  /-- a thing by what is true of its one object, and things it leans on -/
  | exb (phGr : Heap → Prop) (ks : List (Addr × D))

section
variable (K : PySem.W.Frag) (B : Hp)
mutual
inductive Rep : V → D → Prop
  | non : Rep .non .non
  | bl (b : Bool) : Rep (.bl b) (.bl b)
  | int (i : Int) : Rep (.int i) (.int i)
  | str (s : Str) : Rep (.str s) (.str s)
  | adr (a : Addr) : Rep (.ref a) (.adr a)
  | ty (n : String) : Rep (.ty n) (.ty n)
  | tup {a : Addr} {vs : List V} {ds : List D} (h : SqT K B a vs) (r : Reps vs ds) : Rep (.ref a) (.tup ds)
  | lst {a : Addr} {vs : List V} {ds : List D} (h : B a = some (.lst vs)) (r : Reps vs ds) : Rep (.ref a) (.lst ds)
  | sq {a : Addr} {vs : List V} {ds : List D} (h : SqL K B a vs) (r : Reps vs ds) : Rep (.ref a) (.sq ds)
  | dct {a : Addr} {ws : List (Key × V)} {kvs : List (Str × D)} (h : B a = some (.dK ws)) (r : RepK ws kvs) : Rep (.ref a) (.dct kvs)
  | ins {a C dx : Addr} {ws : List (Str × V)} {fs : List (Str × D)} (h : B a = some (.ins C dx ws)) (r : RepF ws fs) : Rep (.ref a) (.ins C fs)
  | ext {a : Addr} {phGr : Heap → Prop} (h : B a = some (.ext phGr)) : Rep (.ref a) (.ext phGr)
  | exb {a : Addr} {phGr : Heap → Prop} {ks : List (Addr × D)} (h : B a = some (.ext phGr)) : Rep (.ref a) (.exb phGr ks)
inductive Reps : List V → List D → Prop
  | nil : Reps [] []
  | cons {v : V} {d : D} {vs : List V} {ds : List D} (r : Rep v d) (t : Reps vs ds) : Reps (v :: vs) (d :: ds)
inductive RepK : List (Key × V) → List (Str × D) → Prop
  | nil : RepK [] []
  | cons {x : Str} {v : V} {d : D} {vs : List (Key × V)} {ds : List (Str × D)} (r : Rep v d) (t : RepK vs ds) : RepK ((.inr x, v) :: vs) ((x, d) :: ds)
inductive RepF : List (Str × V) → List (Str × D) → Prop
  | nil : RepF [] []
  | cons {x : Str} {v : V} {d : D} {vs : List (Str × V)} {ds : List (Str × D)} (r : Rep v d) (t : RepF vs ds) : RepF ((x, v) :: vs) ((x, d) :: ds)
end
end
section
variable {K : PySem.W.Frag} {B B' : Hp}
theorem sqT_mono {a : Addr} {vs : List V} (e : Same B B') (h : SqT K B a vs) : SqT K B' a vs := by
  rcases h with (h | ⟨o, h⟩) | h
  · exact .inl (.inl (e _ _ h))
  · exact .inl (.inr ⟨o, e _ _ h⟩)
  · exact .inr h
mutual
theorem Rep.mono (e : Same B B') : ∀ {v : V} {d : D}, Rep K B v d → Rep K B' v d
  | _, _, .non => .non
  | _, _, .bl b => .bl b
  | _, _, .int b => .int b
  | _, _, .str b => .str b
  | _, _, .adr b => .adr b
  | _, _, .ty b => .ty b
  | _, _, .tup h r => .tup (sqT_mono e h) (Reps.mono e r)
  | _, _, .lst h r => .lst (e _ _ h) (Reps.mono e r)
  | _, _, .sq h r => .sq (e.seq h) (Reps.mono e r)
  | _, _, .dct h r => .dct (e _ _ h) (RepK.mono e r)
  | _, _, .ins h r => .ins (e _ _ h) (RepF.mono e r)
  | _, _, .ext h => .ext (e _ _ h)
  | _, _, .exb h => .exb (e _ _ h)
theorem Reps.mono (e : Same B B') : ∀ {v : List V} {d : List D}, Reps K B v d → Reps K B' v d
  | _, _, .nil => .nil
  | _, _, .cons r t => .cons (Rep.mono e r) (Reps.mono e t)
theorem RepK.mono (e : Same B B') : ∀ {v : List (Key × V)} {d : List (Str × D)}, RepK K B v d → RepK K B' v d
  | _, _, .nil => .nil
  | _, _, .cons r t => .cons (Rep.mono e r) (RepK.mono e t)
theorem RepF.mono (e : Same B B') : ∀ {v : List (Str × V)} {d : List (Str × D)}, RepF K B v d → RepF K B' v d
  | _, _, .nil => .nil
  | _, _, .cons r t => .cons (Rep.mono e r) (RepF.mono e t)
end
theorem Reps.length : ∀ {v : List V} {d : List D}, Reps K B v d → v.length = d.length
  | _, _, .nil => rfl
  | _, _, .cons _ t => congrArg (· + 1) (Reps.length t)
theorem Reps.get : ∀ {vs : List V} {ds : List D} {i : Nat} {v : V}, Reps K B vs ds → vs[i]? = some v → ∃ d, ds[i]? = some d ∧ Rep K B v d
  | _, _, _, _, .nil, e => by simp at e
  | _, _, 0, _, .cons r _, e => by simp at e; subst e; exact ⟨_, rfl, r⟩
  | _, _, i + 1, v, .cons _ t, e => by
    obtain ⟨d, h1, h2⟩ := Reps.get (i := i) (v := v) t (by simpa using e)
    exact ⟨d, by simpa using h1, h2⟩
theorem Reps.getD : ∀ {vs : List V} {ds : List D} {i : Nat} {d : D}, Reps K B vs ds → ds[i]? = some d → ∃ v, vs[i]? = some v ∧ Rep K B v d
  | _, _, _, _, .nil, e => by simp at e
  | _, _, 0, _, .cons r _, e => by simp at e; subst e; exact ⟨_, rfl, r⟩
  | _, _, i + 1, v, .cons _ t, e => by
    obtain ⟨d, h1, h2⟩ := Reps.getD (i := i) (d := v) t (by simpa using e)
    exact ⟨d, by simpa using h1, h2⟩
theorem Reps.append : ∀ {v v' : List V} {d d' : List D}, Reps K B v d → Reps K B v' d' → Reps K B (v ++ v') (d ++ d')
  | _, _, _, _, .nil, s => s
  | _, _, _, _, .cons r t, s => .cons r (Reps.append t s)
theorem Reps.set {v : V} {d : D} (r : Rep K B v d) : ∀ {vs : List V} {ds : List D} (i : Nat), Reps K B vs ds → Reps K B (vs.set i v) (ds.set i d)
  | _, _, _, .nil => .nil
  | _, _, 0, .cons _ t => .cons r t
  | _, _, i + 1, .cons q t => .cons q (Reps.set r i t)
theorem Reps.erase : ∀ {vs : List V} {ds : List D} (i : Nat), Reps K B vs ds → Reps K B (vs.eraseIdx i) (ds.eraseIdx i)
  | _, _, _, .nil => .nil
  | _, _, 0, .cons _ t => t
  | _, _, i + 1, .cons q t => .cons q (Reps.erase i t)
theorem Reps.take : ∀ {vs : List V} {ds : List D} (n : Nat), Reps K B vs ds → Reps K B (vs.take n) (ds.take n)
  | _, _, 0, _ => .nil
  | _, _, _ + 1, .nil => .nil
  | _, _, n + 1, .cons r t => .cons r (Reps.take n t)
theorem Reps.drop : ∀ {vs : List V} {ds : List D} (n : Nat), Reps K B vs ds → Reps K B (vs.drop n) (ds.drop n)
  | _, _, 0, r => r
  | _, _, _ + 1, .nil => .nil
  | _, _, n + 1, .cons _ t => Reps.drop n t
theorem Reps.ints : ∀ {vs : List V} {ns : List Int}, Reps K B vs (ns.map D.int) → vs = ns.map V.int
  | _, [], h => by cases h; rfl
  | _, n :: ns, h => by
    cases h with
    | cons r t => cases r; rw [Reps.ints t]; rfl
theorem reps_ints : ∀ (ns : List Int), Reps K B (ns.map V.int) (ns.map D.int)
  | [] => .nil
  | n :: ns => .cons (.int n) (reps_ints ns)
theorem Reps.strs : ∀ {vs : List V} {ns : List Str}, Reps K B vs (ns.map D.str) → vs = ns.map V.str
  | _, [], h => by cases h; rfl
  | _, n :: ns, h => by
    cases h with
    | cons r t => cases r; rw [Reps.strs t]; rfl
theorem reps_strs : ∀ (ns : List Str), Reps K B (ns.map V.str) (ns.map D.str)
  | [] => .nil
  | n :: ns => .cons (.str n) (reps_strs ns)
theorem Reps.bls : ∀ {vs : List V} {ns : List Bool}, Reps K B vs (ns.map D.bl) → vs = ns.map V.bl
  | _, [], h => by cases h; rfl
  | _, n :: ns, h => by
    cases h with
    | cons r t => cases r; rw [Reps.bls t]; rfl
end

/-! ### going on -/
/-- from (B, H) to (B', H'): only the objects in M may have changed -/
structure Go (M : Addr → Prop) (B H B' H' : Hp) : Prop where
  b : Same B B'
  h : ∀ a o, ¬ M a → H a = some o → H' a = some o
  t : ∀ a o, H a = some o → ∃ o', H' a = some o'
  s : ∀ a o, ¬ M a → H a = some o → B' a = B a
theorem Go.refl {M : Addr → Prop} (B H : Hp) : Go M B H B H := ⟨Same.refl B, fun _ _ _ h => h, fun _ o h => ⟨o, h⟩, fun _ _ _ _ => rfl⟩

abbrev Own := List (Addr × D)
abbrev dom (w : Own) : Addr → Prop := fun a => a ∈ w.map (·.1)

/-- what an owned object holds -/
inductive Holds (K : PySem.W.Frag) (B : Hp) : HO → D → Prop
  | lst {vs : List V} {ds : List D} (r : Reps K B vs ds) : Holds K B (.lst vs) (.lst ds)
  | dct {ws : List (Key × V)} {kvs : List (Str × D)} (r : RepK K B ws kvs) : Holds K B (.dK ws) (.dct kvs)
  | ins {C dx : Addr} {ws : List (Str × V)} {fs : List (Str × D)} (r : RepF K B ws fs) : Holds K B (.ins C dx ws) (.ins C fs)
  | ext {phGr : Heap → Prop} : Holds K B (.ext phGr) (.ext phGr)
  | exb {phGr : Heap → Prop} {ks : List (Addr × D)} (r : Reps K B (ks.map fun p => V.ref p.1) (ks.map (·.2))) : Holds K B (.ext phGr) (.exb phGr ks)
theorem Holds.mono {K : PySem.W.Frag} {B B' : Hp} (e : Same B B') {o : HO} {d : D} (h : Holds K B o d) : Holds K B' o d := by
  cases h with
  | lst r => exact .lst (r.mono e)
  | dct r => exact .dct (r.mono e)
  | ins r => exact .ins (r.mono e)
  | ext => exact .ext
  | exb r => exact .exb (r.mono e)
structure OwnAt (K : PySem.W.Frag) (B H : Hp) (p : Addr) (d : D) : Prop where
  none : B p = none
  ob : ∃ o, H p = some o ∧ Holds K B o d

structure Ok (K : PySem.W.Frag) (B H : Hp) (w : Own) : Prop where
  l : Same B H
  own : ∀ x ∈ w, OwnAt K B H x.1 x.2
  nd : (w.map (·.1)).Nodup
structure To (K : PySem.W.Frag) (w : Own) (B H : Hp) (w' : Own) (B' H' : Hp) : Prop where
  go : Go (dom w) B H B' H'
  ok : Ok K B' H' w'
  nw : ∀ a, dom w' a → dom w a ∨ H a = none

section
variable {K : PySem.W.Frag} {B H B1 H1 B2 H2 B' H' : Hp} {w w1 w2 w' r : Own}
theorem To.refl (k : Ok K B H w) : To K w B H w B H := ⟨Go.refl B H, k, fun _ h => .inl h⟩
theorem none_of_th {B H B' H' : Hp} {M : Addr → Prop} (g : Go M B H B' H') {a : Addr} (h : H' a = none) : H a = none := by
  cases q : H a with
  | none => rfl
  | some o =>
    obtain ⟨o', e⟩ := g.t a o q
    rw [e] at h; cases h
theorem To.trans (a : To K w B H w1 B1 H1) (b : To K w1 B1 H1 w2 B2 H2) : To K w B H w2 B2 H2 := by
  refine ⟨⟨a.go.b.trans b.go.b, fun p o hp e => ?_, fun p o e => ?_, fun p o hp e => ?_⟩, b.ok, fun p hp => ?_⟩
  · refine b.go.h p o (fun q => ?_) (a.go.h p o hp e)
    rcases a.nw p q with q | q
    · exact hp q
    · rw [q] at e; cases e
  · obtain ⟨o1, e1⟩ := a.go.t p o e
    exact b.go.t p o1 e1
  · obtain ⟨o1, e1⟩ := a.go.t p o e
    refine (b.go.s p o1 (fun q => ?_) e1).trans (a.go.s p o hp e)
    rcases a.nw p q with q | q
    · exact hp q
    · rw [q] at e; cases e
  · rcases b.nw p hp with q | q
    · exact a.nw p q
    · exact .inr (none_of_th a.go q)
/-- fewer are owned -/
theorem Ok.sub (k : Ok K B H w) (h : ∀ x ∈ w', x ∈ w) (nd : (w'.map (·.1)).Nodup) : Ok K B H w' := ⟨k.l, fun x hx => k.own x (h x hx), nd⟩
theorem dom_append {a : Addr} : dom (w ++ r) a ↔ dom w a ∨ dom r a := by unfold dom; simp
theorem Ok.left (k : Ok K B H (w ++ r)) : Ok K B H w := k.sub (fun x hx => List.mem_append_left _ hx) (by have := k.nd; rw [List.map_append] at this; exact (List.nodup_append.mp this).1)
theorem Ok.right (k : Ok K B H (w ++ r)) : Ok K B H r := k.sub (fun x hx => List.mem_append_right _ hx) (by have := k.nd; rw [List.map_append] at this; exact (List.nodup_append.mp this).2.1)
theorem OwnAt.go {M : Addr → Prop} {p : Addr} {d : D} (x : OwnAt K B H p d) (g : Go M B H B' H') (hM : ¬ M p) : OwnAt K B' H' p d := by
  obtain ⟨o, e, h⟩ := x.ob
  exact ⟨(g.s p o hM e).trans x.none, o, g.h p o hM e, h.mono g.b⟩
/-- THE FRAME: what a part does not own stays -/
theorem To.frame (k : Ok K B H (w ++ r)) (t : To K w B H w' B' H') : To K (w ++ r) B H (w' ++ r) B' H' := by
  have nd := k.nd
  rw [List.map_append] at nd
  obtain ⟨_, nr, dj⟩ := List.nodup_append.mp nd
  have hr : ∀ x ∈ r, ¬ dom w x.1 := fun x hx q => dj x.1 q x.1 (List.mem_map_of_mem hx) rfl
  refine ⟨⟨t.go.b, fun a o ha e => t.go.h a o (fun q => ha (dom_append.mpr (.inl q))) e, t.go.t, fun a o ha e => t.go.s a o (fun q => ha (dom_append.mpr (.inl q))) e⟩, ⟨t.ok.l, fun x hx => ?_, ?_⟩, fun a ha => ?_⟩
  · rcases List.mem_append.mp hx with q | q
    · exact t.ok.own x q
    · exact (k.own x (List.mem_append_right _ q)).go t.go (hr x q)
  · rw [List.map_append]
    refine List.nodup_append.mpr ⟨t.ok.nd, nr, fun a ha b hb e => ?_⟩
    subst e
    obtain ⟨x, hx, rfl⟩ := List.mem_map.mp hb
    rcases t.nw _ ha with q | q
    · exact hr x hx q
    · obtain ⟨o, e, _⟩ := (k.own x (List.mem_append_right _ hx)).ob
      rw [q] at e; cases e
  · rcases dom_append.mp ha with q | q
    · rcases t.nw a q with z | z
      · exact .inl (dom_append.mpr (.inl z))
      · exact .inr z
    · exact .inl (dom_append.mpr (.inr q))
theorem Ok.perm (k : Ok K B H w) (p : w.Perm w') : Ok K B H w' := k.sub (fun x hx => p.symm.mem_iff.mp hx) ((p.map _).nodup_iff.mp k.nd)
theorem dom_perm (p : w.Perm w') {a : Addr} : dom w a ↔ dom w' a := (p.map (·.1)).mem_iff
theorem To.permL (t : To K w' B H w1 B' H') (p : w.Perm w') : To K w B H w1 B' H' :=
  ⟨⟨t.go.b, fun a o ha => t.go.h a o (fun q => ha ((dom_perm p).mpr q)), t.go.t, fun a o ha => t.go.s a o (fun q => ha ((dom_perm p).mpr q))⟩, t.ok, fun a ha => (t.nw a ha).imp (dom_perm p).mpr id⟩
theorem To.permR (t : To K w B H w1 B' H') (p : w1.Perm w') : To K w B H w' B' H' := ⟨t.go, t.ok.perm p, fun a ha => t.nw a ((dom_perm p).mpr ha)⟩
/-- a new object is laid that is known (never changes) -/
theorem Same.upd_new {B : Hp} {p : Addr} {o : HO} (h : B p = none) : Same B (upd B p o) := fun b u e => by rw [upd_ne (ne_of_none e h)]; exact e
theorem Same.upd_both {B H : Hp} {p : Addr} {o : HO} (l : Same B H) : Same (upd B p o) (upd H p o) := fun b u e => by
  by_cases hb : b = p
  · subst hb; rw [upd_same] at e ⊢; exact e
  · rw [upd_ne hb] at e ⊢; exact l b u e
theorem Ok.fresh (k : Ok K B H w) {p : Addr} (h : H p = none) : B p = none := k.l.free h
theorem Ok.ndom (k : Ok K B H w) {p : Addr} (h : H p = none) : ¬ dom w p := fun q => by
  obtain ⟨x, hx, rfl⟩ := List.mem_map.mp q
  obtain ⟨o, e, _⟩ := (k.own x hx).ob
  rw [h] at e; cases e
theorem To.newB (k : Ok K B H w) {p : Addr} {o : HO} (h : H p = none) : To K w B H w (upd B p o) (upd H p o) := by
  have hB := k.fresh h
  refine ⟨⟨Same.upd_new hB, fun a u _ e => by rw [upd_ne (ne_of_none e h)]; exact e, fun a u e => ⟨u, by rw [upd_ne (ne_of_none e h)]; exact e⟩, fun a u _ e => by rw [upd_ne (ne_of_none e h)]⟩, ⟨Same.upd_both k.l, fun x hx => ?_, k.nd⟩, fun a q => .inl q⟩
  obtain ⟨o', e, hh⟩ := (k.own x hx).ob
  exact ⟨by rw [upd_ne (ne_of_none e h)]; exact (k.own x hx).none, o', by rw [upd_ne (ne_of_none e h)]; exact e, hh.mono (Same.upd_new hB)⟩
/-- a new object is laid that is owned -/
theorem To.newO (k : Ok K B H w) {p : Addr} {o : HO} {d : D} (h : H p = none) (hd : Holds K B o d) : To K w B H (w ++ [(p, d)]) B (upd H p o) := by
  have hB := k.fresh h
  refine ⟨⟨Same.refl B, fun a u _ e => by rw [upd_ne (ne_of_none e h)]; exact e, fun a u e => ⟨u, by rw [upd_ne (ne_of_none e h)]; exact e⟩, fun a u _ e => rfl⟩, ⟨fun b u e => by rw [upd_ne (ne_of_none e hB)]; exact k.l b u e, fun x hx => ?_, ?_⟩, fun a q => ?_⟩
  · rcases List.mem_append.mp hx with q | q
    · obtain ⟨o', e, hh⟩ := (k.own x q).ob
      exact ⟨(k.own x q).none, o', by rw [upd_ne (ne_of_none e h)]; exact e, hh⟩
    · obtain rfl : x = (p, d) := by simpa using q
      exact ⟨hB, o, upd_same, hd⟩
  · rw [List.map_append]
    refine List.nodup_append.mpr ⟨k.nd, by simp, fun a ha b hb e => ?_⟩
    subst e
    have hb' : a = p := by simpa using hb
    subst hb'
    exact k.ndom h ha
  · rcases dom_append.mp q with z | z
    · exact .inl z
    · have : a = p := by simpa [dom] using z
      subst this
      exact .inr h
/-- an owned object is changed -/
theorem map_set_fst {i : Nat} {p : Addr} {d d' : D} (hi : w[i]? = some (p, d)) : (w.set i (p, d')).map (·.1) = w.map (·.1) := by
  refine List.ext_getElem? fun j => ?_
  rw [List.getElem?_map, List.getElem?_map, List.getElem?_set]
  by_cases hj : i = j
  · subst hj
    have hl := (List.getElem?_eq_some_iff.mp hi).1
    rw [if_pos rfl, if_pos hl, hi]
    rfl
  · rw [if_neg hj]
theorem set_mem {i : Nat} {p : Addr} {d d' : D} (hi : w[i]? = some (p, d)) (nd : (w.map (·.1)).Nodup) {x : Addr × D} (hx : x ∈ w.set i (p, d')) : x = (p, d') ∨ (x ∈ w ∧ x.1 ≠ p) := by
  obtain ⟨j, hj⟩ := List.getElem?_of_mem hx
  rw [List.getElem?_set] at hj
  by_cases hij : i = j
  · subst hij
    have hl := (List.getElem?_eq_some_iff.mp hi).1
    rw [if_pos rfl, if_pos hl] at hj
    exact .inl (Option.some.inj hj).symm
  · rw [if_neg hij] at hj
    refine .inr ⟨List.mem_of_getElem? hj, fun e => hij ?_⟩
    have h1 : (w.map (·.1))[i]? = some p := by rw [List.getElem?_map, hi]; rfl
    have h2 : (w.map (·.1))[j]? = some p := by rw [List.getElem?_map, hj, ← e]; rfl
    obtain ⟨l1, g1⟩ := List.getElem?_eq_some_iff.mp h1
    obtain ⟨l2, g2⟩ := List.getElem?_eq_some_iff.mp h2
    exact (List.getElem_inj nd).mp (g1.trans g2.symm)
theorem To.mut (k : Ok K B H w) {i : Nat} {p : Addr} {d d' : D} {o' : HO} (hi : w[i]? = some (p, d)) (hd : Holds K B o' d') : To K w B H (w.set i (p, d')) B (upd H p o') := by
  have hm : (p, d) ∈ w := List.mem_of_getElem? hi
  have hB : B p = none := (k.own _ hm).none
  have hp : dom w p := List.mem_map.mpr ⟨_, hm, rfl⟩
  refine ⟨⟨Same.refl B, fun a u ha e => by rw [upd_ne (fun q => ha (by rw [q]; exact hp))]; exact e, fun a u e => ?_, fun a u _ e => rfl⟩, ⟨fun b u e => by rw [upd_ne (ne_of_none e hB)]; exact k.l b u e, fun x hx => ?_, ?_⟩, fun a q => .inl ?_⟩
  · by_cases ha : a = p
    · subst ha; exact ⟨o', upd_same⟩
    · exact ⟨u, by rw [upd_ne ha]; exact e⟩
  · rcases set_mem hi k.nd hx with rfl | ⟨h1, h2⟩
    · exact ⟨hB, o', upd_same, hd⟩
    · obtain ⟨u, e, hh⟩ := (k.own x h1).ob
      exact ⟨(k.own x h1).none, u, by rw [upd_ne h2]; exact e, hh⟩
  · rw [map_set_fst hi]; exact k.nd
  · unfold dom at q ⊢
    rw [map_set_fst hi] at q
    exact q
end

section
variable {K : PySem.W.Frag} {B H B1 H1 B' H' : Hp} {w w1 w' r : Own}
/-- fewer are owned behind -/
theorem To.drop (t : To K w B H (w' ++ r) B' H') : To K w B H w' B' H' := ⟨t.go, t.ok.left, fun a ha => t.nw a (dom_append.mpr (.inl ha))⟩
/-- an owned object becomes a known one -/
theorem To.freeze (k : Ok K B H w) {i : Nat} {p : Addr} {d : D} (hi : w[i]? = some (p, d)) : ∃ o, H p = some o ∧ Holds K B o d ∧ To K w B H (w.eraseIdx i) (upd B p o) H := by
  have hm : (p, d) ∈ w := List.mem_of_getElem? hi
  obtain ⟨o, e, hh⟩ := (k.own _ hm).ob
  have hB : B p = none := (k.own _ hm).none
  have hp : dom w p := List.mem_map.mpr ⟨_, hm, rfl⟩
  have sub : ∀ x ∈ w.eraseIdx i, x ∈ w ∧ x.1 ≠ p := fun x hx => by
    obtain ⟨j, hj⟩ := List.getElem?_of_mem hx
    rw [List.getElem?_eraseIdx] at hj
    have h1 : (w.map (·.1))[i]? = some p := by rw [List.getElem?_map, hi]; rfl
    have key : ∀ m, m ≠ i → w[m]? = some x → x ∈ w ∧ x.1 ≠ p := fun m hm hx => ⟨List.mem_of_getElem? hx, fun e => hm (by
      have h2 : (w.map (·.1))[m]? = some p := by rw [List.getElem?_map, hx, ← e]; rfl
      obtain ⟨l1, g1⟩ := List.getElem?_eq_some_iff.mp h1
      obtain ⟨l2, g2⟩ := List.getElem?_eq_some_iff.mp h2
      exact ((List.getElem_inj k.nd).mp (g1.trans g2.symm)).symm)⟩
    split at hj
    · exact key j (by omega) hj
    · exact key (j + 1) (by omega) hj
  refine ⟨o, e, hh, ⟨⟨Same.upd_new hB, fun _ _ _ e => e, fun a u e => ⟨u, e⟩, fun a u ha _ => by rw [upd_ne (fun q => ha (by rw [q]; exact hp))]⟩, ⟨fun b u q => ?_, fun x hx => ?_, ?_⟩, fun a ha => .inl ?_⟩⟩
  · by_cases hb : b = p
    · subst hb; rw [upd_same] at q; rw [e]; exact q
    · rw [upd_ne hb] at q; exact k.l b u q
  · obtain ⟨h1, h2⟩ := sub x hx
    obtain ⟨u, eu, hu⟩ := (k.own x h1).ob
    exact ⟨by rw [upd_ne h2]; exact (k.own x h1).none, u, eu, hu.mono (Same.upd_new hB)⟩
  · exact ((List.eraseIdx_sublist w i).map _).nodup k.nd
  · obtain ⟨x, hx, rfl⟩ := List.mem_map.mp ha
    exact List.mem_map.mpr ⟨x, (sub x hx).1, rfl⟩
end

/-! ### slots -/
abbrev Sl := List (Option D)
structure EnvR (K : PySem.W.Frag) (B : Hp) (siGr : St) (rhGr : Sl) : Prop where
  len : siGr.length = rhGr.length
  get : ∀ (i : Nat) (d : D), rhGr[i]? = some (some d) → ∃ v, siGr[i]? = some (some v) ∧ Rep K B v d
theorem EnvR.mono {K : PySem.W.Frag} {B B' : Hp} {siGr : St} {rhGr : Sl} (e : Same B B') (h : EnvR K B siGr rhGr) : EnvR K B' siGr rhGr :=
  ⟨h.len, fun i d q => let ⟨v, a, b⟩ := h.get i d q; ⟨v, a, b.mono e⟩⟩
theorem EnvR.set {K : PySem.W.Frag} {B : Hp} {siGr : St} {rhGr : Sl} (h : EnvR K B siGr rhGr) {v : V} {d : D} (r : Rep K B v d) (i : Nat) : EnvR K B (siGr.set i (some v)) (rhGr.set i (some d)) := by
  refine ⟨by rw [List.length_set, List.length_set]; exact h.len, fun j d' q => ?_⟩
  rw [List.getElem?_set] at q ⊢
  by_cases hij : i = j
  · subst hij
    rw [if_pos rfl] at q ⊢
    rw [h.len]
    by_cases hl : i < rhGr.length
    · rw [if_pos hl] at q ⊢
      obtain rfl : d = d' := Option.some.inj (Option.some.inj q)
      exact ⟨v, rfl, r⟩
    · rw [if_neg hl] at q; cases q
  · rw [if_neg hij] at q ⊢
    exact h.get j d' q
theorem EnvR.unset {K : PySem.W.Frag} {B : Hp} {siGr : St} {rhGr : Sl} (h : EnvR K B siGr rhGr) (i : Nat) : EnvR K B (siGr.set i none) (rhGr.set i none) := by
  refine ⟨by rw [List.length_set, List.length_set]; exact h.len, fun j d' q => ?_⟩
  rw [List.getElem?_set] at q ⊢
  by_cases hij : i = j
  · subst hij
    rw [if_pos rfl] at q
    by_cases hl : i < rhGr.length
    · rw [if_pos hl] at q; cases q
    · rw [if_neg hl] at q; cases q
  · rw [if_neg hij] at q ⊢
    exact h.get j d' q
/-- less is known -/
theorem EnvR.sub {K : PySem.W.Frag} {B : Hp} {siGr : St} {rhGr rhGr' : Sl} (h : EnvR K B siGr rhGr) (hl : rhGr'.length = rhGr.length) (hs : ∀ (i : Nat) (d : D), rhGr'[i]? = some (some d) → rhGr[i]? = some (some d)) : EnvR K B siGr rhGr' :=
  ⟨h.len.trans hl.symm, fun i d q => h.get i d (hs i d q)⟩

/-! ### the judgements -/
structure Zt where
  K : PySem.W.Frag
  E : XK
  T : Addr
  X : Own → Prop
/-- what follows an error -/
def Er (Z : Zt) (w : Own) (B H : Hp) : Prop := ∀ w' B' H', Z.X w' → To Z.K w B H w' B' H' → Z.E (.ref Z.T) none H'
theorem Er.on {Z : Zt} {w w1 : Own} {B H B1 H1 : Hp} (e : Er Z w B H) (t : To Z.K w B H w1 B1 H1) : Er Z w1 B1 H1 := fun w' B' H' x t' => e w' B' H' x (t.trans t')

def WE (Z : Zt) (te : TE) (rhGr : Sl) (w : Own) (P : D → Own → Prop) : Prop := ∀ siGr B H, Ok Z.K B H w → EnvR Z.K B siGr rhGr → Er Z w B H → ∀ Q : VK,
  (∀ v d w' B' H', P d w' → To Z.K w B H w' B' H' → Rep Z.K B' v d → Q v H') → te siGr H Q
def WA (Z : Zt) (ta : TA) (rhGr : Sl) (w : Own) (P : List D → Own → Prop) : Prop := ∀ siGr B H, Ok Z.K B H w → EnvR Z.K B siGr rhGr → Er Z w B H → ∀ Q : List V → Hp → Prop,
  (∀ vs ds w' B' H', P ds w' → To Z.K w B H w' B' H' → Reps Z.K B' vs ds → Q vs H') → ta siGr H Q
def WT (Z : Zt) (tt : TT) (rhGr : Sl) (w : Own) (P : Bool → Own → Prop) : Prop := ∀ siGr B H, Ok Z.K B H w → EnvR Z.K B siGr rhGr → Er Z w B H → ∀ Q : Bool → Hp → Prop,
  (∀ b w' B' H', P b w' → To Z.K w B H w' B' H' → Q b H') → tt siGr H Q
inductive Out where
  | nx (rhGr : Sl) (w : Own) | rt (d : D) (w : Own) | bk (rhGr : Sl) (w : Own) | ct (rhGr : Sl) (w : Own)
def Met (Z : Zt) (w : Own) (B H : Hp) (D : Ends) : Out → Prop
  | .nx rhGr' w' => ∀ siGr' B' H', To Z.K w B H w' B' H' → EnvR Z.K B' siGr' rhGr' → D.nx siGr' H'
  | .rt d w' => ∀ v B' H', To Z.K w B H w' B' H' → Rep Z.K B' v d → D.rt v H'
  | .bk rhGr' w' => ∀ siGr' B' H', To Z.K w B H w' B' H' → EnvR Z.K B' siGr' rhGr' → D.bk siGr' H'
  | .ct rhGr' w' => ∀ siGr' B' H', To Z.K w B H w' B' H' → EnvR Z.K B' siGr' rhGr' → D.ct siGr' H'
theorem Met.on {Z : Zt} {w w1 : Own} {B H B1 H1 : Hp} {D : Ends} {o : Out} (m : Met Z w B H D o) (t : To Z.K w B H w1 B1 H1) : Met Z w1 B1 H1 D o := by
  cases o with
  | nx rhGr' w' => exact fun siGr' B' H' t' e => m siGr' B' H' (t.trans t') e
  | rt d w' => exact fun v B' H' t' e => m v B' H' (t.trans t') e
  | bk rhGr' w' => exact fun siGr' B' H' t' e => m siGr' B' H' (t.trans t') e
  | ct rhGr' w' => exact fun siGr' B' H' t' e => m siGr' B' H' (t.trans t') e
def WS (Z : Zt) (ts : TS) (rhGr : Sl) (w : Own) (P : Out → Prop) : Prop := ∀ siGr B H, Ok Z.K B H w → EnvR Z.K B siGr rhGr → Er Z w B H → ∀ D : Ends,
  (∀ o, P o → Met Z w B H D o) → ts D siGr H
def WG (Z : Zt) (g : TG) (x : D) (rhGr : Sl) (w : Own) (k : Sl → Own → Prop) : Prop := ∀ siGr B H v, Ok Z.K B H w → EnvR Z.K B siGr rhGr → Er Z w B H → Rep Z.K B v x → ∀ Q : St → Hp → Prop,
  (∀ siGr' rhGr' w' B' H', k rhGr' w' → To Z.K w B H w' B' H' → EnvR Z.K B' siGr' rhGr' → Q siGr' H') → g v siGr H Q
def WGs (Z : Zt) (g : TGs) (xs : List D) (rhGr : Sl) (w : Own) (k : Sl → Own → Prop) : Prop := ∀ siGr B H vs, Ok Z.K B H w → EnvR Z.K B siGr rhGr → Er Z w B H → Reps Z.K B vs xs → ∀ Q : St → Hp → Prop,
  (∀ siGr' rhGr' w' B' H', k rhGr' w' → To Z.K w B H w' B' H' → EnvR Z.K B' siGr' rhGr' → Q siGr' H') → g vs siGr H Q
/-- an operation on two values -/
def RD (Z : Zt) (r : R2) (x y : D) (w : Own) (P : D → Own → Prop) : Prop := ∀ B H vx vy, Ok Z.K B H w → Er Z w B H → Rep Z.K B vx x → Rep Z.K B vy y → ∀ Q : VK,
  (∀ v d w' B' H', P d w' → To Z.K w B H w' B' H' → Rep Z.K B' v d → Q v H') → r vx vy H Q
/-- a call of a built-in -/
def RC (Z : Zt) (r : List V → Hp → VK → Prop) (xs : List D) (w : Own) (P : D → Own → Prop) : Prop := ∀ B H vs, Ok Z.K B H w → Er Z w B H → Reps Z.K B vs xs → ∀ Q : VK,
  (∀ v d w' B' H', P d w' → To Z.K w B H w' B' H' → Rep Z.K B' v d → Q v H') → r vs H Q

section
variable {Z : Zt} {ta tb te tc : TE} {tt tu : TT} {tl : TA} {ts tz : TS} {rhGr : Sl} {w : Own} {P : D → Own → Prop} {PB : Bool → Own → Prop} {PA : List D → Own → Prop} {PO : Out → Prop}
theorem WE.imp {P' : D → Own → Prop} (h : WE Z te rhGr w P) (i : ∀ d w', P d w' → P' d w') : WE Z te rhGr w P' := fun siGr B H k e er Q q => h siGr B H k e er Q fun v d w' B' H' p => q v d w' B' H' (i d w' p)
theorem WS.imp {P' : Out → Prop} (h : WS Z ts rhGr w PO) (i : ∀ o, PO o → P' o) : WS Z ts rhGr w P' := fun siGr B H k e er D q => h siGr B H k e er D fun o p => q o (i o p)
theorem WS.sub {rhGr' : Sl} (h : WS Z ts rhGr' w PO) (hl : rhGr'.length = rhGr.length) (hs : ∀ (i : Nat) (d : D), rhGr'[i]? = some (some d) → rhGr[i]? = some (some d)) : WS Z ts rhGr w PO := fun siGr B H k e er D q => h siGr B H k (e.sub hl hs) er D q
theorem WS.perm {w' : Own} (h : WS Z ts rhGr w' PO) (p : w.Perm w') : WS Z ts rhGr w PO := fun siGr B H k e er D q => h siGr B H (k.perm p) e (er.on ((To.refl k).permR p)) D fun o z => (q o z).on ((To.refl k).permR p)
theorem we_var {i : Nat} {d : D} (h : rhGr[i]? = some (some d)) (p : P d w) : WE Z (tVar i) rhGr w P := fun siGr B H k e er Q q => by
  obtain ⟨v, h1, h2⟩ := e.get i d h
  exact ⟨v, h1, q v d w B H p (.refl k) h2⟩
theorem we_int {i : Int} (p : P (.int i) w) : WE Z (tC (.int i)) rhGr w P := fun siGr B H k e er Q q => q _ _ w B H p (.refl k) (.int i)
theorem we_bl {i : Bool} (p : P (.bl i) w) : WE Z (tC (.bl i)) rhGr w P := fun siGr B H k e er Q q => q _ _ w B H p (.refl k) (.bl i)
theorem we_str {i : Str} (p : P (.str i) w) : WE Z (tC (.str i)) rhGr w P := fun siGr B H k e er Q q => q _ _ w B H p (.refl k) (.str i)
theorem we_non (p : P .non w) : WE Z (tC .non) rhGr w P := fun siGr B H k e er Q q => q _ _ w B H p (.refl k) .non
theorem we_con {v : V} {d : D} (h : ∀ B, Rep Z.K B v d) (p : P d w) : WE Z (tC v) rhGr w P := fun siGr B H k e er Q q => q _ _ w B H p (.refl k) (h B)
theorem we_op {r : R2} (h : WE Z ta rhGr w fun x w1 => WE Z tb rhGr w1 fun y w2 => RD Z r x y w2 P) : WE Z (tOp r ta tb) rhGr w P := fun siGr B H k e er Q q =>
  h siGr B H k e er _ fun v x w1 B1 H1 p1 t1 r1 => p1 siGr B1 H1 t1.ok (e.mono t1.go.b) (er.on t1) _ fun u y w2 B2 H2 p2 t2 r2 =>
    p2 B2 H2 v u t2.ok (er.on (t1.trans t2)) (r1.mono t2.go.b) r2 Q fun z d w3 B3 H3 p3 t3 r3 => q z d w3 B3 H3 p3 ((t1.trans t2).trans t3) r3
theorem wa_nil (p : PA [] w) : WA Z tNil rhGr w PA := fun siGr B H k e er Q q => q [] [] w B H p (.refl k) .nil
theorem wa_cons (h : WE Z te rhGr w fun x w1 => WA Z tl rhGr w1 fun xs w2 => PA (x :: xs) w2) : WA Z (tCons te tl) rhGr w PA := fun siGr B H k e er Q q =>
  h siGr B H k e er _ fun v x w1 B1 H1 p1 t1 r1 => p1 siGr B1 H1 t1.ok (e.mono t1.go.b) (er.on t1) _ fun vs xs w2 B2 H2 p2 t2 r2 =>
    q (v :: vs) (x :: xs) w2 B2 H2 p2 (t1.trans t2) (.cons (r1.mono t2.go.b) r2)
theorem we_cb {r : List V → Hp → VK → Prop} (h : WA Z tl rhGr w fun xs w1 => RC Z r xs w1 P) : WE Z (tCB r tl) rhGr w P := fun siGr B H k e er Q q =>
  h siGr B H k e er _ fun vs xs w1 B1 H1 p1 t1 r1 => p1 B1 H1 vs t1.ok (er.on t1) r1 Q fun v d w2 B2 H2 p2 t2 r2 => q v d w2 B2 H2 p2 (t1.trans t2) r2
/-- a tuple is made -/
theorem we_tup (h : WA Z tl rhGr w fun xs w1 => xs.length ≤ 10000000 ∧ P (.tup xs) w1) : WE Z (tTup tl) rhGr w P := fun siGr B H k e er Q q =>
  h siGr B H k e er _ fun vs xs w1 B1 H1 ⟨hz, p1⟩ t1 r1 => ⟨by rw [r1.length, sizeLine_eq]; omega, fun p hp => by
    have t2 := To.newB (o := .tup vs) t1.ok hp
    exact q _ _ w1 _ _ p1 (t1.trans t2) (.tup (.inl (.inl upd_same)) (r1.mono t2.go.b))⟩
/-- a list is made that never changes -/
theorem we_lst (h : WA Z tl rhGr w fun xs w1 => xs.length ≤ 10000000 ∧ P (.lst xs) w1) : WE Z (tLst tl) rhGr w P := fun siGr B H k e er Q q =>
  h siGr B H k e er _ fun vs xs w1 B1 H1 ⟨hz, p1⟩ t1 r1 => ⟨by rw [r1.length, sizeLine_eq]; omega, fun p hp => by
    have t2 := To.newB (o := .lst vs) t1.ok hp
    exact q _ _ w1 _ _ p1 (t1.trans t2) (.lst upd_same (r1.mono t2.go.b))⟩
/-- a list is made that is owned -/
theorem we_lstO (h : WA Z tl rhGr w fun xs w1 => xs.length ≤ 10000000 ∧ ∀ p, P (.adr p) (w1 ++ [(p, .lst xs)])) : WE Z (tLst tl) rhGr w P := fun siGr B H k e er Q q =>
  h siGr B H k e er _ fun vs xs w1 B1 H1 ⟨hz, p1⟩ t1 r1 => ⟨by rw [r1.length, sizeLine_eq]; omega, fun p hp => by
    exact q _ _ _ _ _ (p1 p) (t1.trans (To.newO t1.ok hp (.lst r1))) (.adr p)⟩

/-! ### tests -/
theorem wt_test (h : WE Z te rhGr w fun d w1 => ∃ b, d = .bl b ∧ PB b w1) : WT Z (tTest te) rhGr w PB := fun siGr B H k e er Q q =>
  h siGr B H k e er _ fun v d w1 B1 H1 ⟨b, hd, p1⟩ t1 r1 => by subst hd; cases r1; exact ⟨b, rfl, q b w1 B1 H1 p1 t1⟩
theorem wt_B (h : WE Z te rhGr w fun d w1 => ∃ b, d = .bl b ∧ PB b w1) : WT Z (tB te) rhGr w PB := fun siGr B H k e er Q q =>
  h siGr B H k e er _ fun v d w1 B1 H1 ⟨b, hd, p1⟩ t1 r1 => by subst hd; cases r1; exact ⟨b, rfl, q b w1 B1 H1 p1 t1⟩
theorem wt_and (h : WT Z tt rhGr w fun b w1 => (b = true → WT Z tu rhGr w1 PB) ∧ (b = false → PB false w1)) : WT Z (tAnd tt tu) rhGr w PB := fun siGr B H k e er Q q =>
  h siGr B H k e er _ fun b w1 B1 H1 ⟨p1, p2⟩ t1 => by
    cases b with
    | true =>
      show tu siGr H1 Q
      exact p1 rfl siGr B1 H1 t1.ok (e.mono t1.go.b) (er.on t1) Q fun b' w2 B2 H2 p t2 => q b' w2 B2 H2 p (t1.trans t2)
    | false =>
      show Q false H1
      exact q false w1 B1 H1 (p2 rfl) t1
theorem wt_or (h : WT Z tt rhGr w fun b w1 => (b = false → WT Z tu rhGr w1 PB) ∧ (b = true → PB true w1)) : WT Z (tOr tt tu) rhGr w PB := fun siGr B H k e er Q q =>
  h siGr B H k e er _ fun b w1 B1 H1 ⟨p1, p2⟩ t1 => by
    cases b with
    | false =>
      show tu siGr H1 Q
      exact p1 rfl siGr B1 H1 t1.ok (e.mono t1.go.b) (er.on t1) Q fun b' w2 B2 H2 p t2 => q b' w2 B2 H2 p (t1.trans t2)
    | true =>
      show Q true H1
      exact q true w1 B1 H1 (p2 rfl) t1
theorem wt_not (h : WT Z tt rhGr w fun b w1 => PB (!b) w1) : WT Z (tNot tt) rhGr w PB := fun siGr B H k e er Q q => h siGr B H k e er _ fun b w1 B1 H1 p t => q _ w1 B1 H1 p t
theorem we_andV (h : WE Z ta rhGr w fun x w1 => ∃ c, x = .bl c ∧ (c = true → WE Z tb rhGr w1 P) ∧ (c = false → P (.bl false) w1)) : WE Z (tAndV ta tb) rhGr w P := fun siGr B H k e er Q q =>
  h siGr B H k e er _ fun v x w1 B1 H1 ⟨c, hx, p1, p2⟩ t1 r1 => by
    subst hx; cases r1
    refine ⟨c, rfl, ?_⟩
    cases c with
    | true =>
      show tb siGr H1 Q
      exact p1 rfl siGr B1 H1 t1.ok (e.mono t1.go.b) (er.on t1) Q fun v d w2 B2 H2 p t2 => q v d w2 B2 H2 p (t1.trans t2)
    | false =>
      show Q (.bl false) H1
      exact q _ _ w1 B1 H1 (p2 rfl) t1 (.bl false)
theorem we_orV (h : WE Z ta rhGr w fun x w1 => ∃ c, x = .bl c ∧ (c = false → WE Z tb rhGr w1 P) ∧ (c = true → P (.bl true) w1)) : WE Z (tOrV ta tb) rhGr w P := fun siGr B H k e er Q q =>
  h siGr B H k e er _ fun v x w1 B1 H1 ⟨c, hx, p1, p2⟩ t1 r1 => by
    subst hx; cases r1
    refine ⟨c, rfl, ?_⟩
    cases c with
    | false =>
      show tb siGr H1 Q
      exact p1 rfl siGr B1 H1 t1.ok (e.mono t1.go.b) (er.on t1) Q fun v d w2 B2 H2 p t2 => q v d w2 B2 H2 p (t1.trans t2)
    | true =>
      show Q (.bl true) H1
      exact q _ _ w1 B1 H1 (p2 rfl) t1 (.bl true)
theorem we_notV (h : WE Z ta rhGr w fun x w1 => ∃ c, x = .bl c ∧ P (.bl (!c)) w1) : WE Z (tNotV ta) rhGr w P := fun siGr B H k e er Q q =>
  h siGr B H k e er _ fun v x w1 B1 H1 ⟨c, hx, p1⟩ t1 r1 => by subst hx; cases r1; exact ⟨c, rfl, q _ _ w1 B1 H1 p1 t1 (.bl _)⟩
theorem we_chain {r r' : R2} (h : WE Z ta rhGr w fun x w1 => WE Z tb rhGr w1 fun y w2 => RD Z r x y w2 fun z w3 => ∃ c, z = .bl c ∧ (c = true → WE Z tc rhGr w3 fun u w4 => RD Z r' y u w4 P) ∧ (c = false → P (.bl false) w3)) :
    WE Z (tChain r r' ta tb tc) rhGr w P := fun siGr B H k e er Q q =>
  h siGr B H k e er _ fun v x w1 B1 H1 p1 t1 r1 => p1 siGr B1 H1 t1.ok (e.mono t1.go.b) (er.on t1) _ fun u y w2 B2 H2 p2 t2 r2 =>
    p2 B2 H2 v u t2.ok (er.on (t1.trans t2)) (r1.mono t2.go.b) r2 _ fun z d w3 B3 H3 ⟨c, hz, p3, p4⟩ t3 r3 => by
      subst hz; cases r3
      refine ⟨c, rfl, ?_⟩
      have t123 := (t1.trans t2).trans t3
      cases c with
      | true =>
        show tc siGr H3 _
        exact p3 rfl siGr B3 H3 t3.ok (e.mono t123.go.b) (er.on t123) _ fun z4 d4 w4 B4 H4 p5 t4 r4 =>
          p5 B4 H4 u z4 t4.ok (er.on (t123.trans t4)) (r2.mono (t3.trans t4).go.b) r4 Q fun v d w5 B5 H5 p6 t5 r5 => q v d w5 B5 H5 p6 ((t123.trans t4).trans t5) r5
      | false =>
        show Q (.bl false) H3
        exact q _ _ w3 B3 H3 (p4 rfl) t123 (.bl false)

/-! ### statements -/
@[reducible] def Out.thn (k : Sl → Own → Prop) (P : Out → Prop) : Out → Prop
  | .nx rhGr w => k rhGr w
  | o => P o
theorem ws_next (p : PO (.nx rhGr w)) : WS Z tNext rhGr w PO := fun siGr B H k e er D q => q _ p siGr B H (.refl k) e
theorem ws_break (p : PO (.bk rhGr w)) : WS Z tBreak rhGr w PO := fun siGr B H k e er D q => q _ p siGr B H (.refl k) e
theorem ws_cont (p : PO (.ct rhGr w)) : WS Z tCont rhGr w PO := fun siGr B H k e er D q => q _ p siGr B H (.refl k) e
theorem ws_seq (h : WS Z ts rhGr w (Out.thn (fun rhGr1 w1 => WS Z tz rhGr1 w1 PO) PO)) : WS Z (tSeq ts tz) rhGr w PO := fun siGr B H k e er D q =>
  h siGr B H k e er { D with nx := tz D } fun o p => by
    cases o with
    | nx rhGr1 w1 => exact fun siGr1 B1 H1 t1 e1 => (show WS Z tz rhGr1 w1 PO from p) siGr1 B1 H1 t1.ok e1 (er.on t1) D fun o p => (q o p).on t1
    | rt d w1 => exact q _ (show PO (.rt d w1) from p)
    | bk rhGr1 w1 => exact q _ (show PO (.bk rhGr1 w1) from p)
    | ct rhGr1 w1 => exact q _ (show PO (.ct rhGr1 w1) from p)
theorem ws_ret (h : WE Z te rhGr w fun d w1 => PO (.rt d w1)) : WS Z (tRet te) rhGr w PO := fun siGr B H k e er D q =>
  h siGr B H k e er _ fun v d w1 B1 H1 p t r => q _ p v B1 H1 t r
theorem ws_retN (p : PO (.rt .non w)) : WS Z tRetN rhGr w PO := fun siGr B H k e er D q => q _ p .non B H (.refl k) .non
theorem ws_drop (h : WE Z te rhGr w fun _ w1 => PO (.nx rhGr w1)) : WS Z (tDrop te) rhGr w PO := fun siGr B H k e er D q =>
  h siGr B H k e er _ fun v d w1 B1 H1 p t r => q _ p siGr B1 H1 t (e.mono t.go.b)
theorem ws_if (h : WT Z tt rhGr w fun b w1 => (b = true → WS Z ts rhGr w1 PO) ∧ (b = false → WS Z tz rhGr w1 PO)) : WS Z (tIfS tt ts tz) rhGr w PO := fun siGr B H k e er D q =>
  h siGr B H k e er _ fun b w1 B1 H1 ⟨p1, p2⟩ t => by
    cases b with
    | true =>
      show ts D siGr H1
      exact p1 rfl siGr B1 H1 t.ok (e.mono t.go.b) (er.on t) D fun o p => (q o p).on t
    | false =>
      show tz D siGr H1
      exact p2 rfl siGr B1 H1 t.ok (e.mono t.go.b) (er.on t) D fun o p => (q o p).on t
theorem ws_asgG {g : TG} (h : WE Z te rhGr w fun d w1 => WG Z g d rhGr w1 fun rhGr' w2 => PO (.nx rhGr' w2)) : WS Z (tAsg te g) rhGr w PO := fun siGr B H k e er D q =>
  h siGr B H k e er _ fun v d w1 B1 H1 p t r => p siGr B1 H1 v t.ok (e.mono t.go.b) (er.on t) r _ fun siGr' rhGr' w' B' H' p' t' e' => q _ p' siGr' B' H' (t.trans t') e'
theorem wg_name {i : Nat} {x : D} {k : Sl → Own → Prop} (p : k (rhGr.set i (some x)) w) : WG Z (gName i) x rhGr w k := fun siGr B H v o e er r Q q => q _ _ w B H p (.refl o) (e.set r i)
theorem ws_asg {i : Nat} (h : WE Z te rhGr w fun d w1 => PO (.nx (rhGr.set i (some d)) w1)) : WS Z (tAsg te (gName i)) rhGr w PO := ws_asgG (h.imp fun _ _ p => wg_name p)
theorem wgs_nil {k : Sl → Own → Prop} (p : k rhGr w) : WGs Z gNil [] rhGr w k := fun siGr B H v o e er r Q q => by cases r; exact ⟨rfl, q _ _ w B H p (.refl o) e⟩
theorem wgs_cons {g : TG} {gs : TGs} {x : D} {xs : List D} {k : Sl → Own → Prop} (h : WG Z g x rhGr w fun rhGr1 w1 => WGs Z gs xs rhGr1 w1 k) : WGs Z (gCons g gs) (x :: xs) rhGr w k := fun siGr B H vs o e er r Q q => by
  cases r with
  | cons r rs =>
    exact ⟨_, _, rfl, h siGr B H _ o e er r _ fun siGr1 rhGr1 w1 B1 H1 p1 t1 e1 => p1 siGr1 B1 H1 _ t1.ok e1 (er.on t1) (rs.mono t1.go.b) Q fun siGr2 rhGr2 w2 B2 H2 p2 t2 e2 => q siGr2 rhGr2 w2 B2 H2 p2 (t1.trans t2) e2⟩
theorem wg_tup {gs : TGs} {xs : List D} {n : Nat} {k : Sl → Own → Prop} (hn : xs.length = n) (h : WGs Z gs xs rhGr w k) : WG Z (gTup Z.K n gs) (.tup xs) rhGr w k := fun siGr B H v o e er r Q q => by
  cases r with
  | tup hq rs =>
    refine ⟨_, _, rfl, sqT_mono o.l hq, by rw [rs.length]; exact hn, h siGr B H _ o e er rs Q q⟩
theorem ws_par {i j : Nat} (h : WA Z tl rhGr w fun ds w1 => ∃ d e, ds = [d, e] ∧ PO (.nx ((rhGr.set i (some d)).set j (some e)) w1)) : WS Z (tPar i j tl) rhGr w PO := fun siGr B H k e er D q =>
  h siGr B H k e er _ fun vs ds w1 B1 H1 ⟨d, f, hd, p⟩ t r => by
    subst hd
    cases r with
    | cons r1 r => cases r with
      | cons r2 r =>
        cases r
        exact ⟨_, _, rfl, q _ p _ B1 H1 t (((e.mono t.go.b).set r1 i).set r2 j)⟩
end
end DL
end
section
namespace DL
open PySem L2
open PySem.Spec PyProof.Rows

/-! ### what is walked -/
/-- J yields things that stand for ds, as long as C of the owned -/
def Walk (K : PySem.W.Frag) (J : It) (ds : List D) (C : Own → Prop) (w1 : Own) (B1 H1 : Hp) : Prop := ∀ (i : Nat) w' B' H', To K w1 B1 H1 w' B' H' → C w' →
  (∀ d, ds[i]? = some d → J.go i H' ∧ ∀ x H2, J.yld i H' x H2 → ∃ B2, To K w' B' H' w' B2 H2 ∧ Rep K B2 x d) ∧ (ds.length = i → J.stop i H')
def WI (Z : Zt) (wi : TI) (rhGr : Sl) (w : Own) (P : List D → (Own → Prop) → Own → Prop) : Prop := ∀ siGr B H, Ok Z.K B H w → EnvR Z.K B siGr rhGr → Er Z w B H → ∀ R : It → Hp → Prop,
  (∀ J ds C w' B' H', P ds C w' → To Z.K w B H w' B' H' → Walk Z.K J ds C w' B' H' → R J H') → wi siGr H R
@[reducible] def Out.loop (k : Sl → Own → Prop) (P : Out → Prop) : Out → Prop
  | .nx rhGr w => k rhGr w
  | .ct rhGr w => k rhGr w
  | .bk rhGr w => P (.nx rhGr w)
  | .rt d w => P (.rt d w)
section
variable {Z : Zt} {te tl : TE} {ta : TA} {wi : TI} {g : TG} {tb : TS} {rhGr : Sl} {w : Own} {P : D → Own → Prop} {PO : Out → Prop} {PI : List D → (Own → Prop) → Own → Prop}
theorem ws_for (h : WI Z wi rhGr w fun ds C w1 => ∃ I : Nat → Sl → Own → Prop, I 0 rhGr w1 ∧ (∀ i rhGr' w', I i rhGr' w' → C w') ∧
    (∀ (i : Nat) x rhGr' w', ds[i]? = some x → I i rhGr' w' → WG Z g x rhGr' w' fun rhGr2 w2 => WS Z tb rhGr2 w2 (Out.loop (I (i + 1)) PO)) ∧ ∀ rhGr' w', I ds.length rhGr' w' → PO (.nx rhGr' w')) : WS Z (tFor wi g tb) rhGr w PO := by
  intro siGr B H k e er D q
  refine h siGr B H k e er _ fun J ds C w1 B1 H1 ⟨I, i0, iC, iS, iE⟩ t1 wk => ?_
  refine ⟨fun i m siGr' H' => m = ds.length - i ∧ i ≤ ds.length ∧ ∃ B' rhGr' w', To Z.K w1 B1 H1 w' B' H' ∧ EnvR Z.K B' siGr' rhGr' ∧ I i rhGr' w', ⟨ds.length, by simp, Nat.zero_le _, B1, rhGr, w1, .refl t1.ok, e.mono t1.go.b, i0⟩, ?_⟩
  rintro i m siGr' H' ⟨rfl, hi, B', rhGr', w', t, e', hI⟩
  obtain ⟨k1, k2⟩ := wk i w' B' H' t (iC i rhGr' w' hI)
  by_cases hlt : i < ds.length
  · obtain ⟨d, hd⟩ : ∃ d, ds[i]? = some d := ⟨ds[i], by simp [hlt]⟩
    obtain ⟨g1, g2⟩ := k1 d hd
    refine .inr ⟨g1, fun siGr2 H2 => ∃ B2 rhGr2 w2, To Z.K w1 B1 H1 w2 B2 H2 ∧ EnvR Z.K B2 siGr2 rhGr2 ∧ I (i + 1) rhGr2 w2, fun siGr2 H2 ⟨B2, rhGr2, w2, a, b, c⟩ => ⟨ds.length - (i + 1), by omega, rfl, hlt, B2, rhGr2, w2, a, b, c⟩, fun x H2 y => ?_⟩
    obtain ⟨B2, t2, r2⟩ := g2 x H2 y
    have T := t.trans t2
    refine iS i d rhGr' w' hd hI siGr' B2 H2 x t2.ok (e'.mono t2.go.b) (er.on (t1.trans T)) r2 _ fun siGr3 rhGr3 w3 B3 H3 p3 t3 e3 => ?_
    have T3 := T.trans t3
    refine p3 siGr3 B3 H3 t3.ok e3 (er.on (t1.trans T3)) _ fun o po => ?_
    cases o with
    | nx rhGr4 w4 => exact fun siGr4 B4 H4 t4 e4 => ⟨B4, rhGr4, w4, T3.trans t4, e4, po⟩
    | ct rhGr4 w4 => exact fun siGr4 B4 H4 t4 e4 => ⟨B4, rhGr4, w4, T3.trans t4, e4, po⟩
    | bk rhGr4 w4 => exact fun siGr4 B4 H4 t4 e4 => q (.nx rhGr4 w4) po siGr4 B4 H4 ((t1.trans T3).trans t4) e4
    | rt d4 w4 => exact fun v B4 H4 t4 r4 => q (.rt d4 w4) po v B4 H4 ((t1.trans T3).trans t4) r4
  · obtain rfl : i = ds.length := by omega
    exact .inl ⟨k2 rfl, q _ (iE rhGr' w' hI) siGr' B' H' (t1.trans t) e'⟩

theorem walk_of {K : PySem.W.Frag} {J : It} {ds : List D} {C : Own → Prop} {w1 : Own} {B1 H1 : Hp} (h : ∀ (i : Nat) w' B' H', To K w1 B1 H1 w' B' H' → C w' → (∀ d, ds[i]? = some d → J.go i H' ∧ ∀ x H2, J.yld i H' x H2 → H2 = H' ∧ Rep K B' x d) ∧ (ds.length = i → J.stop i H')) :
    Walk K J ds C w1 B1 H1 := fun i w' B' H' t c => by
  obtain ⟨h1, h2⟩ := h i w' B' H' t c
  refine ⟨fun d hd => ?_, h2⟩
  obtain ⟨g, y⟩ := h1 d hd
  refine ⟨g, fun x H2 hy => ?_⟩
  obtain ⟨rfl, r⟩ := y x H2 hy
  exact ⟨B', .refl t.ok, r⟩
theorem wi_tup (h : WE Z tl rhGr w fun d w1 => ∃ ds, d = .tup ds ∧ PI ds (fun _ => True) w1) : WI Z (iTup Z.K tl) rhGr w PI := fun siGr B H k e er R q =>
  h siGr B H k e er _ fun v d w1 B1 H1 ⟨ds, hd, p⟩ t r => by
    subst hd
    cases r with
    | @tup a vs _ hq rs =>
      have hq' := sqT_mono t.ok.l hq
      refine ⟨a, rfl, ⟨vs, hq'⟩, q _ ds _ w1 B1 H1 p t (walk_of fun i w' B' H' t' _ => ?_)⟩
      have hs : SqT Z.K H' a vs := sqT_mono (t'.go.b.trans t'.ok.l) hq
      refine ⟨fun d hd => ?_, fun hl => ⟨vs, hs, by rw [rs.length]; omega⟩⟩
      obtain ⟨v, hv, rv⟩ := rs.getD hd
      refine ⟨⟨vs, v, hs, hv⟩, fun x H2 ⟨e1, y⟩ => ⟨e1, ?_⟩⟩
      have := y vs hs
      rw [hv] at this
      cases this
      exact rv.mono t'.go.b
theorem wi_seq {a : Addr} {vs : List V} {ds : List D} {w1 : Own} {B1 H1 : Hp} {C : Own → Prop} (rs : Reps Z.K B1 vs ds) (hs : ∀ w' B' H', To Z.K w1 B1 H1 w' B' H' → C w' → SqL Z.K H' a vs) : Walk Z.K (Itl Z.K a) ds C w1 B1 H1 :=
  walk_of fun i w' B' H' t' c => by
    have hq := hs w' B' H' t' c
    refine ⟨fun d hd => ?_, fun hl => ⟨vs, hq, by rw [rs.length]; omega⟩⟩
    obtain ⟨v, hv, rv⟩ := rs.getD hd
    refine ⟨⟨vs, v, hq, hv⟩, fun x H2 ⟨e1, y⟩ => ⟨e1, ?_⟩⟩
    have := y vs hq
    rw [hv] at this
    cases this
    exact rv.mono t'.go.b
/-- a list that is known -/
theorem wi_lst (h : WE Z tl rhGr w fun d w1 => ∃ ds, (d = .lst ds ∨ d = .sq ds) ∧ PI ds (fun _ => True) w1) : WI Z (iList Z.K tl) rhGr w PI := fun siGr B H k e er R q =>
  h siGr B H k e er _ fun v d w1 B1 H1 ⟨ds, hd, p⟩ t r => by
    rcases hd with rfl | rfl
    · cases r with
      | @lst a vs _ hq rs =>
        exact ⟨a, rfl, ⟨vs, .inl (.inl (t.ok.l _ _ hq))⟩, q _ ds _ w1 B1 H1 p t (wi_seq rs fun w' B' H' t' _ => .inl (.inl (t'.ok.l _ _ (t'.go.b _ _ hq))))⟩
    · cases r with
      | @sq a vs _ hq rs =>
        exact ⟨a, rfl, ⟨vs, t.ok.l.seq hq⟩, q _ ds _ w1 B1 H1 p t (wi_seq rs fun w' B' H' t' _ => (t'.go.b.trans t'.ok.l).seq hq)⟩
/-- a list that is owned, and stays through the walk -/
theorem wi_own (h : WE Z tl rhGr w fun d w1 => ∃ p ds, d = .adr p ∧ (p, .lst ds) ∈ w1 ∧ PI ds (fun w' => (p, .lst ds) ∈ w') w1) : WI Z (iList Z.K tl) rhGr w PI := fun siGr B H k e er R q =>
  h siGr B H k e er _ fun v d w1 B1 H1 ⟨p, ds, hd, hm, pp⟩ t r => by
    subst hd
    cases r
    obtain ⟨o, ho, hh⟩ := (t.ok.own _ hm).ob
    cases hh with
    | lst rs =>
      refine ⟨p, rfl, ⟨_, .inl (.inl ho)⟩, q _ ds _ w1 B1 H1 pp t (walk_of fun i w' B' H' t' c => ?_)⟩
      obtain ⟨o', ho', hh'⟩ := (t'.ok.own _ c).ob
      cases hh' with
      | @lst vs' _ rs' =>
        have hq : SqL Z.K H' p vs' := .inl (.inl ho')
        refine ⟨fun d hd => ?_, fun hl => ⟨vs', hq, by rw [rs'.length]; omega⟩⟩
        obtain ⟨v, hv, rv⟩ := rs'.getD hd
        refine ⟨⟨vs', v, hq, hv⟩, fun x H2 ⟨e1, y⟩ => ⟨e1, ?_⟩⟩
        have := y vs' hq
        rw [hv] at this
        cases this
        exact rv
def iterN (n : Nat) : List D := (List.range n).map fun i => .int (i : Nat)
def iterR (lo : Int) (n : Nat) : List D := (List.range n).map fun i => .int (lo + (i : Nat))
theorem iterN_at {n i : Nat} {d : D} (h : (iterN n)[i]? = some d) : i < n ∧ d = .int (i : Nat) := by
  unfold iterN at h
  rw [List.getElem?_map] at h
  by_cases hi : i < n
  · rw [List.getElem?_range hi] at h
    exact ⟨hi, (Option.some.inj h).symm⟩
  · rw [List.getElem?_eq_none (by simpa using hi)] at h; cases h
theorem iterR_at {lo : Int} {n i : Nat} {d : D} (h : (iterR lo n)[i]? = some d) : i < n ∧ d = .int (lo + (i : Nat)) := by
  unfold iterR at h
  rw [List.getElem?_map] at h
  by_cases hi : i < n
  · rw [List.getElem?_range hi] at h
    exact ⟨hi, (Option.some.inj h).symm⟩
  · rw [List.getElem?_eq_none (by simpa using hi)] at h; cases h
theorem iterN_len (n : Nat) : (iterN n).length = n := by simp [iterN]
theorem iterR_len (lo : Int) (n : Nat) : (iterR lo n).length = n := by simp [iterR]
theorem wi_rng1 (h : WA Z ta rhGr w fun ds w1 => ∃ n : Int, ds = [.int n] ∧ -(2 ^ 62) ≤ n ∧ n < 2 ^ 62 ∧ PI (iterN n.toNat) (fun _ => True) w1) : WI Z (iRng1 ta) rhGr w PI := fun siGr B H k e er R q =>
  h siGr B H k e er _ fun vs ds w1 B1 H1 ⟨n, hd, n1, n2, p⟩ t r => by
    subst hd
    cases r with
    | cons r rr =>
      cases rr; cases r
      refine ⟨n, rfl, n1, n2, q _ _ _ w1 B1 H1 p t (walk_of fun i w' B' H' t' _ => ⟨fun d hd => ?_, fun hl => by rw [iterN_len] at hl; exact Nat.le_of_eq hl⟩)⟩
      obtain ⟨h1, rfl⟩ := iterN_at hd
      refine ⟨h1, fun x H2 ⟨e1, y⟩ => ⟨e1, ?_⟩⟩
      rw [y, Int.zero_add]
      exact .int _
theorem wi_rng2 (h : WA Z ta rhGr w fun ds w1 => ∃ lo hi : Int, ds = [.int lo, .int hi] ∧ (-(2 ^ 62) ≤ lo ∧ lo < 2 ^ 62 ∧ -(2 ^ 62) ≤ hi ∧ hi < 2 ^ 62) ∧ PI (iterR lo (hi - lo).toNat) (fun _ => True) w1) : WI Z (iRng2 ta) rhGr w PI := fun siGr B H k e er R q =>
  h siGr B H k e er _ fun vs ds w1 B1 H1 ⟨lo, hi, hd, n1, p⟩ t r => by
    subst hd
    cases r with
    | cons r rr =>
      cases rr with
      | cons r2 rr =>
        cases rr; cases r; cases r2
        refine ⟨lo, hi, rfl, n1, q _ _ _ w1 B1 H1 p t (walk_of fun i w' B' H' t' _ => ⟨fun d hd => ?_, fun hl => by rw [iterR_len] at hl; exact Nat.le_of_eq hl⟩)⟩
        obtain ⟨h1, rfl⟩ := iterR_at hd
        refine ⟨h1, fun x H2 ⟨e1, y⟩ => ⟨e1, ?_⟩⟩
        rw [y]
        exact .int _

/-! ### while -/
theorem ws_while {tc : TT} (I : Nat → Sl → Own → Prop) (m0 : Nat) (i0 : I m0 rhGr w)
    (hs : ∀ m rhGr' w', I m rhGr' w' → WT Z tc rhGr' w' fun b w1 => (b = true → WS Z tb rhGr' w1 (Out.loop (fun rhGr2 w2 => ∃ m', m' < m ∧ I m' rhGr2 w2) PO)) ∧ (b = false → PO (.nx rhGr' w1))) : WS Z (tWhile tc tb) rhGr w PO := by
  intro siGr B H k e er D q
  refine ⟨fun m siGr' H' => ∃ B' rhGr' w', To Z.K w B H w' B' H' ∧ EnvR Z.K B' siGr' rhGr' ∧ I m rhGr' w', ⟨m0, B, rhGr, w, .refl k, e, i0⟩, ?_⟩
  rintro m siGr' H' ⟨B', rhGr', w', t, e', hI⟩
  refine hs m rhGr' w' hI siGr' B' H' t.ok e' (er.on t) _ fun b w1 B1 H1 ⟨p1, p2⟩ t1 => ?_
  have T := t.trans t1
  cases b with
  | true =>
    show ∃ N : L2.St → Hp → Prop, _
    refine ⟨fun siGr2 H2 => ∃ m', m' < m ∧ ∃ B2 rhGr2 w2, To Z.K w B H w2 B2 H2 ∧ EnvR Z.K B2 siGr2 rhGr2 ∧ I m' rhGr2 w2, fun siGr2 H2 h => h, ?_⟩
    refine p1 rfl siGr' B1 H1 t1.ok (e'.mono t1.go.b) (er.on T) _ fun o po => ?_
    cases o with
    | nx rhGr4 w4 => exact fun siGr4 B4 H4 t4 e4 => let ⟨m', l, i⟩ := po; ⟨m', l, B4, rhGr4, w4, T.trans t4, e4, i⟩
    | ct rhGr4 w4 => exact fun siGr4 B4 H4 t4 e4 => let ⟨m', l, i⟩ := po; ⟨m', l, B4, rhGr4, w4, T.trans t4, e4, i⟩
    | bk rhGr4 w4 => exact fun siGr4 B4 H4 t4 e4 => q (.nx rhGr4 w4) po siGr4 B4 H4 (T.trans t4) e4
    | rt d4 w4 => exact fun v B4 H4 t4 r4 => q (.rt d4 w4) po v B4 H4 (T.trans t4) r4
  | false =>
    show D.nx siGr' H1
    exact q _ (p2 rfl) siGr' B1 H1 T (e'.mono t1.go.b)

/-! ### freezing -/
theorem holds_rep {K : PySem.W.Frag} {B : Hp} {p : Addr} {o : HO} {d : D} (hB : B p = none) (hh : Holds K B o d) : Rep K (upd B p o) (.ref p) d := by
  have m := hh.mono (Same.upd_new (o := o) hB)
  cases m with
  | lst r => exact .lst upd_same r
  | dct r => exact .dct upd_same r
  | ins r => exact .ins upd_same r
  | ext => exact .ext upd_same
  | exb r => exact .exb upd_same
/-- an owned object of a slot becomes data -/
theorem ws_freeze {ts : TS} (i : Nat) {p : Addr} {d : D} (hi : w[i]? = some (p, d)) (rhGr' : Sl) (hl : rhGr'.length = rhGr.length) (hs : ∀ (j : Nat) (x : D), rhGr'[j]? = some (some x) → rhGr[j]? = some (some x) ∨ (rhGr[j]? = some (some (.adr p)) ∧ x = d)) (h : WS Z ts rhGr' (w.eraseIdx i) PO) : WS Z ts rhGr w PO := by
  intro siGr B H k e er D q
  obtain ⟨o, ho, hh, t⟩ := To.freeze k hi
  have hB := (k.own _ (List.mem_of_getElem? hi)).none
  refine h siGr _ H t.ok ⟨e.len.trans hl.symm, fun j x hx => ?_⟩ (er.on t) D fun o po => (q o po).on t
  rcases hs j x hx with h1 | ⟨h1, h2⟩
  · exact (e.mono t.go.b).get j x h1
  · obtain ⟨v, hv, rv⟩ := e.get j _ h1
    cases rv
    subst h2
    exact ⟨_, hv, holds_rep hB hh⟩
theorem we_freeze (h : WE Z te rhGr w fun d w1 => ∃ i p x, d = .adr p ∧ w1[i]? = some (p, x) ∧ P x (w1.eraseIdx i)) : WE Z te rhGr w P := fun siGr B H k e er Q q =>
  h siGr B H k e er _ fun v d w1 B1 H1 ⟨i, p, x, hd, hi, pp⟩ t r => by
    subst hd
    cases r
    obtain ⟨o, ho, hh, t2⟩ := To.freeze t.ok hi
    exact q _ _ _ _ _ pp (t.trans t2) (holds_rep (t.ok.own _ (List.mem_of_getElem? hi)).none hh)

/-! ### comprehensions whose element touches nothing -/
theorem we_lc {j : Nat} (h : WI Z wi rhGr w fun ds C w1 => ∃ es : List D, es.length = ds.length ∧ ds.length ≤ 1000000 ∧ (∀ x, C (w1 ++ [x])) ∧
    (∀ (i : Nat) x, ds[i]? = some x → WE Z te (rhGr.set j (some x)) w1 fun d w' => es[i]? = some d ∧ w' = w1) ∧ P (.lst es) w1) : WE Z (tLc wi (gName j) tYes te [j]) rhGr w P := by
  intro siGr B H k e er Q q
  refine h siGr B H k e er _ fun J ds C w1 B1 H1 ⟨es, hl, hz, hC, hE, hP⟩ t1 wk => ?_
  intro Dl hD
  have t0 := To.newO (d := .lst []) t1.ok hD (.lst .nil)
  refine ⟨fun i m H' => m = ds.length - i ∧ i ≤ ds.length ∧ ∃ B', To Z.K w1 B1 H1 (w1 ++ [(Dl, .lst (es.take i))]) B' H', ⟨ds.length, by simp, Nat.zero_le _, B1, t0⟩, ?_⟩
  rintro i m H' ⟨rfl, hi, B', t⟩
  obtain ⟨k1, k2⟩ := wk i _ B' H' t (hC _)
  have hw : wipe siGr [j] = siGr.set j none := rfl
  by_cases hlt : i < ds.length
  · obtain ⟨d, hd⟩ : ∃ d, ds[i]? = some d := ⟨ds[i], by simp [hlt]⟩
    obtain ⟨g1, g2⟩ := k1 d hd
    refine .inr ⟨g1, fun H2 => ∃ B2, To Z.K w1 B1 H1 (w1 ++ [(Dl, .lst (es.take (i + 1)))]) B2 H2, fun H2 ⟨B2, a⟩ => ⟨ds.length - (i + 1), by omega, rfl, hlt, B2, a⟩, fun x H2 y => ?_⟩
    obtain ⟨B2, t2, r2⟩ := g2 x H2 y
    have T := t.trans t2
    rw [hw]
    refine ⟨by show ((siGr.set j none).set j (some x)).set j none = siGr.set j none; rw [List.set_set, List.set_set], ?_⟩
    unfold tYes
    simp only [if_true]
    have e2 : EnvR Z.K B2 ((siGr.set j none).set j (some x)) (rhGr.set j (some d)) := by
      have := ((e.mono (t1.trans T).go.b).unset j).set r2 j
      have erhGr : (rhGr.set j none).set j (some d) = rhGr.set j (some d) := List.set_set ..
      rw [erhGr] at this
      exact this
    refine hE i d hd _ B2 H2 T.drop.ok e2 (er.on (t1.trans T.drop)) _ fun y d' w' B3 H3 ⟨hy, hw'⟩ t3 r3 => ?_
    subst hw'
    have T3 := T.trans (To.frame T.ok t3)
    have il : (w' ++ [(Dl, D.lst (es.take i))])[w'.length]? = some (Dl, D.lst (es.take i)) := by simp
    obtain ⟨o, ho, hh⟩ := (T3.ok.own _ (List.mem_of_getElem? il)).ob
    cases hh with
    | lst rr =>
      refine ⟨_, ho, ?_, ?_⟩
      · rw [rr.length, sizeLine_eq, List.length_take]; omega
      · have e3 : es.take (i + 1) = es.take i ++ [d'] := by
          rw [List.take_add_one, hy]; rfl
        have t4 := To.mut T3.ok il (d' := .lst (es.take (i + 1))) (.lst (by rw [e3]; exact rr.append (.cons r3 .nil)))
        refine ⟨B3, ?_⟩
        have e4 : (w' ++ [(Dl, D.lst (es.take i))]).set w'.length (Dl, D.lst (es.take (i + 1))) = w' ++ [(Dl, D.lst (es.take (i + 1)))] := by
          rw [List.set_append_right _ _ (Nat.le_refl _)]; simp
        rw [e4] at t4
        exact T3.trans t4
  · obtain rfl : i = ds.length := by omega
    refine .inl ⟨k2 rfl, ?_⟩
    have e5 : es.take ds.length = es := by rw [← hl]; exact List.take_length
    rw [e5] at t
    have il : (w1 ++ [(Dl, D.lst es)])[w1.length]? = some (Dl, D.lst es) := by simp
    obtain ⟨o, ho, hh, t6⟩ := To.freeze t.ok il
    have e6 : (w1 ++ [(Dl, D.lst es)]).eraseIdx w1.length = w1 := by
      rw [List.eraseIdx_append_of_length_le (Nat.le_refl _)]; simp
    rw [e6] at t6
    exact q _ _ w1 _ H' hP ((t1.trans t).trans t6) (holds_rep (t.ok.own _ (List.mem_of_getElem? il)).none hh)
end

/-! ### defs -/
/-- a def's promise over data: arguments, what is owned, what is wanted of its answer, of its error -/
abbrev DSpec := List D → Own → (D → Own → Prop) → (Own → Prop) → Prop
def spOf (K : PySem.W.Frag) (T : Addr) (S : DSpec) : Sp := fun vs H Q E => ∃ B ds w P X, Ok K B H w ∧ Reps K B vs ds ∧ S ds w P X ∧
  (∀ v d w' B' H', P d w' → To K w B H w' B' H' → Rep K B' v d → Q v H') ∧ ∀ w' B' H', X w' → To K w B H w' B' H' → E (.ref T) none H'
/-- a call, of the owned the first ones handed on -/
def CS (S : DSpec) (ds : List D) (w : Own) (P : D → Own → Prop) (X : Own → Prop) : Prop := ∃ mine rest, w = mine ++ rest ∧ S ds mine (fun d m' => P d (m' ++ rest)) fun m' => X (m' ++ rest)
section
variable {Z : Zt} {te : TE} {tl : TA} {rhGr : Sl} {w : Own} {P : D → Own → Prop}
theorem we_call {S : DSpec} {E : XK} {T : Addr} (hE : E = Z.E) (hT : T = Z.T) (h : WA Z tl rhGr w fun ds w1 => CS S ds w1 P Z.X) : WE Z (tCall (spOf Z.K T S) [] E tl) rhGr w P := by
  subst hE hT
  intro siGr B H k e er Q q
  refine h siGr B H k e er _ fun vs ds w1 B1 H1 ⟨mine, rest, hw, p1⟩ t1 r1 => ?_
  subst hw
  rw [List.append_nil]
  exact ⟨B1, ds, mine, _, _, t1.ok.left, r1, p1, fun v d w' B' H' p t r => q v d _ B' H' p (t1.trans (To.frame t1.ok t)) r, fun w' B' H' x t => er _ B' H' x (t1.trans (To.frame t1.ok t))⟩
/-- a call of a def that raises nothing -/
theorem we_call0 {S : DSpec} {E : XK} {T : Addr} (h : WA Z tl rhGr w fun ds w1 => CS S ds w1 P fun _ => False) : WE Z (tCall (spOf Z.K T S) [] E tl) rhGr w P := by
  intro siGr B H k e er Q q
  refine h siGr B H k e er _ fun vs ds w1 B1 H1 ⟨mine, rest, hw, p1⟩ t1 r1 => ?_
  subst hw
  rw [List.append_nil]
  exact ⟨B1, ds, mine, _, _, t1.ok.left, r1, p1, fun v d w' B' H' p t r => q v d _ B' H' p (t1.trans (To.frame t1.ok t)) r, fun w' B' H' x t => x.elim⟩
def rho (N : List Str) (ds : List D) : Sl := ds.map some ++ List.replicate (N.length - ds.length) none
theorem envR_start {K : PySem.W.Frag} {B : Hp} {N : List Str} {vs : List V} {ds : List D} (r : Reps K B vs ds) : EnvR K B (L2.start N vs) (rho N ds) := by
  unfold L2.start rho
  rw [r.length]
  refine ⟨by simp [r.length], fun i d h => ?_⟩
  by_cases hi : i < ds.length
  · rw [List.getElem?_append_left (by simpa using hi), List.getElem?_map] at h
    obtain ⟨x, hx, e⟩ := Option.map_eq_some_iff.mp h
    cases e
    obtain ⟨v, hv, rv⟩ := r.getD hx
    exact ⟨v, by rw [List.getElem?_append_left (by simpa [r.length] using hi), List.getElem?_map, hv]; rfl, rv⟩
  · rw [List.getElem?_append_right (by simpa using hi)] at h
    have := List.mem_of_getElem? h
    rw [List.mem_replicate] at this
    cases this.2
/-- what a def's body is to reach -/
@[reducible] def Post (P : D → Own → Prop) : Out → Prop
  | .nx _ w => P .non w
  | .rt d w => P d w
  | _ => False
end
section
variable {P : Program} {w : World} {K : PySem.W.Frag} {mg : Str → Option Value} {base : Heap}
theorem body_ok {t : TS} {S : DSpec} {T : Addr} {N : List Str} {vs : List V} {H : Hp} {Q : VK} {E : XK} (h : spOf K T S vs H Q E)
    (b : ∀ ds w P X, S ds w P X → WS ⟨K, E, T, X⟩ t (rho N ds) w (Post P)) : t { nx := fun _ H' => Q .non H', rt := Q } (L2.start N vs) H := by
  obtain ⟨B, ds, w, P, X, k, r, hS, q, x⟩ := h
  refine b ds w P X hS _ B H k (envR_start r) (fun w' B' H' hx t => x w' B' H' hx t) _ fun o po => ?_
  cases o with
  | nx rhGr' w' => exact fun siGr' B' H' t e => q _ _ w' B' H' po t .non
  | rt d w' => exact fun v B' H' t e => q _ _ w' B' H' po t e
  | bk rhGr' w' => exact (show False from po).elim
  | ct rhGr' w' => exact (show False from po).elim
/-- THE RULE for a def that raises nothing -/
theorem fnD {x qual : Str} {st : Stmt} {f : Addr} {fd : FuncData} {N ps : List Str} {k : Nat} {S : DSpec} {T : Addr} (F : Fun K x qual st f fd) (Sc : FnScope N ps (defScope st)) (len : ∀ ds w P X, S ds w P X → ds.length = ps.length)
    (hb : ∀ (cdv : Value) (A : Around) (outer : List Env) (s : Shared) (H : Hp) (E : XK), Room k (A.deeper (envOfC qual (defScope st) s.heap.objs.size f cdv)) →
      ∃ t, PSs (cxOf CX0 P w K mg base N qual (defScope st) f cdv A outer s H E).nox (defBody st) t ∧ ∀ ds w P X, S ds w P X → WS ⟨K, E, T, X⟩ t (rho N ds) w (Post P)) : FnOk P w K mg base CX0 (k + 1) f fd ps (spOf K T S) :=
  F.ok Sc (fun vs H Q E ⟨_, ds, _, _, _, _, r, hS, _⟩ => r.length.trans (len _ _ _ _ hS)) fun cdv A outer s H vs Q E hr h => by
    obtain ⟨t, h1, h2⟩ := hb cdv A outer s H E hr
    exact ⟨t, h1, body_ok h h2⟩
end
end DL
end
section
namespace DL
open PySem L2
open PySem.Spec PyProof.Rows

/-! ### rules by values -/
abbrev rAddI : R2 := rI0 fun i j => .int (i + j)
abbrev rSubI : R2 := rI0 fun i j => .int (i - j)
abbrev rAddS : R2 := fun x y H Q => ∃ i j, x = .str i ∧ y = .str j ∧ i.length + j.length ≤ sizeLine ∧ Q (.str (i ++ j)) H
def rPlus (K : PySem.W.Frag) : R2 := fun x y H Q => rAddI x y H Q ∨ rAddS x y H Q ∨ rCatA K x y H Q
def rMulX : R2 := fun x y H Q => rI CMul (fun i j => .int (i * j)) x y H Q ∨ rI CMulW (fun i j => .int (i * j)) x y H Q
abbrev rModI : R2 := rI (fun _ j => 0 < j) fun i j => .int (i % j)
abbrev rDivI : R2 := rI CDiv fun i j => .int (i / j)
abbrev rPowI : R2 := rI CPow fun i j => .int (i ^ j.toNat)
abbrev rAndI : R2 := rI0 fun i j => .int (Builtin.bitAnd i j)
def rEqX (K : PySem.W.Frag) : R2 := fun x y H Q => rEq x y H Q ∨ rEqD K x y H Q
def rNeX (K : PySem.W.Frag) : R2 := fun x y H Q => rNe x y H Q ∨ rNeD K x y H Q
/-- data that are alike -/
def rLtD (K : PySem.W.Frag) : R2 := fun x y H Q => ∃ d e, Dp K H x d ∧ Dp K H y e ∧ PySem.W.alike d e = true ∧ d ≠ .none ∧ d.depth ≤ 60 ∧ Q (.bl (PySem.W.dataLt d e)) H
def rLtX (K : PySem.W.Frag) : R2 := fun x y H Q => rI0 (fun i j => .bl (decide (i < j))) x y H Q ∨ (∃ i j, x = .str i ∧ y = .str j ∧ Q (.bl (decide (i.cps.toList < j.cps.toList))) H) ∨ rLtD K x y H Q
def rLeX : R2 := fun x y H Q => rI0 (fun i j => .bl (decide (i ≤ j))) x y H Q ∨ (∃ i j, x = .str i ∧ y = .str j ∧ Q (.bl (!decide (j.cps.toList < i.cps.toList))) H)
def rInDct : R2 := fun x y H Q => ∃ a o, y = .ref a ∧ DGet H a x o ∧ Q (.bl o.isSome) H
def rNotInDct : R2 := fun x y H Q => ∃ a o, y = .ref a ∧ DGet H a x o ∧ Q (.bl (!o.isSome)) H
def rInX (K : PySem.W.Frag) : R2 := fun x y H Q => rIn K false x y H Q ∨ rInDct x y H Q
def rNotInX (K : PySem.W.Frag) : R2 := fun x y H Q => rIn K true x y H Q ∨ rNotInDct x y H Q
def rIxDct : R2 := fun x y H Q => ∃ a v, x = .ref a ∧ DGet H a y (some v) ∧ Q v H
def rIxX (K : PySem.W.Frag) : R2 := fun x y H Q => rIxL K x y H Q ∨ rIxT K x y H Q ∨ rIxS x y H Q ∨ rIxDct x y H Q
section
variable {X : Cx}
theorem op_plus : OpR X (binaryOp .Add) (rPlus X.K) := op_add.or (op_add_str.or op_catA)
theorem op_mulX : OpR X (binaryOp .Mult) rMulX := op_mul.or op_mulW
theorem op_eqX (hu : X.A.units + 64 < cLine) : OpR X (compareOp .Eq) (rEqX X.K) := op_eq.or (op_eqD hu)
theorem op_neX (hu : X.A.units + 64 < cLine) : OpR X (compareOp .NotEq) (rNeX X.K) := op_ne.or (op_neD hu)
theorem op_ltD (hu : X.A.units + 64 < cLine) : OpR X (compareOp .Lt) (rLtD X.K) := by
  intro pins s siGr H x y v u Q I rx ry h
  obtain ⟨d, e, hd, he, ha, hn, hz, q⟩ := h
  obtain ⟨as, r1⟩ := Dp.reads I d x v hd rx
  obtain ⟨bs, r2⟩ := Dp.reads I e y u he ry
  have := PySem.W.rcLt_alike d e X.A s v u as bs r1 r2 ha hn (by omega)
  exact this X.prog X.w X.xe _ ⟨.bl _, H, I, rfl, q⟩
theorem op_ltX (hu : X.A.units + 64 < cLine) : OpR X (compareOp .Lt) (rLtX X.K) := op_lt.or (op_lt_str.or (op_ltD hu))
theorem op_leX : OpR X (compareOp .LtE) rLeX := op_le.or op_le_str
theorem op_inDct (hu : X.A.units + 1 < cLine) : OpR X (compareOp .In) rInDct := by
  intro pins s siGr H x y v u Q I rx ry h
  obtain ⟨a, o, rfl, g, q⟩ := h
  cases ry
  exact d_in hu I g rx fun s' I' => ⟨.bl _, H, I', rfl, q⟩
theorem op_notInDct (hu : X.A.units + 1 < cLine) : OpR X (compareOp .NotIn) rNotInDct := by
  intro pins s siGr H x y v u Q I rx ry h
  obtain ⟨a, o, rfl, g, q⟩ := h
  cases ry
  exact d_notIn hu I g rx fun s' I' => ⟨.bl _, H, I', rfl, q⟩
theorem op_inX (hu : X.A.units + 1 < cLine) : OpR X (compareOp .In) (rInX X.K) := op_in_seq.or (op_inDct hu)
theorem op_notInX (hu : X.A.units + 1 < cLine) : OpR X (compareOp .NotIn) (rNotInX X.K) := op_notIn_seq.or (op_notInDct hu)
theorem ix_dct (hu : X.A.units + 1 < cLine) : IxR X rIxDct := by
  intro value slice pins s siGr H x y v u Q I rx ry h hs
  obtain ⟨a, z, rfl, g, q⟩ := h
  cases rx
  have ht : s.TypeIs (.ref a) "dict" := (isD_at I (by
    rcases g with ⟨kvs, k, e, _, _⟩ | ⟨kvs, k, b, e, _, _, _⟩
    · exact .inl ⟨kvs, e⟩
    · exact .inr ⟨kvs, e⟩)).1
  exact tail_any ht PySem.F.slot_dict_getitem.lookup (d_getItem hu I g ry fun w' s' I' r => ⟨z, H, I', r, q⟩) hs
theorem ix_X (hu : X.A.units + 1 < cLine) : IxR X (rIxX X.K) := ix_list.or (ix_tup.or (ix_str.or (ix_dct hu)))
/-- o[i] = v: a list or a dict -/
def rSetX : TSet := fun o i v H Q => rSetL o i v H Q ∨ rSetD o i v H Q
theorem set_X (hu : X.A.units + 1 < cLine) : PSet X rSetX := by
  intro pins s siGr H o i v ov iv u Q I ro ri rv h
  rcases h with h | h
  · exact set_list pins s siGr H o i v ov iv u Q I ro ri rv h
  · exact set_dict hu pins s siGr H o i v ov iv u Q I ro ri rv h
/-- len -/
def rLenX (K : PySem.W.Frag) : List V → Hp → VK → Prop := fun xs H Q => (∃ x n, xs = [x] ∧ LenV K x H n ∧ Q (.int n) H) ∨ ∃ a kvs, xs = [.ref a] ∧ Rd H a (.dK kvs) ∧ Q (.int kvs.length) H
theorem cr_lenX : CallR X (.builtin "len") (rLenX X.K) := by
  refine call_len.or ?_
  intro pins s siGr H xs us Q I r h
  obtain ⟨a, kvs, rfl, ha, q⟩ := h
  obtain ⟨u, rfl, ru⟩ := vals1 r
  cases ru
  exact d_len I ha fun t s' I' => ⟨.int kvs.length, H, I', ⟨t, rfl⟩, q⟩
/-- list(..) -/
def rListX (K : PySem.W.Frag) : List V → Hp → VK → Prop := fun xs H Q => (∃ p ys, xs = [.ref p] ∧ (SqL K H p ys ∨ SqT K H p ys) ∧ ∀ l, H l = none → Q (.ref l) (upd H l (.lst ys))) ∨
  ∃ (a : Addr) (kvs : List (Key × V)), xs = [.ref a] ∧ Rd H a (.dK kvs) ∧ ∀ p, H p = none → Q (.ref p) (upd H p (.lst (kvs.map fun kv => kV kv.1)))
theorem cr_listX (hc : X.calm = true) : CallR X (.type "list") (rListX X.K) := call_list_of.or (call_listD hc)
/-- sorted(..) of texts, of a dict's keys -/
def rSrtS (K : PySem.W.Frag) : List V → Hp → VK → Prop := fun vs H Q => rSortedS K vs H Q ∨ ∃ (a : Addr) (kvs : List (Key × V)) (ks : List Str), vs = [.ref a] ∧ Rd H a (.dK kvs) ∧ kvs.map (·.1) = ks.map Sum.inr ∧ ks.length < 64 ∧
    ∀ ys p, ys.Perm ks → sortedS ys = true → H p = none → Q (.ref p) (upd H p (.lst (ys.map V.str)))
theorem cr_srtS (hc : X.calm = true) : CallR X (.builtin "sorted") (rSrtS X.K) := cr_sortedS.or (call_sortedD hc)
end

/-! ### the same over data -/
/-! as PyData -/
mutual
def py : D → PyData
  | .non => .none
  | .bl b => .bool b
  | .int i => .int i
  | .str s => .str s
  | .tup ds => .tuple (pys ds)
  | .lst ds => .list (pys ds)
  | .sq ds => .list (pys ds)
  | _ => .none
def pys : List D → List PyData
  | [] => []
  | d :: ds => py d :: pys ds
end
mutual
def isPy : D → Bool
  | .non => true
  | .bl _ => true
  | .int _ => true
  | .str _ => true
  | .tup ds => isPys ds
  | .lst ds => isPys ds
  | .sq ds => isPys ds
  | _ => false
def isPys : List D → Bool
  | [] => true
  | d :: ds => isPy d && isPys ds
end
section
variable {K : PySem.W.Frag} {B H : Hp}
mutual
theorem Rep.dp (l : Same B H) : ∀ {v : V} {d : D}, Rep K B v d → isPy d = true → Dp K H v (py d)
  | _, _, .non, _ => by rw [py]; exact .non
  | _, _, .bl b, _ => by rw [py]; exact .bl b
  | _, _, .int b, _ => by rw [py]; exact .int b
  | _, _, .str b, _ => by rw [py]; exact .str b
  | _, _, .adr b, h => by rw [isPy] at h <;> first | cases h | (intros; nofun)
  | _, _, .ty b, h => by rw [isPy] at h <;> first | cases h | (intros; nofun)
  | _, _, .tup h r, i => by rw [py]; rw [isPy] at i; exact .tup (sqT_mono l h) (Reps.dp l r i)
  | _, _, .lst h r, i => by rw [py]; rw [isPy] at i; exact .lst (.inl (.inl (l _ _ h))) (Reps.dp l r i)
  | _, _, .sq h r, i => by rw [py]; rw [isPy] at i; exact .lst (l.seq h) (Reps.dp l r i)
  | _, _, .dct _ _, h => by rw [isPy] at h <;> first | cases h | (intros; nofun)
  | _, _, .ins _ _, h => by rw [isPy] at h <;> first | cases h | (intros; nofun)
  | _, _, .ext _, h => by rw [isPy] at h <;> first | cases h | (intros; nofun)
  | _, _, .exb _, h => by rw [isPy] at h <;> first | cases h | (intros; nofun)
theorem Reps.dp (l : Same B H) : ∀ {v : List V} {d : List D}, Reps K B v d → isPys d = true → DpAll K H v (pys d)
  | _, _, .nil, _ => by rw [pys]; exact .nil
  | _, _, .cons r t, i => by
    rw [pys]
    rw [isPys, Bool.and_eq_true] at i
    exact .cons (Rep.dp l r i.1) (Reps.dp l t i.2)
end
end
section
variable {Z : Zt} {x y d : D} {xs ys ds : List D} {w : Own} {P : D → Own → Prop} {i j : Int} {a b : Str}
theorem rd_plus_int (p : P (.int (i + j)) w) : RD Z (rPlus Z.K) (.int i) (.int j) w P := fun B H vx vy k er rx ry Q q => by
  cases rx; cases ry
  exact .inl ⟨i, j, rfl, rfl, q _ _ w B H p (.refl k) (.int _)⟩
theorem rd_plus_str (hz : a.length + b.length ≤ 100000) (p : P (.str (a ++ b)) w) : RD Z (rPlus Z.K) (.str a) (.str b) w P := fun B H vx vy k er rx ry Q q => by
  cases rx; cases ry
  exact .inr (.inl ⟨a, b, rfl, rfl, by rw [sizeLine_eq]; omega, q _ _ w B H p (.refl k) (.str _)⟩)
theorem rd_plus_tup (hz : xs.length + ys.length ≤ 100000) (p : P (.tup (xs ++ ys)) w) : RD Z (rPlus Z.K) (.tup xs) (.tup ys) w P := fun B H vx vy k er rx ry Q q => by
  cases rx with
  | @tup a vs _ h1 r1 =>
    cases ry with
    | @tup b us _ h2 r2 =>
      refine .inr (.inr ⟨a, b, vs, us, rfl, rfl, sqT_mono k.l h1, sqT_mono k.l h2, by rw [r1.length, r2.length, sizeLine_eq]; omega, fun e => ?_, fun e1 e2 => ?_, fun e1 e2 p' hp => ?_⟩)
      · subst e; cases r1
        exact q _ _ w B H p (.refl k) (.tup h2 r2)
      · subst e2; cases r2
        rw [List.append_nil] at p
        exact q _ _ w B H p (.refl k) (.tup h1 r1)
      · have t := To.newB (o := .tup (vs ++ us)) k hp
        exact q _ _ w _ _ p t (.tup (.inl (.inl upd_same)) ((r1.append r2).mono t.go.b))
theorem rd_sub (p : P (.int (i - j)) w) : RD Z rSubI (.int i) (.int j) w P := fun B H vx vy k er rx ry Q q => by
  cases rx; cases ry
  exact ⟨i, j, rfl, rfl, q _ _ w B H p (.refl k) (.int _)⟩
theorem rd_mul (h : CMul i j ∨ CMulW i j) (p : P (.int (i * j)) w) : RD Z rMulX (.int i) (.int j) w P := fun B H vx vy k er rx ry Q q => by
  cases rx; cases ry
  rcases h with h | h
  · exact .inl ⟨i, j, rfl, rfl, h, q _ _ w B H p (.refl k) (.int _)⟩
  · exact .inr ⟨i, j, rfl, rfl, h, q _ _ w B H p (.refl k) (.int _)⟩
theorem rd_mod (h : 0 < j) (p : P (.int (i % j)) w) : RD Z rModI (.int i) (.int j) w P := fun B H vx vy k er rx ry Q q => by
  cases rx; cases ry
  exact ⟨i, j, rfl, rfl, h, q _ _ w B H p (.refl k) (.int _)⟩
theorem rd_div (h : CDiv i j) (p : P (.int (i / j)) w) : RD Z rDivI (.int i) (.int j) w P := fun B H vx vy k er rx ry Q q => by
  cases rx; cases ry
  exact ⟨i, j, rfl, rfl, h, q _ _ w B H p (.refl k) (.int _)⟩
theorem rd_pow (h : CPow i j) (p : P (.int (i ^ j.toNat)) w) : RD Z rPowI (.int i) (.int j) w P := fun B H vx vy k er rx ry Q q => by
  cases rx; cases ry
  exact ⟨i, j, rfl, rfl, h, q _ _ w B H p (.refl k) (.int _)⟩
theorem rd_and (p : P (.int (Builtin.bitAnd i j)) w) : RD Z rAndI (.int i) (.int j) w P := fun B H vx vy k er rx ry Q q => by
  cases rx; cases ry
  exact ⟨i, j, rfl, rfl, q _ _ w B H p (.refl k) (.int _)⟩
theorem rd_I0 {g : Int → Int → Bool} (p : P (.bl (g i j)) w) : RD Z (rI0 fun i j => .bl (g i j)) (.int i) (.int j) w P := fun B H vx vy k er rx ry Q q => by
  cases rx; cases ry
  exact ⟨i, j, rfl, rfl, q _ _ w B H p (.refl k) (.bl _)⟩
theorem rd_lt_int (p : P (.bl (decide (i < j))) w) : RD Z (rLtX Z.K) (.int i) (.int j) w P := fun B H vx vy k er rx ry Q q => by
  cases rx; cases ry
  exact .inl ⟨i, j, rfl, rfl, q _ _ w B H p (.refl k) (.bl _)⟩
theorem rd_lt_str (p : P (.bl (decide (a.cps.toList < b.cps.toList))) w) : RD Z (rLtX Z.K) (.str a) (.str b) w P := fun B H vx vy k er rx ry Q q => by
  cases rx; cases ry
  exact .inr (.inl ⟨a, b, rfl, rfl, q _ _ w B H p (.refl k) (.bl _)⟩)
theorem rd_lt_dat (hx : isPy x = true) (hy : isPy y = true) (ha : PySem.W.alike (py x) (py y) = true) (hn : py x ≠ .none) (hd : (py x).depth ≤ 60) (p : P (.bl (PySem.W.dataLt (py x) (py y))) w) : RD Z (rLtX Z.K) x y w P := fun B H vx vy k er rx ry Q q =>
  .inr (.inr ⟨_, _, rx.dp k.l hx, ry.dp k.l hy, ha, hn, hd, q _ _ w B H p (.refl k) (.bl _)⟩)
theorem rd_le_int (p : P (.bl (decide (i ≤ j))) w) : RD Z rLeX (.int i) (.int j) w P := fun B H vx vy k er rx ry Q q => by
  cases rx; cases ry
  exact .inl ⟨i, j, rfl, rfl, q _ _ w B H p (.refl k) (.bl _)⟩
theorem rd_le_str (p : P (.bl (!decide (b.cps.toList < a.cps.toList))) w) : RD Z rLeX (.str a) (.str b) w P := fun B H vx vy k er rx ry Q q => by
  cases rx; cases ry
  exact .inr ⟨a, b, rfl, rfl, q _ _ w B H p (.refl k) (.bl _)⟩
theorem rd_eq_int (p : P (.bl (decide (i = j))) w) : RD Z (rEqX Z.K) (.int i) (.int j) w P := fun B H vx vy k er rx ry Q q => by
  cases rx; cases ry
  refine .inl ⟨rfl, q _ _ w B H ?_ (.refl k) (.bl _)⟩
  rw [show decide (V.int i = V.int j) = decide (i = j) from by rw [dec_int]; exact Bool.beq_eq_decide_eq ..]
  exact p
theorem rd_eq_str (p : P (.bl (decide (a = b))) w) : RD Z (rEqX Z.K) (.str a) (.str b) w P := fun B H vx vy k er rx ry Q q => by
  cases rx; cases ry
  refine .inl ⟨rfl, q _ _ w B H ?_ (.refl k) (.bl _)⟩
  rw [show decide (V.str a = V.str b) = decide (a = b) from by rw [decide_eq_decide]; exact ⟨fun h => V.str.inj h, fun h => by rw [h]⟩]
  exact p
theorem rd_ne_int (p : P (.bl (!decide (i = j))) w) : RD Z (rNeX Z.K) (.int i) (.int j) w P := fun B H vx vy k er rx ry Q q => by
  cases rx; cases ry
  refine .inl ⟨rfl, q _ _ w B H ?_ (.refl k) (.bl _)⟩
  rw [show decide (V.int i = V.int j) = decide (i = j) from by rw [dec_int]; exact Bool.beq_eq_decide_eq ..]
  exact p
theorem rd_ne_str (p : P (.bl (!decide (a = b))) w) : RD Z (rNeX Z.K) (.str a) (.str b) w P := fun B H vx vy k er rx ry Q q => by
  cases rx; cases ry
  refine .inl ⟨rfl, q _ _ w B H ?_ (.refl k) (.bl _)⟩
  rw [show decide (V.str a = V.str b) = decide (a = b) from by rw [decide_eq_decide]; exact ⟨fun h => V.str.inj h, fun h => by rw [h]⟩]
  exact p
theorem rd_eq_dat (hx : isPy x = true) (hy : isPy y = true) (sx : SeqAt.shaped (py x) = true) (sy : SeqAt.shaped (py y) = true) (p : P (.bl (PyData.eqv (py x) (py y))) w) : RD Z (rEqX Z.K) x y w P := fun B H vx vy k er rx ry Q q =>
  .inr ⟨_, _, rx.dp k.l hx, ry.dp k.l hy, sx, sy, q _ _ w B H p (.refl k) (.bl _)⟩
theorem rd_ne_dat (hx : isPy x = true) (hy : isPy y = true) (sx : SeqAt.shaped (py x) = true) (sy : SeqAt.shaped (py y) = true) (p : P (.bl (!PyData.eqv (py x) (py y))) w) : RD Z (rNeX Z.K) x y w P := fun B H vx vy k er rx ry Q q =>
  .inr ⟨_, _, rx.dp k.l hx, ry.dp k.l hy, sx, sy, q _ _ w B H p (.refl k) (.bl _)⟩
/-- is None, is not None -/
abbrev rIsNone : R2 := fun x y H Q => y = .non ∧ Q (.bl (decide (x = .non))) H
abbrev rNotNone : R2 := fun x y H Q => y = .non ∧ Q (.bl (!decide (x = .non))) H
def isNonD : D → Bool
  | .non => true
  | _ => false
theorem Rep.non_iff {K : PySem.W.Frag} {B : Hp} {v : V} {d : D} (r : Rep K B v d) : decide (v = .non) = isNonD d := by cases r <;> rfl
theorem rd_isN (p : P (.bl (isNonD x)) w) : RD Z rIsNone x .non w P := fun B H vx vy k er rx ry Q q => by
  cases ry
  exact ⟨rfl, q _ _ w B H p (.refl k) (by rw [rx.non_iff]; exact .bl _)⟩
theorem rd_notN (p : P (.bl (!isNonD x)) w) : RD Z rNotNone x .non w P := fun B H vx vy k er rx ry Q q => by
  cases ry
  exact ⟨rfl, q _ _ w B H p (.refl k) (by rw [rx.non_iff]; exact .bl _)⟩
/-- a text in a row of texts -/
theorem inV_strs (a : Str) : ∀ ks : List Str, inV (.str a) (ks.map V.str) = decide (a ∈ ks)
  | [] => rfl
  | k :: ks => by
    have ih := inV_strs a ks
    unfold inV at ih ⊢
    rw [List.map_cons, List.any_cons, ih]
    have e : eqV (.str k) (.str a) = decide (a = k) := by
      show decide (k = a) = decide (a = k)
      rw [decide_eq_decide]; exact ⟨Eq.symm, Eq.symm⟩
    rw [e]
    by_cases h : a = k
    · subst h; simp
    · simp [h]
theorem flat_strs : ∀ ks : List Str, (ks.map V.str).all flatV = true
  | [] => rfl
  | k :: ks => by rw [List.map_cons, List.all_cons, flat_strs ks]; rfl
def strsOf (ds : List D) (ks : List Str) : Prop := ds = ks.map D.str
theorem rd_in_tup {ks : List Str} (h : ds = ks.map D.str) (p : P (.bl (decide (a ∈ ks))) w) : RD Z (rInX Z.K) (.str a) (.tup ds) w P := fun B H vx vy k er rx ry Q q => by
  subst h
  cases rx
  cases ry with
  | @tup c vs _ hq r =>
    have e := r.strs
    subst e
    refine .inl ⟨c, _, rfl, .inr (sqT_mono k.l hq), rfl, flat_strs ks, ?_⟩
    rw [inV_strs]
    exact q _ _ w B H p (.refl k) (.bl _)
theorem rd_notin_tup {ks : List Str} (h : ds = ks.map D.str) (p : P (.bl (!decide (a ∈ ks))) w) : RD Z (rNotInX Z.K) (.str a) (.tup ds) w P := fun B H vx vy k er rx ry Q q => by
  subst h
  cases rx
  cases ry with
  | @tup c vs _ hq r =>
    have e := r.strs
    subst e
    refine .inl ⟨c, _, rfl, .inr (sqT_mono k.l hq), rfl, flat_strs ks, ?_⟩
    rw [inV_strs]
    exact q _ _ w B H p (.refl k) (.bl _)
theorem rd_in_lst {ks : List Str} (h : ds = ks.map D.str) (p : P (.bl (decide (a ∈ ks))) w) : RD Z (rInX Z.K) (.str a) (.lst ds) w P := fun B H vx vy k er rx ry Q q => by
  subst h
  cases rx
  cases ry with
  | @lst c vs _ hq r =>
    have e := r.strs
    subst e
    refine .inl ⟨c, _, rfl, .inl (.inl (.inl (k.l _ _ hq))), rfl, flat_strs ks, ?_⟩
    rw [inV_strs]
    exact q _ _ w B H p (.refl k) (.bl _)
theorem rd_in_lstO {c : Addr} {ks : List Str} (n : Nat) (hn : w[n]? = some (c, .lst (ks.map D.str))) (p : P (.bl (decide (a ∈ ks))) w) : RD Z (rInX Z.K) (.str a) (.adr c) w P := fun B H vx vy k er rx ry Q q => by
  cases rx; cases ry
  obtain ⟨o, ho, hh⟩ := (k.own _ (List.mem_of_getElem? hn)).ob
  cases hh with
  | lst r =>
    have e := r.strs
    subst e
    refine .inl ⟨c, _, rfl, .inl (.inl (.inl ho)), rfl, flat_strs ks, ?_⟩
    rw [inV_strs]
    exact q _ _ w B H p (.refl k) (.bl _)

/-! ### dicts -/
def lk : List (Str × D) → Str → Option D
  | [], _ => none
  | (k, d) :: r, x => if k = x then some d else lk r x
def putD : List (Str × D) → Str → D → List (Str × D)
  | [], x, d => [(x, d)]
  | (k, e) :: r, x, d => if k = x then (k, d) :: r else (k, e) :: putD r x d
def RelOD (K : PySem.W.Frag) (B : Hp) : Option V → Option D → Prop
  | none, none => True
  | some v, some d => Rep K B v d
  | _, _ => False
theorem RepK.val {K : PySem.W.Frag} {B : Hp} (x : Str) : ∀ {ws : List (Key × V)} {kvs : List (Str × D)}, RepK K B ws kvs → RelOD K B (valV ws (.inr x)) (lk kvs x)
  | _, _, .nil => True.intro
  | _, _, .cons (x := y) (v := v) (d := d) r t => by
    unfold lk
    by_cases h : y = x
    · rw [if_pos h, valV_pos (by show (Sum.inr y : Key) = Sum.inr x; rw [h])]
      exact r
    · rw [if_neg h, valV_neg (by show ¬ (Sum.inr y : Key) = Sum.inr x; exact fun e => h (Sum.inr.inj e))]
      exact t.val x
theorem RepK.get {K : PySem.W.Frag} {B : Hp} {x : Str} {d : D} {ws : List (Key × V)} {kvs : List (Str × D)} (r : RepK K B ws kvs) (h : lk kvs x = some d) : ∃ v, valV ws (.inr x) = some v ∧ Rep K B v d := by
  have := r.val x
  rw [h] at this
  cases e : valV ws (.inr x) with
  | none => rw [e] at this; exact this.elim
  | some v => rw [e] at this; exact ⟨v, rfl, this⟩
theorem RepK.isSome {K : PySem.W.Frag} {B : Hp} {x : Str} {ws : List (Key × V)} {kvs : List (Str × D)} (r : RepK K B ws kvs) : (valV ws (.inr x)).isSome = (lk kvs x).isSome := by
  have := r.val x
  cases e : valV ws (.inr x) <;> cases f : lk kvs x <;> rw [e, f] at this <;> first | rfl | exact this.elim
theorem putK_cons_eq {kaGr : Type} [DecidableEq kaGr] {p : kaGr × V} {r : List (kaGr × V)} {k : kaGr} {v : V} (h : p.1 = k) (hn : valV r k = none) : putK (p :: r) k v = (p.1, v) :: r := by
  have ha : ((p :: r).any fun kv => decide (kv.1 = k)) = true := by simp [h]
  unfold putK
  rw [if_pos ha, List.map_cons, if_pos h]
  congr 1
  have : ∀ kv ∈ r, ¬ kv.1 = k := fun kv hk e => valV_not hn (List.mem_map.mpr ⟨kv, hk, e⟩)
  conv => rhs; rw [← List.map_id r]
  exact List.map_congr_left fun kv hk => if_neg (this kv hk)
theorem putK_cons_ne {kaGr : Type} [DecidableEq kaGr] {p : kaGr × V} {r : List (kaGr × V)} {k : kaGr} {v : V} (h : ¬ p.1 = k) : putK (p :: r) k v = p :: putK r k v := by
  have ha : ((p :: r).any fun kv => decide (kv.1 = k)) = (r.any fun kv => decide (kv.1 = k)) := by simp [h]
  unfold putK
  rw [ha]
  split
  · rw [List.map_cons, if_neg h]
  · rfl
theorem RepK.keys {K : PySem.W.Frag} {B : Hp} : ∀ {ws : List (Key × V)} {kvs : List (Str × D)}, RepK K B ws kvs → ws.map (·.1) = (kvs.map (·.1)).map Sum.inr
  | _, _, .nil => rfl
  | _, _, .cons r t => by rw [List.map_cons, List.map_cons, List.map_cons, t.keys]
theorem RepK.length {K : PySem.W.Frag} {B : Hp} : ∀ {ws : List (Key × V)} {kvs : List (Str × D)}, RepK K B ws kvs → ws.length = kvs.length
  | _, _, .nil => rfl
  | _, _, .cons r t => by rw [List.length_cons, List.length_cons, t.length]
theorem RepK.none_of {K : PySem.W.Frag} {B : Hp} {x : Str} {ws : List (Key × V)} {kvs : List (Str × D)} (r : RepK K B ws kvs) (h : ¬ x ∈ kvs.map (·.1)) : valV ws (.inr x) = none := by
  cases q : valV ws (.inr x) with
  | none => rfl
  | some z =>
    have := valV_in q
    rw [r.keys] at this
    obtain ⟨z, hz, e2⟩ := List.mem_map.mp this
    cases e2
    exact absurd hz h
theorem RepK.put {K : PySem.W.Frag} {B : Hp} {x : Str} {v : V} {d : D} (rv : Rep K B v d) : ∀ {ws : List (Key × V)} {kvs : List (Str × D)}, RepK K B ws kvs → (kvs.map (·.1)).Nodup → RepK K B (putK ws (.inr x) v) (putD kvs x d)
  | _, _, .nil, _ => .cons rv .nil
  | _, _, .cons (x := y) r t, nd => by
    rw [List.map_cons, List.nodup_cons] at nd
    unfold putD
    by_cases h : y = x
    · subst h
      rw [if_pos rfl, putK_cons_eq rfl (t.none_of nd.1)]
      exact .cons rv t
    · rw [if_neg h, putK_cons_ne (fun e2 => h (Sum.inr.inj e2))]
      exact .cons r (RepK.put rv t nd.2)
theorem putD_keys {x : Str} {d : D} : ∀ {kvs : List (Str × D)}, (putD kvs x d).map (·.1) = if x ∈ kvs.map (·.1) then kvs.map (·.1) else kvs.map (·.1) ++ [x]
  | [] => by simp [putD]
  | (y, e) :: r => by
    unfold putD
    by_cases h : y = x
    · subst h; simp
    · rw [if_neg h, List.map_cons, putD_keys]
      simp only [List.map_cons, List.mem_cons]
      have : ¬ x = y := fun e => h e.symm
      by_cases hm : x ∈ r.map (·.1)
      · rw [if_pos hm, if_pos (.inr hm)]
      · rw [if_neg hm, if_neg (by rintro (h1 | h1); exact this h1; exact hm h1)]
        rfl
theorem putD_nodup {x : Str} {d : D} {kvs : List (Str × D)} (nd : (kvs.map (·.1)).Nodup) : ((putD kvs x d).map (·.1)).Nodup := by
  rw [putD_keys]
  by_cases h : x ∈ kvs.map (·.1)
  · rw [if_pos h]; exact nd
  · rw [if_neg h]; exact nd_snoc nd h
theorem lk_putD {x y : Str} {d : D} : ∀ {kvs : List (Str × D)}, lk (putD kvs x d) y = if x = y then some d else lk kvs y
  | [] => rfl
  | (z, e) :: r => by
    unfold putD
    by_cases h : z = x
    · subst h
      rw [if_pos rfl]
      unfold lk
      by_cases h2 : z = y
      · rw [if_pos h2, if_pos h2]
      · rw [if_neg h2, if_neg h2, if_neg h2]
    · rw [if_neg h]
      unfold lk
      rw [lk_putD]
      by_cases h2 : z = y
      · rw [if_pos h2, if_pos h2, if_neg (fun e => h (h2.trans e.symm))]
      · rw [if_neg h2, if_neg h2]
theorem putD_len {x : Str} {d : D} : ∀ {kvs : List (Str × D)}, (putD kvs x d).length ≤ kvs.length + 1
  | [] => by simp [putD]
  | (z, e) :: r => by
    unfold putD
    by_cases h : z = x
    · rw [if_pos h]; simp
    · rw [if_neg h, List.length_cons, List.length_cons]
      have := putD_len (x := x) (d := d) (kvs := r)
      omega
theorem rd_in_dct {kvs : List (Str × D)} (p : P (.bl (lk kvs a).isSome) w) : RD Z (rInX Z.K) (.str a) (.dct kvs) w P := fun B H vx vy k er rx ry Q q => by
  cases rx
  cases ry with
  | @dct c ws _ hq r =>
    refine .inr ⟨c, _, rfl, DGet.k (k := .inr a) (k.l _ _ hq), ?_⟩
    rw [r.isSome]
    exact q _ _ w B H p (.refl k) (.bl _)
theorem rd_notin_dct {kvs : List (Str × D)} (p : P (.bl (!(lk kvs a).isSome)) w) : RD Z (rNotInX Z.K) (.str a) (.dct kvs) w P := fun B H vx vy k er rx ry Q q => by
  cases rx
  cases ry with
  | @dct c ws _ hq r =>
    refine .inr ⟨c, _, rfl, DGet.k (k := .inr a) (k.l _ _ hq), ?_⟩
    rw [r.isSome]
    exact q _ _ w B H p (.refl k) (.bl _)
theorem rd_notin_dctO {c : Addr} {kvs : List (Str × D)} (n : Nat) (hn : w[n]? = some (c, .dct kvs)) (p : P (.bl (!(lk kvs a).isSome)) w) : RD Z (rNotInX Z.K) (.str a) (.adr c) w P := fun B H vx vy k er rx ry Q q => by
  cases rx; cases ry
  obtain ⟨o, ho, hh⟩ := (k.own _ (List.mem_of_getElem? hn)).ob
  cases hh with
  | dct r =>
    refine .inr ⟨c, _, rfl, DGet.k (k := .inr a) ho, ?_⟩
    rw [r.isSome]
    exact q _ _ w B H p (.refl k) (.bl _)

/-! ### subscripts -/
theorem rd_ix_tup (hi : 0 ≤ i) (h : ds[i.toNat]? = some d) (p : P d w) : RD Z (rIxX Z.K) (.tup ds) (.int i) w P := fun B H vx vy k er rx ry Q q => by
  cases ry
  cases rx with
  | @tup c vs _ hq r =>
    obtain ⟨v, hv, rv⟩ := r.getD h
    exact .inr (.inl ⟨c, vs, i, v, rfl, rfl, sqT_mono k.l hq, at_of (by omega) hv, q _ _ w B H p (.refl k) rv⟩)
theorem rd_ix_lst (hi : 0 ≤ i) (h : ds[i.toNat]? = some d) (p : P d w) : RD Z (rIxX Z.K) (.lst ds) (.int i) w P := fun B H vx vy k er rx ry Q q => by
  cases ry
  cases rx with
  | @lst c vs _ hq r =>
    obtain ⟨v, hv, rv⟩ := r.getD h
    exact .inl ⟨c, vs, i, v, rfl, rfl, .inl (.inl (k.l _ _ hq)), at_of (by omega) hv, q _ _ w B H p (.refl k) rv⟩
theorem rd_ix_lstO {c : Addr} (n : Nat) (hn : w[n]? = some (c, .lst ds)) (hi : 0 ≤ i) (h : ds[i.toNat]? = some d) (p : P d w) : RD Z (rIxX Z.K) (.adr c) (.int i) w P := fun B H vx vy k er rx ry Q q => by
  cases rx; cases ry
  obtain ⟨o, ho, hh⟩ := (k.own _ (List.mem_of_getElem? hn)).ob
  cases hh with
  | lst r =>
    obtain ⟨v, hv, rv⟩ := r.getD h
    exact .inl ⟨c, _, i, v, rfl, rfl, .inl (.inl ho), at_of (by omega) hv, q _ _ w B H p (.refl k) rv⟩
theorem rd_ix_dct {kvs : List (Str × D)} (h : lk kvs a = some d) (p : P d w) : RD Z (rIxX Z.K) (.dct kvs) (.str a) w P := fun B H vx vy k er rx ry Q q => by
  cases ry
  cases rx with
  | @dct c ws _ hq r =>
    obtain ⟨v, hv, rv⟩ := r.get h
    have g := DGet.k (k := .inr a) (k.l _ _ hq)
    rw [hv] at g
    exact .inr (.inr (.inr ⟨c, v, rfl, g, q _ _ w B H p (.refl k) rv⟩))
theorem rd_ix_dctO {c : Addr} {kvs : List (Str × D)} (n : Nat) (hn : w[n]? = some (c, .dct kvs)) (h : lk kvs a = some d) (p : P d w) : RD Z (rIxX Z.K) (.adr c) (.str a) w P := fun B H vx vy k er rx ry Q q => by
  cases rx; cases ry
  obtain ⟨o, ho, hh⟩ := (k.own _ (List.mem_of_getElem? hn)).ob
  cases hh with
  | dct r =>
    obtain ⟨v, hv, rv⟩ := r.get h
    have g := DGet.k (k := .inr a) ho
    rw [hv] at g
    exact .inr (.inr (.inr ⟨c, v, rfl, g, q _ _ w B H p (.refl k) rv⟩))
theorem rd_ix_str {c : Nat} (hz : a.length ≤ 100000) (hi : 0 ≤ i) (h : a.cps.toList[i.toNat]? = some c) (p : P (.str ⟨#[c]⟩) w) : RD Z (rIxX Z.K) (.str a) (.int i) w P := fun B H vx vy k er rx ry Q q => by
  cases rx; cases ry
  refine .inr (.inr (.inl ⟨a, i, c, rfl, rfl, by rw [sizeLine_eq]; omega, ?_, q _ _ w B H p (.refl k) (.str _)⟩))
  have e : i = ((i.toNat : Nat) : Int) := by omega
  rw [e]
  exact atI_nat h
end
end DL
end
section
namespace DL
open PySem L2
open PySem.Spec PyProof.Rows
section
variable {Z : Zt} {x y d : D} {xs ys ds : List D} {w : Own} {P : D → Own → Prop} {PO : Out → Prop} {i j : Int} {a b : Str} {rhGr : Sl} {te ta tv tk to : TE} {tl : TA}

/-! ### len -/
theorem rc_len_tup (p : P (.int ds.length) w) : RC Z (rLenX Z.K) [.tup ds] w P := fun B H vs k er r Q q => by
  cases r with
  | cons r rr =>
    cases rr
    cases r with
    | @tup c vs _ hq r => exact .inl ⟨_, ds.length, rfl, .inr ⟨vs, sqT_mono k.l hq, r.length.symm⟩, q _ _ w B H p (.refl k) (.int _)⟩
theorem rc_len_lst (p : P (.int ds.length) w) : RC Z (rLenX Z.K) [.lst ds] w P := fun B H vs k er r Q q => by
  cases r with
  | cons r rr =>
    cases rr
    cases r with
    | @lst c vs _ hq r => exact .inl ⟨_, ds.length, rfl, .inl ⟨vs, .inl (.inl (k.l _ _ hq)), r.length.symm⟩, q _ _ w B H p (.refl k) (.int _)⟩
theorem rc_len_lstO {c : Addr} (n : Nat) (hn : w[n]? = some (c, .lst ds)) (p : P (.int ds.length) w) : RC Z (rLenX Z.K) [.adr c] w P := fun B H vs k er r Q q => by
  cases r with
  | cons r rr =>
    cases rr
    cases r
    obtain ⟨o, ho, hh⟩ := (k.own _ (List.mem_of_getElem? hn)).ob
    cases hh with
    | lst r => exact .inl ⟨_, ds.length, rfl, .inl ⟨_, .inl (.inl ho), r.length.symm⟩, q _ _ w B H p (.refl k) (.int _)⟩
theorem rc_len_str (hz : a.length ≤ 100000) (p : P (.int a.length) w) : RC Z (rLenX Z.K) [.str a] w P := fun B H vs k er r Q q => by
  cases r with
  | cons r rr =>
    cases rr
    cases r
    exact .inl ⟨_, a.length, rfl, ⟨by rw [sizeLine_eq]; omega, rfl⟩, q _ _ w B H p (.refl k) (.int _)⟩
theorem rc_len_dct {kvs : List (Str × D)} (p : P (.int kvs.length) w) : RC Z (rLenX Z.K) [.dct kvs] w P := fun B H vs k er r Q q => by
  cases r with
  | cons r rr =>
    cases rr
    cases r with
    | @dct c ws _ hq r => exact .inr ⟨c, ws, rfl, .inl (k.l _ _ hq), by rw [r.length]; exact q _ _ w B H p (.refl k) (.int _)⟩
theorem rc_len_dctO {c : Addr} {kvs : List (Str × D)} (n : Nat) (hn : w[n]? = some (c, .dct kvs)) (p : P (.int kvs.length) w) : RC Z (rLenX Z.K) [.adr c] w P := fun B H vs k er r Q q => by
  cases r with
  | cons r rr =>
    cases rr
    cases r
    obtain ⟨o, ho, hh⟩ := (k.own _ (List.mem_of_getElem? hn)).ob
    cases hh with
    | dct r => exact .inr ⟨c, _, rfl, .inl ho, by rw [r.length]; exact q _ _ w B H p (.refl k) (.int _)⟩

/-! ### isinstance with a built-in class -/
def tyD : D → Option String
  | .non => some "NoneType"
  | .bl _ => some "bool"
  | .int _ => some "int"
  | .str _ => some "str"
  | .tup _ => some "tuple"
  | .lst _ => some "list"
  | .dct _ => some "dict"
  | _ => none
theorem Rep.ty_of {K : PySem.W.Frag} {B H : Hp} (l : Same B H) {v : V} {d : D} {t : String} (r : Rep K B v d) (h : tyD d = some t) : TyX K H v (.type t) := by
  cases r with
  | non => cases h; exact .base .non
  | bl b => cases h; exact .base (.bl b)
  | int b => cases h; exact .base (.int b)
  | str b => cases h; exact .base (.str b)
  | adr b => cases h
  | ty b => cases h
  | tup hq r =>
    cases h
    rcases sqT_mono l hq with (h | ⟨o, h⟩) | ⟨o, its, n, h1, h2, _⟩
    · exact .base (.tup h)
    · exact .fTuple h
    · exact .kTuple h1 h2
  | lst hq r => cases h; exact .base (.lst (l _ _ hq))
  | sq hq r => cases h
  | dct hq r => cases h; exact .base (.dK (l _ _ hq))
  | ins hq r => cases h
  | ext hq => cases h
  | exb hq => cases h
theorem rc_isi {n t : String} {c : Bool} (ht : tyD x = some t) (hk : kitB t n = some c) (p : P (.bl c) w) : RC Z (rIsi Z.K) [x, .ty n] w P := fun B H vs k er r Q q => by
  cases r with
  | cons r rr =>
    cases rr with
    | cons r2 rr =>
      cases rr; cases r2
      exact ⟨_, _, _, _, c, rfl, .ty n, r.ty_of k.l ht, kit_ty hk, q _ _ w B H p (.refl k) (.bl _)⟩
theorem rc_isi_dctO {n : String} {cc : Bool} {c : Addr} {kvs : List (Str × D)} (m : Nat) (hm : w[m]? = some (c, .dct kvs)) (hk : kitB "dict" n = some cc) (p : P (.bl cc) w) : RC Z (rIsi Z.K) [.adr c, .ty n] w P := fun B H vs k er r Q q => by
  cases r with
  | cons r rr =>
    cases rr with
    | cons r2 rr =>
      cases rr; cases r2; cases r
      obtain ⟨o, ho, hh⟩ := (k.own _ (List.mem_of_getElem? hm)).ob
      cases hh with
      | dct r => exact ⟨_, _, _, _, cc, rfl, .ty n, .base (.dK ho), kit_ty hk, q _ _ w B H p (.refl k) (.bl _)⟩
theorem rc_isi_lstO {n : String} {cc : Bool} {c : Addr} (m : Nat) (hm : w[m]? = some (c, .lst ds)) (hk : kitB "list" n = some cc) (p : P (.bl cc) w) : RC Z (rIsi Z.K) [.adr c, .ty n] w P := fun B H vs k er r Q q => by
  cases r with
  | cons r rr =>
    cases rr with
    | cons r2 rr =>
      cases rr; cases r2; cases r
      obtain ⟨o, ho, hh⟩ := (k.own _ (List.mem_of_getElem? hm)).ob
      cases hh with
      | lst r => exact ⟨_, _, _, _, cc, rfl, .ty n, .base (.lst ho), kit_ty hk, q _ _ w B H p (.refl k) (.bl _)⟩

/-! ### all, any, sum, max, min, int, abs -/
theorem rc_all {bs : List Bool} (h : ds = bs.map D.bl) (p : P (.bl (bs.all id)) w) : RC Z (rAll Z.K) [.lst ds] w P := fun B H vs k er r Q q => by
  subst h
  cases r with
  | cons r rr =>
    cases rr
    cases r with
    | @lst c vs _ hq r =>
      have e := r.bls
      subst e
      exact ⟨c, bs, rfl, .inl (.inl (k.l _ _ hq)), q _ _ w B H p (.refl k) (.bl _)⟩
theorem rc_any {bs : List Bool} (h : ds = bs.map D.bl) (p : P (.bl (bs.any id)) w) : RC Z (rAny Z.K) [.lst ds] w P := fun B H vs k er r Q q => by
  subst h
  cases r with
  | cons r rr =>
    cases rr
    cases r with
    | @lst c vs _ hq r =>
      have e := r.bls
      subst e
      exact ⟨c, bs, rfl, .inl (.inl (k.l _ _ hq)), q _ _ w B H p (.refl k) (.bl _)⟩
theorem rc_sum {ns : List Int} (h : ds = ns.map D.int) (p : P (.int ns.sum) w) : RC Z (rSum Z.K) [.lst ds] w P := fun B H vs k er r Q q => by
  subst h
  cases r with
  | cons r rr =>
    cases rr
    cases r with
    | @lst c vs _ hq r =>
      have e := r.ints
      subst e
      exact ⟨c, ns, rfl, .inl (.inl (k.l _ _ hq)), q _ _ w B H p (.refl k) (.int _)⟩
abbrev rMax2 : List V → Hp → VK → Prop := fun xs H Q => ∃ i j, xs = [.int i, .int j] ∧ Q (.int (if j > i then j else i)) H
abbrev rMin2 : List V → Hp → VK → Prop := fun xs H Q => ∃ i j, xs = [.int i, .int j] ∧ Q (.int (if j < i then j else i)) H
abbrev rAbs : List V → Hp → VK → Prop := fun xs H Q => ∃ i, xs = [.int i] ∧ Q (.int (if i < 0 then -i else i)) H
abbrev rInt1 : List V → Hp → VK → Prop := fun xs H Q => (∃ i, xs = [.int i] ∧ Q (.int i) H) ∨ ∃ k, xs = [.bl k] ∧ Q (.int (if k then 1 else 0)) H
theorem rc_max2 (p : P (.int (if j > i then j else i)) w) : RC Z rMax2 [.int i, .int j] w P := fun B H vs k er r Q q => by
  cases r with
  | cons r rr => cases rr with
    | cons r2 rr =>
      cases rr; cases r; cases r2
      exact ⟨i, j, rfl, q _ _ w B H p (.refl k) (.int _)⟩
theorem rc_min2 (p : P (.int (if j < i then j else i)) w) : RC Z rMin2 [.int i, .int j] w P := fun B H vs k er r Q q => by
  cases r with
  | cons r rr => cases rr with
    | cons r2 rr =>
      cases rr; cases r; cases r2
      exact ⟨i, j, rfl, q _ _ w B H p (.refl k) (.int _)⟩
theorem rc_abs (p : P (.int (if i < 0 then -i else i)) w) : RC Z rAbs [.int i] w P := fun B H vs k er r Q q => by
  cases r with
  | cons r rr =>
    cases rr; cases r
    exact ⟨i, rfl, q _ _ w B H p (.refl k) (.int _)⟩
theorem rc_int (p : P (.int i) w) : RC Z rInt1 [.int i] w P := fun B H vs k er r Q q => by
  cases r with
  | cons r rr =>
    cases rr; cases r
    exact .inl ⟨i, rfl, q _ _ w B H p (.refl k) (.int _)⟩

/-! ### tuple, list, dict, sorted -/
abbrev rTupOf (K : PySem.W.Frag) : List V → Hp → VK → Prop := fun xs H Q => ∃ p ys, xs = [.ref p] ∧ ((SqL K H p ys ∧ ∀ l, H l = none → Q (.ref l) (upd H l (.tup ys))) ∨ (SqT K H p ys ∧ Q (.ref p) H))
theorem rc_tuple (p : P (.tup ds) w) : RC Z (rTupOf Z.K) [.lst ds] w P := fun B H vs k er r Q q => by
  cases r with
  | cons r rr =>
    cases rr
    cases r with
    | @lst c vs _ hq r => exact ⟨c, vs, rfl, .inl ⟨.inl (.inl (k.l _ _ hq)), fun l hl => by
        have t := To.newB (o := .tup vs) k hl
        exact q _ _ w _ _ p t (.tup (.inl (.inl upd_same)) (r.mono t.go.b))⟩⟩
theorem rc_tupleO {c : Addr} (n : Nat) (hn : w[n]? = some (c, .lst ds)) (p : P (.tup ds) w) : RC Z (rTupOf Z.K) [.adr c] w P := fun B H vs k er r Q q => by
  cases r with
  | cons r rr =>
    cases rr
    cases r
    obtain ⟨o, ho, hh⟩ := (k.own _ (List.mem_of_getElem? hn)).ob
    cases hh with
    | @lst us _ r => exact ⟨c, _, rfl, .inl ⟨.inl (.inl ho), fun l hl => by
        have t := To.newB (o := .tup us) k hl
        exact q _ _ w _ _ p t (.tup (.inl (.inl upd_same)) (r.mono t.go.b))⟩⟩
/-- list(t): a new list, known | owned -/
theorem rc_list_tup (p : P (.lst ds) w) : RC Z (rListX Z.K) [.tup ds] w P := fun B H vs k er r Q q => by
  cases r with
  | cons r rr =>
    cases rr
    cases r with
    | @tup c vs _ hq r => exact .inl ⟨c, vs, rfl, .inr (sqT_mono k.l hq), fun l hl => by
        have t := To.newB (o := .lst vs) k hl
        exact q _ _ w _ _ p t (.lst upd_same (r.mono t.go.b))⟩
theorem rc_list_lstO (p : ∀ c, P (.adr c) (w ++ [(c, .lst ds)])) : RC Z (rListX Z.K) [.lst ds] w P := fun B H vs k er r Q q => by
  cases r with
  | cons r rr =>
    cases rr
    cases r with
    | @lst c vs _ hq r => exact .inl ⟨c, vs, rfl, .inl (.inl (.inl (k.l _ _ hq))), fun l hl => q _ _ _ _ _ (p l) (To.newO k hl (.lst r)) (.adr l)⟩
theorem keys_reps {K : PySem.W.Frag} {B : Hp} : ∀ {ws : List (Key × V)} {kvs : List (Str × D)}, RepK K B ws kvs → Reps K B (ws.map fun kv => kV kv.1) (kvs.map fun kv => D.str kv.1)
  | _, _, .nil => .nil
  | _, _, .cons r t => .cons (.str _) (keys_reps t)
theorem rc_list_dctO {kvs : List (Str × D)} (p : ∀ c, P (.adr c) (w ++ [(c, .lst (kvs.map fun kv => D.str kv.1))])) : RC Z (rListX Z.K) [.dct kvs] w P := fun B H vs k er r Q q => by
  cases r with
  | cons r rr =>
    cases rr
    cases r with
    | @dct c ws _ hq r => exact .inr ⟨c, ws, rfl, .inl (k.l _ _ hq), fun l hl => q _ _ _ _ _ (p l) (To.newO k hl (.lst (keys_reps r))) (.adr l)⟩
abbrev rDictOf : List V → Hp → VK → Prop := fun xs H Q => ∃ (a : Addr) (kvs : List (Key × V)), xs = [.ref a] ∧ Rd H a (.dK kvs) ∧ ∀ p, H p = none → Q (.ref p) (upd H p (.dK kvs))
theorem rc_dict {kvs : List (Str × D)} (p : P (.dct kvs) w) : RC Z rDictOf [.dct kvs] w P := fun B H vs k er r Q q => by
  cases r with
  | cons r rr =>
    cases rr
    cases r with
    | @dct c ws _ hq r => exact ⟨c, ws, rfl, .inl (k.l _ _ hq), fun l hl => by
        have t := To.newB (o := .dK ws) k hl
        exact q _ _ w _ _ p t (.dct upd_same (r.mono t.go.b))⟩
theorem rc_dictO {kvs : List (Str × D)} (p : ∀ c, P (.adr c) (w ++ [(c, .dct kvs)])) : RC Z rDictOf [.dct kvs] w P := fun B H vs k er r Q q => by
  cases r with
  | cons r rr =>
    cases rr
    cases r with
    | @dct c ws _ hq r => exact ⟨c, ws, rfl, .inl (k.l _ _ hq), fun l hl => q _ _ _ _ _ (p l) (To.newO k hl (.dct r)) (.adr l)⟩
theorem rc_sortS {ks : List Str} (h : ds = ks.map D.str) (hz : ks.length < 64) (p : ∀ ys : List Str, ys.Perm ks → sortedS ys = true → P (.lst (ys.map D.str)) w) : RC Z (rSrtS Z.K) [.lst ds] w P := fun B H vs k er r Q q => by
  subst h
  cases r with
  | cons r rr =>
    cases rr
    cases r with
    | @lst c vs _ hq r =>
      have e := r.strs
      subst e
      exact .inl ⟨c, ks, rfl, .inl (.inl (k.l _ _ hq)), hz, fun ys l h1 h2 hl => by
        have t := To.newB (o := .lst (ys.map V.str)) k hl
        exact q _ _ w _ _ (p ys h1 h2) t (.lst upd_same (reps_strs ys))⟩
theorem rc_sortSO {ks : List Str} {c : Addr} (n : Nat) (hn : w[n]? = some (c, .lst (ks.map D.str))) (hz : ks.length < 64) (p : ∀ ys : List Str, ys.Perm ks → sortedS ys = true → P (.lst (ys.map D.str)) w) : RC Z (rSrtS Z.K) [.adr c] w P := fun B H vs k er r Q q => by
  cases r with
  | cons r rr =>
    cases rr
    cases r
    obtain ⟨o, ho, hh⟩ := (k.own _ (List.mem_of_getElem? hn)).ob
    cases hh with
    | lst r =>
      have e := r.strs
      subst e
      exact .inl ⟨c, ks, rfl, .inl (.inl ho), hz, fun ys l h1 h2 hl => by
        have t := To.newB (o := .lst (ys.map V.str)) k hl
        exact q _ _ w _ _ (p ys h1 h2) t (.lst upd_same (reps_strs ys))⟩
theorem rc_sortS_dct {kvs : List (Str × D)} (hz : kvs.length < 64) (p : ∀ ys : List Str, ys.Perm (kvs.map (·.1)) → sortedS ys = true → P (.lst (ys.map D.str)) w) : RC Z (rSrtS Z.K) [.dct kvs] w P := fun B H vs k er r Q q => by
  cases r with
  | cons r rr =>
    cases rr
    cases r with
    | @dct c ws _ hq r => exact .inr ⟨c, ws, kvs.map (·.1), rfl, .inl (k.l _ _ hq), r.keys, by simpa using hz, fun ys l h1 h2 hl => by
        have t := To.newB (o := .lst (ys.map V.str)) k hl
        exact q _ _ w _ _ (p ys h1 h2) t (.lst upd_same (reps_strs ys))⟩
theorem rc_sortS_dctO {kvs : List (Str × D)} {c : Addr} (n : Nat) (hn : w[n]? = some (c, .dct kvs)) (hz : kvs.length < 64) (p : ∀ ys : List Str, ys.Perm (kvs.map (·.1)) → sortedS ys = true → P (.lst (ys.map D.str)) w) : RC Z (rSrtS Z.K) [.adr c] w P := fun B H vs k er r Q q => by
  cases r with
  | cons r rr =>
    cases rr
    cases r
    obtain ⟨o, ho, hh⟩ := (k.own _ (List.mem_of_getElem? hn)).ob
    cases hh with
    | dct r => exact .inr ⟨c, _, kvs.map (·.1), rfl, .inl ho, r.keys, by simpa using hz, fun ys l h1 h2 hl => by
        have t := To.newB (o := .lst (ys.map V.str)) k hl
        exact q _ _ w _ _ (p ys h1 h2) t (.lst upd_same (reps_strs ys))⟩

/-! ### list methods -/
theorem we_append (h : WE Z to rhGr w fun x w1 => ∃ c, x = .adr c ∧ (∃ (n : Nat) (ds : List D), w1[n]? = some (c, .lst ds)) ∧ WE Z te rhGr w1 fun d w2 => ∃ (n : Nat) (ds : List D), w2[n]? = some (c, .lst ds) ∧ ds.length < 10000000 ∧ P .non (w2.set n (c, .lst (ds ++ [d])))) :
    WE Z (tBM Z.K "list" rAppend to (tCons te tNil)) rhGr w P := fun siGr B H k e er Q q =>
  h siGr B H k e er _ fun v x w1 B1 H1 ⟨c, hx, ⟨n, ds, hn⟩, p1⟩ t1 r1 => by
    subst hx; cases r1
    obtain ⟨o, ho, hh⟩ := (t1.ok.own _ (List.mem_of_getElem? hn)).ob
    cases hh with
    | lst r0 =>
      refine ⟨.inl ⟨rfl, _, .inl (.inl ho)⟩, ?_⟩
      refine p1 siGr B1 H1 t1.ok (e.mono t1.go.b) (er.on t1) _ fun u d w2 B2 H2 ⟨n2, ds2, hn2, hz, p2⟩ t2 r2 => ?_
      obtain ⟨o2, ho2, hh2⟩ := (t2.ok.own _ (List.mem_of_getElem? hn2)).ob
      cases hh2 with
      | lst r3 =>
        refine ⟨c, _, u, rfl, rfl, ho2, by rw [r3.length, sizeLine_eq]; omega, ?_⟩
        exact q _ _ _ _ _ p2 ((t1.trans t2).trans (To.mut t2.ok hn2 (.lst (r3.append (.cons r2 .nil))))) .non
theorem we_extend (h : WE Z to rhGr w fun x w1 => ∃ c, x = .adr c ∧ (∃ (n : Nat) (ds : List D), w1[n]? = some (c, .lst ds)) ∧ WE Z te rhGr w1 fun d w2 => ∃ es, d = .lst es ∧ ∃ (n : Nat) (ds : List D), w2[n]? = some (c, .lst ds) ∧ ds.length + es.length ≤ 10000000 ∧ P .non (w2.set n (c, .lst (ds ++ es)))) :
    WE Z (tBM Z.K "list" rExtend to (tCons te tNil)) rhGr w P := fun siGr B H k e er Q q =>
  h siGr B H k e er _ fun v x w1 B1 H1 ⟨c, hx, ⟨n, ds, hn⟩, p1⟩ t1 r1 => by
    subst hx; cases r1
    obtain ⟨o, ho, hh⟩ := (t1.ok.own _ (List.mem_of_getElem? hn)).ob
    cases hh with
    | lst r0 =>
      refine ⟨.inl ⟨rfl, _, .inl (.inl ho)⟩, ?_⟩
      refine p1 siGr B1 H1 t1.ok (e.mono t1.go.b) (er.on t1) _ fun u d w2 B2 H2 ⟨es, hd, n2, ds2, hn2, hz, p2⟩ t2 r2 => ?_
      subst hd
      obtain ⟨o2, ho2, hh2⟩ := (t2.ok.own _ (List.mem_of_getElem? hn2)).ob
      cases hh2 with
      | lst r3 =>
        cases r2 with
        | @lst b2 vs2 _ hq r2 =>
          refine ⟨c, b2, _, _, rfl, rfl, ho2, t2.ok.l _ _ hq, by rw [r3.length, r2.length, sizeLine_eq]; omega, ?_⟩
          exact q _ _ _ _ _ p2 ((t1.trans t2).trans (To.mut t2.ok hn2 (.lst (r3.append r2)))) .non
theorem we_popAt (h : WE Z to rhGr w fun x w1 => ∃ c, x = .adr c ∧ (∃ (n : Nat) (ds : List D), w1[n]? = some (c, .lst ds)) ∧ WE Z te rhGr w1 fun d w2 => ∃ i : Nat, d = .int i ∧ ∃ (n : Nat) (ds : List D) (y : D), w2[n]? = some (c, .lst ds) ∧ ds[i]? = some y ∧ ds.length < 10000000 ∧ P y (w2.set n (c, .lst (ds.eraseIdx i)))) :
    WE Z (tBM Z.K "list" rPopAt to (tCons te tNil)) rhGr w P := fun siGr B H k e er Q q =>
  h siGr B H k e er _ fun v x w1 B1 H1 ⟨c, hx, ⟨n, ds, hn⟩, p1⟩ t1 r1 => by
    subst hx; cases r1
    obtain ⟨o, ho, hh⟩ := (t1.ok.own _ (List.mem_of_getElem? hn)).ob
    cases hh with
    | lst r0 =>
      refine ⟨.inl ⟨rfl, _, .inl (.inl ho)⟩, ?_⟩
      refine p1 siGr B1 H1 t1.ok (e.mono t1.go.b) (er.on t1) _ fun u d w2 B2 H2 ⟨i, hd, n2, ds2, y, hn2, hy, hz, p2⟩ t2 r2 => ?_
      subst hd; cases r2
      obtain ⟨o2, ho2, hh2⟩ := (t2.ok.own _ (List.mem_of_getElem? hn2)).ob
      cases hh2 with
      | lst r3 =>
        obtain ⟨vy, hv, rv⟩ := r3.getD hy
        have hl : i < ds2.length := (List.getElem?_eq_some_iff.mp hy).1
        have hix : ixN ds2.length (i : Int) = some i := by
          unfold ixN
          rw [if_pos (by omega), if_pos (by omega)]
          simp
        refine ⟨c, _, i, i, vy, rfl, rfl, ho2, by omega, by omega, by rw [r3.length]; exact (ixN_seq hix).1, hv, ?_⟩
        have t3 := To.mut t2.ok hn2 (d' := .lst (ds2.eraseIdx i)) (.lst (r3.erase i))
        exact q _ _ _ _ _ p2 ((t1.trans t2).trans t3) (rv.mono t3.go.b)

/-! ### stores: o[i] = v -/
theorem wg_subL {ti : TE} {k : Sl → Own → Prop} (h : WE Z to rhGr w fun o w1 => ∃ c, o = .adr c ∧ WE Z ti rhGr w1 fun i w2 => ∃ m : Nat, i = .int m ∧ ∃ (n : Nat) (ds : List D), w2[n]? = some (c, .lst ds) ∧ m < ds.length ∧ k rhGr (w2.set n (c, D.lst (ds.set m x)))) : WG Z (gSub to ti rSetX) x rhGr w k :=
  fun siGr B H v o e er r Q q => h siGr B H o e er _ fun vo od w1 B1 H1 ⟨c, hc, p1⟩ t1 r1 => by
    subst hc; cases r1
    refine p1 siGr B1 H1 t1.ok (e.mono t1.go.b) (er.on t1) _ fun vi di w2 B2 H2 ⟨m, hm, n, ds, hn, hl, p2⟩ t2 r2 => ?_
    subst hm; cases r2
    obtain ⟨o2, ho2, hh2⟩ := (t2.ok.own _ (List.mem_of_getElem? hn)).ob
    cases hh2 with
    | lst r3 =>
      have hix : ixN ds.length (m : Int) = some m := by
        unfold ixN
        rw [if_pos (by omega), if_pos (by omega)]
        simp
      have t3 := To.mut t2.ok hn (d' := .lst (ds.set m x)) (.lst (r3.set (r.mono (t1.trans t2).go.b) m))
      exact .inl ⟨c, _, m, m, rfl, rfl, ho2, by rw [r3.length]; exact hix, q _ _ _ _ _ p2 ((t1.trans t2).trans t3) (e.mono ((t1.trans t2).trans t3).go.b)⟩
theorem wg_subD {ti : TE} {k : Sl → Own → Prop} (h : WE Z to rhGr w fun o w1 => ∃ c, o = .adr c ∧ WE Z ti rhGr w1 fun i w2 => ∃ s : Str, i = .str s ∧ ∃ (n : Nat) (kvs : List (Str × D)), w2[n]? = some (c, .dct kvs) ∧ (kvs.map (·.1)).Nodup ∧ kvs.length < 10000000 ∧ k rhGr (w2.set n (c, D.dct (putD kvs s x)))) : WG Z (gSub to ti rSetX) x rhGr w k :=
  fun siGr B H v o e er r Q q => h siGr B H o e er _ fun vo od w1 B1 H1 ⟨c, hc, p1⟩ t1 r1 => by
    subst hc; cases r1
    refine p1 siGr B1 H1 t1.ok (e.mono t1.go.b) (er.on t1) _ fun vi di w2 B2 H2 ⟨m, hm, n, kvs, hn, nd, hl, p2⟩ t2 r2 => ?_
    subst hm; cases r2
    obtain ⟨o2, ho2, hh2⟩ := (t2.ok.own _ (List.mem_of_getElem? hn)).ob
    cases hh2 with
    | dct r3 =>
      have t3 := To.mut t2.ok hn (d' := .dct (putD kvs m x)) (.dct (RepK.put (r.mono (t1.trans t2).go.b) r3 nd))
      exact .inr ⟨c, _, rfl, DPut.k (k := .inr m) ho2 (by rw [r3.length, sizeLine_eq]; omega), q _ _ _ _ _ p2 ((t1.trans t2).trans t3) (e.mono ((t1.trans t2).trans t3).go.b)⟩

/-! ### attributes -/
theorem RepF.get {K : PySem.W.Frag} {B : Hp} {f : Str} {x : D} : ∀ {ws : List (Str × V)} {fs : List (Str × D)}, RepF K B ws fs → fs.lookup f = some x → ∃ v, ws.lookup f = some v ∧ Rep K B v x
  | _, _, .nil, h => by cases h
  | _, _, .cons (x := y) r t, h => by
    rw [List.lookup_cons] at h ⊢
    by_cases e : (f == y) = true
    · rw [e] at h ⊢
      cases h
      exact ⟨_, rfl, r⟩
    · have e' : (f == y) = false := by simpa using e
      rw [e'] at h ⊢
      exact t.get h
theorem RepF.none {K : PySem.W.Frag} {B : Hp} {f : Str} : ∀ {ws : List (Str × V)} {fs : List (Str × D)}, RepF K B ws fs → fs.lookup f = none → ws.lookup f = none
  | _, _, .nil, h => rfl
  | _, _, .cons (x := y) r t, h => by
    rw [List.lookup_cons] at h ⊢
    by_cases e : (f == y) = true
    · rw [e] at h; cases h
    · have e' : (f == y) = false := by simpa using e
      rw [e'] at h ⊢
      exact t.none h
theorem RepF.length {K : PySem.W.Frag} {B : Hp} : ∀ {ws : List (Str × V)} {fs : List (Str × D)}, RepF K B ws fs → ws.length = fs.length
  | _, _, .nil => rfl
  | _, _, .cons r t => by rw [List.length_cons, List.length_cons, t.length]
def putFD (f : Str) (v : D) : List (Str × D) → List (Str × D)
  | [] => [(f, v)]
  | (g, x) :: r => if g = f then (g, v) :: r else (g, x) :: putFD f v r
theorem RepF.put {K : PySem.W.Frag} {B : Hp} {f : Str} {v : V} {x : D} (rv : Rep K B v x) : ∀ {ws : List (Str × V)} {fs : List (Str × D)}, RepF K B ws fs → RepF K B (putF f v ws) (putFD f x fs)
  | _, _, .nil => .cons rv .nil
  | _, _, .cons (x := y) r t => by
    unfold putF putFD
    by_cases e : y = f
    · rw [if_pos e, if_pos e]; exact .cons rv t
    · rw [if_neg e, if_neg e]; exact .cons r (RepF.put rv t)
theorem we_fld {f : Str} (h : WE Z ta rhGr w fun d w1 => ∃ C fs x, d = .ins C fs ∧ Cls Z.K C ∧ NoAttr Z.K C f ∧ fs.lookup f = some x ∧ P x w1) : WE Z (tFld Z.K ta f) rhGr w P := fun siGr B H k e er Q q =>
  h siGr B H k e er _ fun v d w1 B1 H1 ⟨C, fs, x, hd, c, n, hl, p⟩ t r => by
    subst hd
    cases r with
    | @ins a _ dx ws _ hq r =>
      obtain ⟨u, hu, ru⟩ := r.get hl
      exact ⟨a, C, dx, ws, u, rfl, t.ok.l _ _ hq, c, n, hu, q _ _ w1 B1 H1 p t ru⟩
theorem we_fldO {f : Str} (h : WE Z ta rhGr w fun d w1 => ∃ (a : Addr) (n : Nat) (C : Addr) (fs : List (Str × D)) (x : D), d = .adr a ∧ w1[n]? = some (a, .ins C fs) ∧ Cls Z.K C ∧ NoAttr Z.K C f ∧ fs.lookup f = some x ∧ P x w1) : WE Z (tFld Z.K ta f) rhGr w P := fun siGr B H k e er Q q =>
  h siGr B H k e er _ fun v d w1 B1 H1 ⟨a, n, C, fs, x, hd, hn, c, na, hl, p⟩ t r => by
    subst hd; cases r
    obtain ⟨o, ho, hh⟩ := (t.ok.own _ (List.mem_of_getElem? hn)).ob
    cases hh with
    | @ins _ dx ws _ r =>
      obtain ⟨u, hu, ru⟩ := r.get hl
      exact ⟨a, C, dx, ws, u, rfl, ho, c, na, hu, q _ _ w1 B1 H1 p t ru⟩
theorem ws_fld {f : Str} (h : WE Z tv rhGr w fun x w1 => WE Z ta rhGr w1 fun d w2 => ∃ (a : Addr) (n : Nat) (C : Addr) (fs : List (Str × D)), d = .adr a ∧ w2[n]? = some (a, .ins C fs) ∧ Cls Z.K C ∧ NoAttr Z.K C f ∧ fs.length < 1000 ∧ PO (.nx rhGr (w2.set n (a, .ins C (putFD f x fs))))) : WS Z (sFld Z.K ta tv f) rhGr w PO := fun siGr B H k e er D q =>
  h siGr B H k e er _ fun v x w1 B1 H1 p1 t1 r1 => p1 siGr B1 H1 t1.ok (e.mono t1.go.b) (er.on t1) _ fun u d w2 B2 H2 ⟨a, n, C, fs, hd, hn, c, na, hl, p⟩ t2 r2 => by
    subst hd; cases r2
    obtain ⟨o, ho, hh⟩ := (t2.ok.own _ (List.mem_of_getElem? hn)).ob
    cases hh with
    | @ins _ dx ws _ r =>
      have t3 := To.mut t2.ok hn (d' := .ins C (putFD f x fs)) (o' := .ins C dx (putF f v ws)) (.ins (r.put (r1.mono t2.go.b)))
      exact ⟨a, C, dx, ws, rfl, ho, c, na, by rw [r.length]; exact hl, q _ p siGr _ _ ((t1.trans t2).trans t3) (e.mono ((t1.trans t2).trans t3).go.b)⟩

/-! ### empty dict -/
theorem we_dnew (p : ∀ c, P (.adr c) (w ++ [(c, .dct [])])) : WE Z tDNewK rhGr w P := fun siGr B H k e er Q q l hl => q _ _ _ _ _ (p l) (To.newO k hl (.dct .nil)) (.adr l)
/-- d.get(k, z) -/
theorem we_get {td ty tx : TE} (h : WE Z td rhGr w fun d w1 => ∃ c, d = .adr c ∧ (∃ (n : Nat) (kvs : List (Str × D)), w1[n]? = some (c, .dct kvs)) ∧ WE Z ty rhGr w1 fun y w2 => ∃ s, y = .str s ∧ WE Z tx rhGr w2 fun z w3 => ∃ (n : Nat) (kvs : List (Str × D)), w3[n]? = some (c, .dct kvs) ∧ P ((lk kvs s).getD z) w3) : WE Z (tDGet2 td ty tx) rhGr w P := fun siGr B H k e er Q q =>
  h siGr B H k e er _ fun v d w1 B1 H1 ⟨c, hc, ⟨n, kvs, hn⟩, p1⟩ t1 r1 => by
    subst hc; cases r1
    obtain ⟨o, ho, hh⟩ := (t1.ok.own _ (List.mem_of_getElem? hn)).ob
    cases hh with
    | dct r0 =>
      refine ⟨c, rfl, .inl ⟨_, .inl ho⟩, ?_⟩
      refine p1 siGr B1 H1 t1.ok (e.mono t1.go.b) (er.on t1) _ fun vy y w2 B2 H2 ⟨s, hs, p2⟩ t2 r2 => ?_
      subst hs; cases r2
      have T := t1.trans t2
      refine p2 siGr B2 H2 t2.ok (e.mono T.go.b) (er.on T) _ fun vz z w3 B3 H3 ⟨n3, kvs3, hn3, p3⟩ t3 r3 => ?_
      obtain ⟨o3, ho3, hh3⟩ := (t3.ok.own _ (List.mem_of_getElem? hn3)).ob
      cases hh3 with
      | dct r4 =>
        refine ⟨_, DGet.k (k := .inr s) ho3, q _ _ w3 _ _ p3 (T.trans t3) ?_⟩
        have := r4.val s
        cases e1 : valV _ (Sum.inr s : Key) with
        | none => cases e2 : lk kvs3 s with
          | none => exact r3
          | some z2 => rw [e1, e2] at this; exact this.elim
        | some z1 => cases e2 : lk kvs3 s with
          | none => rw [e1, e2] at this; exact this.elim
          | some z2 => rw [e1, e2] at this; exact this
end

/-! ### new objects, methods of own classes -/
/-- a call, of the owned some handed on -/
def CP (S : DSpec) (ds : List D) (w : Own) (P : D → Own → Prop) (X : Own → Prop) : Prop := ∃ mine rest, w.Perm (mine ++ rest) ∧ S ds mine (fun d m' => P d (m' ++ rest)) fun m' => X (m' ++ rest)
section
variable {Z : Zt} {te ta : TE} {tl : TA} {rhGr : Sl} {w : Own} {P : D → Own → Prop}
theorem CP.of {S : DSpec} {ds : List D} {mine rest : Own} {P : D → Own → Prop} {X : Own → Prop} (h : S ds mine (fun d m' => P d (m' ++ rest)) fun m' => X (m' ++ rest)) : CP S ds (mine ++ rest) P X := ⟨mine, rest, .refl _, h⟩
theorem sp_of_CP {S : DSpec} {K : PySem.W.Frag} {T : Addr} {E : XK} {X : Own → Prop} {B H : Hp} {vs : List V} {ds : List D} {Q : VK} (k : Ok K B H w) (r : Reps K B vs ds) (h : CP S ds w P X)
    (q : ∀ v d w' B' H', P d w' → To K w B H w' B' H' → Rep K B' v d → Q v H') (x : ∀ w' B' H', X w' → To K w B H w' B' H' → E (.ref T) none H') : spOf K T S vs H Q E := by
  obtain ⟨mine, rest, hp, hS⟩ := h
  have k2 := k.perm hp
  exact ⟨B, ds, mine, _, _, k2.left, r, hS, fun v d w' B' H' p t r' => q v d _ B' H' p ((To.frame k2 t).permL hp) r', fun w' B' H' xx t => x _ B' H' xx ((To.frame k2 t).permL hp)⟩
theorem we_callP {S : DSpec} {E : XK} {T : Addr} (hE : E = Z.E) (hT : T = Z.T) (h : WA Z tl rhGr w fun ds w1 => CP S ds w1 P Z.X) : WE Z (tCall (spOf Z.K T S) [] E tl) rhGr w P := by
  subst hE hT
  intro siGr B H k e er Q q
  refine h siGr B H k e er _ fun vs ds w1 B1 H1 p1 t1 r1 => ?_
  show spOf _ _ _ (vs ++ []) _ _ _
  rw [List.append_nil]
  exact sp_of_CP t1.ok r1 p1 (fun v d w' B' H' p t r => q v d _ B' H' p (t1.trans t) r) fun w' B' H' x t => er _ B' H' x (t1.trans t)
theorem we_callP0 {S : DSpec} {E : XK} {T : Addr} (h : WA Z tl rhGr w fun ds w1 => CP S ds w1 P fun _ => False) : WE Z (tCall (spOf Z.K T S) [] E tl) rhGr w P := by
  intro siGr B H k e er Q q
  refine h siGr B H k e er _ fun vs ds w1 B1 H1 p1 t1 r1 => ?_
  show spOf _ _ _ (vs ++ []) _ _ _
  rw [List.append_nil]
  exact sp_of_CP t1.ok r1 p1 (fun v d w' B' H' p t r => q v d _ B' H' p (t1.trans t) r) fun w' B' H' x t => x.elim
theorem we_meth {S : DSpec} {E : XK} {T C : Addr} {m : Str} (hE : E = Z.E) (hT : T = Z.T) (h : WE Z ta rhGr w fun d w1 => ∃ (a : Addr) (n : Nat) (fs : List (Str × D)), d = .adr a ∧ w1[n]? = some (a, .ins C fs) ∧ fs.lookup m = none ∧ WA Z tl rhGr w1 fun ds w2 => CP S (.adr a :: ds) w2 P Z.X) :
    WE Z (tMeth C m (spOf Z.K T S) [] E ta tl) rhGr w P := by
  subst hE hT
  intro siGr B H k e er Q q
  refine h siGr B H k e er _ fun v d w1 B1 H1 ⟨a, n, fs, hd, hn, hl, p1⟩ t1 r1 => ?_
  subst hd; cases r1
  obtain ⟨o, ho, hh⟩ := (t1.ok.own _ (List.mem_of_getElem? hn)).ob
  cases hh with
  | @ins _ dx ws _ r =>
    refine ⟨a, dx, ws, rfl, ho, r.none hl, ?_⟩
    refine p1 siGr B1 H1 t1.ok (e.mono t1.go.b) (er.on t1) _ fun vs ds w2 B2 H2 p2 t2 r2 => ?_
    rw [List.append_nil]
    have T := t1.trans t2
    exact sp_of_CP t2.ok (.cons (.adr a) r2) p2 (fun v d w' B' H' p t r => q v d _ B' H' p (T.trans t) r) fun w' B' H' x t => er _ B' H' x (T.trans t)
theorem To.newU {K : PySem.W.Frag} {B H : Hp} (k : Ok K B H w) {p : Addr} {o : HO} (h : H p = none) : To K w B H w B (upd H p o) := by
  refine ⟨⟨Same.refl B, fun a u _ e => by rw [upd_ne (ne_of_none e h)]; exact e, fun a u e => ⟨u, by rw [upd_ne (ne_of_none e h)]; exact e⟩, fun a u _ e => rfl⟩, ⟨fun b u e => by rw [upd_ne (ne_of_none e (k.fresh h))]; exact k.l b u e, fun x hx => ?_, k.nd⟩, fun a q => .inl q⟩
  obtain ⟨o', e, hh⟩ := (k.own x hx).ob
  exact ⟨(k.own x hx).none, o', by rw [upd_ne (ne_of_none e h)]; exact e, hh⟩
theorem we_make {S : DSpec} {E : XK} {T C : Addr} (h : WA Z tl rhGr w fun ds w1 => ∀ x, CP S (.adr x :: ds) (w1 ++ [(x, .ins C [])]) (fun v w' => v = .non ∧ P (.adr x) w') fun _ => False) : WE Z (tMake C (spOf Z.K T S) [] E tl) rhGr w P := by
  intro siGr B H k e er Q q
  refine h siGr B H k e er _ fun vs ds w1 B1 H1 p1 t1 r1 => ?_
  intro x dx hx hdx hne
  rw [List.append_nil]
  have t2 := To.newU (o := .own x) t1.ok hdx
  have hx2 : upd H1 dx (.own x) x = none := by rw [upd_ne (Ne.symm hne)]; exact hx
  have t3 := To.newO (o := .ins C dx []) (d := .ins C []) t2.ok hx2 (.ins .nil)
  have T := (t1.trans t2).trans t3
  refine sp_of_CP t3.ok (.cons (.adr x) (r1.mono (t2.trans t3).go.b)) (p1 x) (fun v d w' B' H' ⟨hv, p⟩ t r => ?_) fun w' B' H' xx t => xx.elim
  subst hv; cases r
  exact ⟨rfl, q _ _ _ B' H' p (T.trans t) (.adr x)⟩
end
end DL
end
section
namespace DL
open PySem L2
open PySem.Spec PyProof.Rows

/-- a def of the module stands at its name -/
def DefAt (K : PySem.W.Frag) (mg : Str → Option Value) (x : Str) (st : Stmt) (ps : List Str) : Prop := ∃ f fd, Fun K x x st f fd ∧ mg x = some (.ref f) ∧ Binds K fd ps []
/-- .. and keeps a promise -/
def Has (P : Program) (w : World) (K : PySem.W.Frag) (mg : Str → Option Value) (base : Heap) (CX : CXT) (x : Str) (ps : List Str) (k : Nat) (S : Sp) : Prop :=
  ∃ f fd, mg x = some (.ref f) ∧ PySem.W.keepIn K (.ref f) = true ∧ Binds K fd ps [] ∧ FnOk P w K mg base CX k f fd ps S
/-- a method of the class at C -/
def MethAt (K : PySem.W.Frag) (C : Addr) (m qual : Str) (st : Stmt) (ps : List Str) : Prop := ∃ f fd, Fun K m qual st f fd ∧ Meth K C m f ∧ Binds K fd ps []
def HasM (P : Program) (w : World) (K : PySem.W.Frag) (mg : Str → Option Value) (base : Heap) (CX : CXT) (C : Addr) (m : Str) (ps : List Str) (k : Nat) (S : Sp) : Prop :=
  ∃ f fd, Meth K C m f ∧ Binds K fd ps [] ∧ FnOk P w K mg base CX k f fd ps S
/-- a class is made by its __init__ -/
def HasI (P : Program) (w : World) (K : PySem.W.Frag) (mg : Str → Option Value) (base : Heap) (CX : CXT) (C : Addr) (x : Str) (ps : List Str) (k : Nat) (S : Sp) : Prop :=
  ∃ f fd, mg x = some (.ref C) ∧ Mk K C f ∧ Binds K fd ps [] ∧ FnOk P w K mg base CX k f fd ps S
/-- a constant of the module -/
def HasC (K : PySem.W.Frag) (mg : Str → Option Value) (x : Str) (d : D) : Prop := ∃ v u, mg x = some u ∧ RelV v u ∧ ∀ B, Rep K B v d
/-- the built-ins are not hidden -/
structure Blt (mg : Str → Option Value) : Prop where
  len : mg "len" = none
  isinstance : mg "isinstance" = none
  all : mg "all" = none
  any : mg "any" = none
  sum : mg "sum" = none
  max : mg "max" = none
  min : mg "min" = none
  abs : mg "abs" = none
  int : mg "int" = none
  bool : mg "bool" = none
  str : mg "str" = none
  tuple : mg "tuple" = none
  list : mg "list" = none
  dict : mg "dict" = none
  sorted : mg "sorted" = none
  reversed : mg "reversed" = none
  range : mg "range" = none
  enumerate : mg "enumerate" = none

section
variable {P : Program} {w : World} {K : PySem.W.Frag} {mg : Str → Option Value} {base : Heap} {CX : CXT} {x : Str} {ps : List Str} {k : Nat} {S S' : Sp} {C : Addr} {m : Str}
theorem Has.mono {j : Nat} (h : Has P w K mg base CX x ps j S) (l : j ≤ k) : Has P w K mg base CX x ps k S := let ⟨f, fd, a, b, c, G⟩ := h; ⟨f, fd, a, b, c, G.mono l⟩
theorem HasM.mono {j : Nat} (h : HasM P w K mg base CX C m ps j S) (l : j ≤ k) : HasM P w K mg base CX C m ps k S := let ⟨f, fd, a, c, G⟩ := h; ⟨f, fd, a, c, G.mono l⟩
theorem Has.imp (h : Has P w K mg base CX x ps k S) (i : ∀ vs H Q E, S' vs H Q E → S vs H Q E) : Has P w K mg base CX x ps k S' := let ⟨f, fd, a, b, c, G⟩ := h; ⟨f, fd, a, b, c, G.imp i⟩
/-- THE RULE for a def that raises nothing -/
theorem defD {x : Str} {st : Stmt} {N ps : List Str} {k : Nat} {S : DSpec} {T : Addr} (F : DefAt K mg x st ps) (Sc : FnScope N ps (defScope st)) (len : ∀ ds w P X, S ds w P X → ds.length = ps.length)
    (hb : ∀ (f : Addr) (cdv : Value) (A : Around) (outer : List Env) (s : Shared) (H : Hp) (E : XK), Room k (A.deeper (envOfC x (defScope st) s.heap.objs.size f cdv)) →
      ∃ t, PSs (cxOf CX0 P w K mg base N x (defScope st) f cdv A outer s H E).nox (defBody st) t ∧ ∀ ds w P X, S ds w P X → WS ⟨K, E, T, X⟩ t (rho N ds) w (Post P)) : Has P w K mg base CX0 x ps (k + 1) (spOf K T S) := by
  obtain ⟨f, fd, h1, h2, h3⟩ := F
  exact ⟨f, fd, h2, h1.kp, h3, fnD h1 Sc len (hb f)⟩
theorem methD {C : Addr} {m qual : Str} {st : Stmt} {N ps : List Str} {k : Nat} {S : DSpec} {T : Addr} (F : MethAt K C m qual st ps) (Sc : FnScope N ps (defScope st)) (len : ∀ ds w P X, S ds w P X → ds.length = ps.length)
    (hb : ∀ (f : Addr) (cdv : Value) (A : Around) (outer : List Env) (s : Shared) (H : Hp) (E : XK), Room k (A.deeper (envOfC qual (defScope st) s.heap.objs.size f cdv)) →
      ∃ t, PSs (cxOf CX0 P w K mg base N qual (defScope st) f cdv A outer s H E).nox (defBody st) t ∧ ∀ ds w P X, S ds w P X → WS ⟨K, E, T, X⟩ t (rho N ds) w (Post P)) : HasM P w K mg base CX0 C m ps (k + 1) (spOf K T S) := by
  obtain ⟨f, fd, h1, h2, h3⟩ := F
  exact ⟨f, fd, h2, h3, fnD h1 Sc len (hb f)⟩
end
section
variable {X : Cx} {CX : CXT} {x : Str} {ps : List Str} {k : Nat} {S : Sp} {E : XK} {p pos apos : Pos} {e o : Expr} {es : List Expr} {t : TA} {ta : TE} {C : Addr} {m : Str}
theorem pe_callH (h : Has X.prog X.w X.K X.mg X.base CX x ps k S) (hr : Room k X.A) (hg : Gl X x) (hx : Passes CX X E) (ha : PA X (e :: es) t) (hdb : (x == ("__debug__" : Str)) = false := by decide)
    (he : starEach (e :: es) X.env = (false, eval e X.env) :: starEach es X.env := by rfl) (hpl : (backTo pos (starEach es X.env)).any (·.1) = false := by rfl) : PE X (.Call (.Name x p) (e :: es) [] pos) (tCall S [] E t) := by
  obtain ⟨f, fd, h1, h2, h3, h4⟩ := h
  exact pe_call h4 hr hg h1 h2 h3 .nil hx ha hdb he hpl
theorem pe_callH0 (h : Has X.prog X.w X.K X.mg X.base CX x ps k S) (hr : Room k X.A) (hg : Gl X x) (hx : Passes CX X E) (hdb : (x == ("__debug__" : Str)) = false := by decide) : PE X (.Call (.Name x p) [] [] pos) (tCall S [] E tNil) := by
  obtain ⟨f, fd, h1, h2, h3, h4⟩ := h
  exact pe_call0 h4 hr hg h1 h2 h3 .nil hx hdb
theorem pe_methH {pl : Sem Bool} (h : HasM X.prog X.w X.K X.mg X.base CX C m ps k S) (c : Cls X.K C) (hr : Room k X.A) (hx : Passes CX X E) (ho : PE X o ta) (ha : PA X (e :: es) t)
    (hst : starEach (e :: es) X.env = (false, eval e X.env) :: starEach es X.env := by rfl) (hpl : (backTo pos (starEach es X.env)).any (·.1) = false := by rfl)
    (ht : eval (.Call (.Attribute o m apos) (e :: es) [] pos) X.env = (do
      let ov ← eval o X.env
      standAt apos.atName
      let (f, first) ← holding [ov] (getMethod ov m pl)
      callWith pos f first (backTo pos (starEach (e :: es) X.env)) (backToKw pos (keywordEach [] X.env))) := by rfl) : PE X (.Call (.Attribute o m apos) (e :: es) [] pos) (tMeth C m S [] E ta t) := by
  obtain ⟨f, fd, h1, h2, h3⟩ := h
  exact pe_meth (pl := pl) ho c h1 h3 hr h2 .nil hx ha hst hpl ht
theorem pe_methH0 {pl : Sem Bool} (h : HasM X.prog X.w X.K X.mg X.base CX C m ps k S) (c : Cls X.K C) (hr : Room k X.A) (hx : Passes CX X E) (ho : PE X o ta)
    (ht : eval (.Call (.Attribute o m apos) [] [] pos) X.env = (do
      let ov ← eval o X.env
      standAt apos.atName
      let (f, first) ← holding [ov] (getMethod ov m pl)
      callWith pos f first (backTo pos (starEach [] X.env)) (backToKw pos (keywordEach [] X.env))) := by rfl) : PE X (.Call (.Attribute o m apos) [] [] pos) (tMeth C m S [] E ta tNil) := by
  obtain ⟨f, fd, h1, h2, h3⟩ := h
  exact pe_meth0 (pl := pl) ho c h1 h3 hr h2 .nil hx ht
theorem pe_makeH (h : HasI X.prog X.w X.K X.mg X.base CX C x ps k S) (hr : Room (k + 1) X.A) (hg : Gl X x) (hx : Passes CX X E) (ha : PA X (e :: es) t) (hdb : (x == ("__debug__" : Str)) = false := by decide)
    (he : starEach (e :: es) X.env = (false, eval e X.env) :: starEach es X.env := by rfl) (hpl : (backTo pos (starEach es X.env)).any (·.1) = false := by rfl) : PE X (.Call (.Name x p) (e :: es) [] pos) (tMake C S [] E t) := by
  obtain ⟨f, fd, h1, h2, h3, h4⟩ := h
  exact pe_make h2 h4 hr hg h1 h3 .nil hx ha hdb he hpl
/-- a constant of the module -/
def tGl (K : PySem.W.Frag) (d : D) : TE := fun _ H Q => ∀ v, (∀ B, Rep K B v d) → Q v H
theorem pe_globH {d : D} (h : HasC X.K X.mg x d) (hg : Gl X x) (hd : (x == ("__debug__" : Str)) = false := by decide) : PE X (.Name x pos) (tGl X.K d) := by
  obtain ⟨v, u, h1, h2, h3⟩ := h
  exact ⟨fun pins s siGr H Q I q => (pe_glob hg h1 h2 hd).run pins s siGr H Q I (q v h3)⟩
theorem we_glob {Z : Zt} {d : D} {rhGr : Sl} {w : Own} {P : D → Own → Prop} (p : P d w) : WE Z (tGl Z.K d) rhGr w P := fun siGr B H k e er Q q v hv => q v d w B H p (.refl k) (hv B)
theorem we_ty {Z : Zt} {n : String} {rhGr : Sl} {w : Own} {P : D → Own → Prop} (p : P (.ty n) w) : WE Z (tC (.ty n)) rhGr w P := fun siGr B H k e er Q q => q _ _ w B H p (.refl k) (.ty n)
theorem bt_int : bootBuiltins "int" = some (.type "int") := by decide +kernel
theorem bt_bool : bootBuiltins "bool" = some (.type "bool") := by decide +kernel
theorem bt_str : bootBuiltins "str" = some (.type "str") := by decide +kernel
theorem bt_tuple : bootBuiltins "tuple" = some (.type "tuple") := by decide +kernel
theorem bt_list : bootBuiltins "list" = some (.type "list") := by decide +kernel
theorem bt_dict : bootBuiltins "dict" = some (.type "dict") := by decide +kernel
theorem bt_len : bootBuiltins "len" = some (.builtin "len") := by decide +kernel
theorem bt_isinstance : bootBuiltins "isinstance" = some (.builtin "isinstance") := by decide +kernel
theorem bt_all : bootBuiltins "all" = some (.builtin "all") := by decide +kernel
theorem bt_any : bootBuiltins "any" = some (.builtin "any") := by decide +kernel
theorem bt_sum : bootBuiltins "sum" = some (.builtin "sum") := by decide +kernel
theorem bt_max : bootBuiltins "max" = some (.builtin "max") := by decide +kernel
theorem bt_min : bootBuiltins "min" = some (.builtin "min") := by decide +kernel
theorem bt_abs : bootBuiltins "abs" = some (.builtin "abs") := by decide +kernel
theorem bt_sorted : bootBuiltins "sorted" = some (.builtin "sorted") := by decide +kernel
end
/-- the program's top -/
def top (i : Nat) : Stmt := PySem.Challenge.pw_howhigh_k23_whole_full_runs_take_ways_in.main.body.getD i (.Pass ⟨0, 0, 0, 0⟩)
/-- what a def that hands back the value of a function of its arguments promises: it touches nothing -/
def pureS (f : List D → D → Prop) : DSpec := fun ds w P _ => ∃ d, f ds d ∧ P d w
end DL
end
section
namespace Hd
open PySem PySem.Spec PyProof.Rows L2 DL
abbrev s_law_dice : Stmt := top 71
abbrev s_law_draw : Stmt := top 72
abbrev s_law_word : Stmt := top 73
abbrev s_law_names : Stmt := top 74
abbrev s_law_product : Stmt := top 75
abbrev s_law_sum : Stmt := top 76
abbrev s_law_row : Stmt := top 77
abbrev s_law_statement : Stmt := top 78
abbrev s_law_block : Stmt := top 79
abbrev s_law_loops : Stmt := top 80
abbrev s_law_world : Stmt := top 81
abbrev s_law_starts : Stmt := top 86
abbrev s_law_state : Stmt := top 87
abbrev s_law_orders : Stmt := top 82
abbrev s_law_ways_of : Stmt := top 83
abbrev s_law_ways_kept : Stmt := top 90
abbrev s_law_step : Stmt := top 88
abbrev s_law_full_choose : Stmt := top 91
abbrev s_law_worth : Stmt := top 84
abbrev s_law_do : Stmt := top 85
abbrev s_law_row_done : Stmt := top 89
abbrev s_law_full_go : Stmt := top 92
abbrev s_is_name : Stmt := top 11
abbrev s_is_names : Stmt := top 13
abbrev s_power : Stmt := top 18
abbrev s_greatest_number : Stmt := top 51
abbrev s_joined : Stmt := top 30
abbrev s_statement_measure : Stmt := top 31
abbrev s_measure : Stmt := top 32
abbrev s_body_measures : Stmt := top 33
abbrev s_is_blocks : Stmt := top 27
abbrev s_is_pair : Stmt := top 12
abbrev s_is_letter : Stmt := top 14
abbrev s_is_integer : Stmt := top 9
abbrev s_is_product : Stmt := top 15
abbrev s_sum_of_powers : Stmt := top 17
abbrev s_is_term : Stmt := top 24
abbrev s_is_sum : Stmt := top 16
abbrev s_is_terms : Stmt := top 25
abbrev s_is_row_statement : Stmt := top 26
abbrev s_is_statement : Stmt := top 28
abbrev s_is_block : Stmt := top 29
abbrev s_are_bodies : Stmt := top 67
abbrev s_is_main : Stmt := top 68
abbrev s_check_starts : Stmt := top 52
abbrev s_value : Stmt := top 35
abbrev s_total : Stmt := top 36
abbrev s_changed : Stmt := top 53
abbrev s_orders_of : Stmt := top 40
abbrev s_is_number : Stmt := top 10
abbrev s_follow_choice : Stmt := top 46
abbrev s_follow : Stmt := top 45
abbrev s_straight : Stmt := top 47
abbrev s_is_way : Stmt := top 48
abbrev s_both_behind : Stmt := top 42
abbrev s_statement_ways : Stmt := top 43
abbrev s_block_ways : Stmt := top 44
abbrev s_prepared : Stmt := top 56
abbrev s_in_order : Stmt := top 54
abbrev s_written_out : Stmt := top 41
abbrev s_full_run : Stmt := top 58
abbrev s_law_full : Stmt := top 93
abbrev s_law_turned : Stmt := top 94
abbrev s_law : Stmt := top 95
abbrev s_Doing___init__ : Stmt := inClass (top 57) 0
abbrev s_Program___init__ : Stmt := inClass (top 69) 0
abbrev s_Doing_one_step : Stmt := inClass (top 57) 1
abbrev s_Doing_do_row : Stmt := inClass (top 57) 2
abbrev s_Doing_do_loop : Stmt := inClass (top 57) 3
abbrev s_Doing_do_block : Stmt := inClass (top 57) 4
def d_law_dice : He.DefD := ⟨("_law_dice", none), "_law_dice", "_law_dice", defArgs s_law_dice, defBody s_law_dice, defScope s_law_dice, [], []⟩
def d_law_draw : He.DefD := ⟨("_law_draw", none), "_law_draw", "_law_draw", defArgs s_law_draw, defBody s_law_draw, defScope s_law_draw, [], []⟩
def d_law_word : He.DefD := ⟨("_law_word", none), "_law_word", "_law_word", defArgs s_law_word, defBody s_law_word, defScope s_law_word, [], []⟩
def d_law_names : He.DefD := ⟨("_law_names", none), "_law_names", "_law_names", defArgs s_law_names, defBody s_law_names, defScope s_law_names, [], []⟩
def d_law_product : He.DefD := ⟨("_law_product", none), "_law_product", "_law_product", defArgs s_law_product, defBody s_law_product, defScope s_law_product, [], []⟩
def d_law_sum : He.DefD := ⟨("_law_sum", none), "_law_sum", "_law_sum", defArgs s_law_sum, defBody s_law_sum, defScope s_law_sum, [], []⟩
def d_law_row : He.DefD := ⟨("_law_row", none), "_law_row", "_law_row", defArgs s_law_row, defBody s_law_row, defScope s_law_row, [], []⟩
def d_law_statement : He.DefD := ⟨("_law_statement", none), "_law_statement", "_law_statement", defArgs s_law_statement, defBody s_law_statement, defScope s_law_statement, [], []⟩
def d_law_block : He.DefD := ⟨("_law_block", none), "_law_block", "_law_block", defArgs s_law_block, defBody s_law_block, defScope s_law_block, [], []⟩
def d_law_loops : He.DefD := ⟨("_law_loops", none), "_law_loops", "_law_loops", defArgs s_law_loops, defBody s_law_loops, defScope s_law_loops, [], []⟩
def d_law_world : He.DefD := ⟨("_law_world", none), "_law_world", "_law_world", defArgs s_law_world, defBody s_law_world, defScope s_law_world, [], []⟩
def d_law_starts : He.DefD := ⟨("_law_starts", none), "_law_starts", "_law_starts", defArgs s_law_starts, defBody s_law_starts, defScope s_law_starts, [], []⟩
def d_law_state : He.DefD := ⟨("_law_state", none), "_law_state", "_law_state", defArgs s_law_state, defBody s_law_state, defScope s_law_state, [], []⟩
def d_law_orders : He.DefD := ⟨("_law_orders", none), "_law_orders", "_law_orders", defArgs s_law_orders, defBody s_law_orders, defScope s_law_orders, [], []⟩
def d_law_ways_of : He.DefD := ⟨("_law_ways_of", none), "_law_ways_of", "_law_ways_of", defArgs s_law_ways_of, defBody s_law_ways_of, defScope s_law_ways_of, [], []⟩
def d_law_ways_kept : He.DefD := ⟨("_law_ways_kept", none), "_law_ways_kept", "_law_ways_kept", defArgs s_law_ways_kept, defBody s_law_ways_kept, defScope s_law_ways_kept, [], []⟩
def d_law_step : He.DefD := ⟨("_law_step", none), "_law_step", "_law_step", defArgs s_law_step, defBody s_law_step, defScope s_law_step, [], []⟩
def d_law_full_choose : He.DefD := ⟨("_law_full_choose", none), "_law_full_choose", "_law_full_choose", defArgs s_law_full_choose, defBody s_law_full_choose, defScope s_law_full_choose, [], []⟩
def d_law_worth : He.DefD := ⟨("_law_worth", none), "_law_worth", "_law_worth", defArgs s_law_worth, defBody s_law_worth, defScope s_law_worth, [], []⟩
def d_law_do : He.DefD := ⟨("_law_do", none), "_law_do", "_law_do", defArgs s_law_do, defBody s_law_do, defScope s_law_do, [], []⟩
def d_law_row_done : He.DefD := ⟨("_law_row_done", none), "_law_row_done", "_law_row_done", defArgs s_law_row_done, defBody s_law_row_done, defScope s_law_row_done, [], []⟩
def d_law_full_go : He.DefD := ⟨("_law_full_go", none), "_law_full_go", "_law_full_go", defArgs s_law_full_go, defBody s_law_full_go, defScope s_law_full_go, [], []⟩
def d_is_name : He.DefD := ⟨("is_name", none), "is_name", "is_name", defArgs s_is_name, defBody s_is_name, defScope s_is_name, [], []⟩
def d_is_names : He.DefD := ⟨("is_names", none), "is_names", "is_names", defArgs s_is_names, defBody s_is_names, defScope s_is_names, [], []⟩
def d_power : He.DefD := ⟨("power", none), "power", "power", defArgs s_power, defBody s_power, defScope s_power, [], []⟩
def d_greatest_number : He.DefD := ⟨("greatest_number", none), "greatest_number", "greatest_number", defArgs s_greatest_number, defBody s_greatest_number, defScope s_greatest_number, [], []⟩
def d_joined : He.DefD := ⟨("joined", none), "joined", "joined", defArgs s_joined, defBody s_joined, defScope s_joined, [], []⟩
def d_statement_measure : He.DefD := ⟨("statement_measure", none), "statement_measure", "statement_measure", defArgs s_statement_measure, defBody s_statement_measure, defScope s_statement_measure, [], []⟩
def d_measure : He.DefD := ⟨("measure", none), "measure", "measure", defArgs s_measure, defBody s_measure, defScope s_measure, [], []⟩
def d_body_measures : He.DefD := ⟨("body_measures", none), "body_measures", "body_measures", defArgs s_body_measures, defBody s_body_measures, defScope s_body_measures, [], []⟩
def d_is_blocks : He.DefD := ⟨("is_blocks", none), "is_blocks", "is_blocks", defArgs s_is_blocks, defBody s_is_blocks, defScope s_is_blocks, [], []⟩
def d_is_pair : He.DefD := ⟨("is_pair", none), "is_pair", "is_pair", defArgs s_is_pair, defBody s_is_pair, defScope s_is_pair, [], []⟩
def d_is_letter : He.DefD := ⟨("is_letter", none), "is_letter", "is_letter", defArgs s_is_letter, defBody s_is_letter, defScope s_is_letter, [], []⟩
def d_is_integer : He.DefD := ⟨("is_integer", none), "is_integer", "is_integer", defArgs s_is_integer, defBody s_is_integer, defScope s_is_integer, [], []⟩
def d_is_product : He.DefD := ⟨("is_product", none), "is_product", "is_product", defArgs s_is_product, defBody s_is_product, defScope s_is_product, [], []⟩
def d_sum_of_powers : He.DefD := ⟨("sum_of_powers", none), "sum_of_powers", "sum_of_powers", defArgs s_sum_of_powers, defBody s_sum_of_powers, defScope s_sum_of_powers, [], []⟩
def d_is_term : He.DefD := ⟨("is_term", none), "is_term", "is_term", defArgs s_is_term, defBody s_is_term, defScope s_is_term, [], []⟩
def d_is_sum : He.DefD := ⟨("is_sum", none), "is_sum", "is_sum", defArgs s_is_sum, defBody s_is_sum, defScope s_is_sum, [], []⟩
def d_is_terms : He.DefD := ⟨("is_terms", none), "is_terms", "is_terms", defArgs s_is_terms, defBody s_is_terms, defScope s_is_terms, [], []⟩
def d_is_row_statement : He.DefD := ⟨("is_row_statement", none), "is_row_statement", "is_row_statement", defArgs s_is_row_statement, defBody s_is_row_statement, defScope s_is_row_statement, [], []⟩
def d_is_statement : He.DefD := ⟨("is_statement", none), "is_statement", "is_statement", defArgs s_is_statement, defBody s_is_statement, defScope s_is_statement, [], []⟩
def d_is_block : He.DefD := ⟨("is_block", none), "is_block", "is_block", defArgs s_is_block, defBody s_is_block, defScope s_is_block, [], []⟩
def d_are_bodies : He.DefD := ⟨("are_bodies", none), "are_bodies", "are_bodies", defArgs s_are_bodies, defBody s_are_bodies, defScope s_are_bodies, [], []⟩
def d_is_main : He.DefD := ⟨("is_main", none), "is_main", "is_main", defArgs s_is_main, defBody s_is_main, defScope s_is_main, [], []⟩
def d_check_starts : He.DefD := ⟨("check_starts", none), "check_starts", "check_starts", defArgs s_check_starts, defBody s_check_starts, defScope s_check_starts, [], []⟩
def d_value : He.DefD := ⟨("value", none), "value", "value", defArgs s_value, defBody s_value, defScope s_value, [], []⟩
def d_total : He.DefD := ⟨("total", none), "total", "total", defArgs s_total, defBody s_total, defScope s_total, [], []⟩
def d_changed : He.DefD := ⟨("changed", none), "changed", "changed", defArgs s_changed, defBody s_changed, defScope s_changed, [], []⟩
def d_orders_of : He.DefD := ⟨("orders_of", none), "orders_of", "orders_of", defArgs s_orders_of, defBody s_orders_of, defScope s_orders_of, [], []⟩
def d_is_number : He.DefD := ⟨("is_number", none), "is_number", "is_number", defArgs s_is_number, defBody s_is_number, defScope s_is_number, [], []⟩
def d_follow_choice : He.DefD := ⟨("follow_choice", none), "follow_choice", "follow_choice", defArgs s_follow_choice, defBody s_follow_choice, defScope s_follow_choice, [], []⟩
def d_follow : He.DefD := ⟨("follow", none), "follow", "follow", defArgs s_follow, defBody s_follow, defScope s_follow, [], []⟩
def d_straight : He.DefD := ⟨("straight", none), "straight", "straight", defArgs s_straight, defBody s_straight, defScope s_straight, [], []⟩
def d_is_way : He.DefD := ⟨("is_way", none), "is_way", "is_way", defArgs s_is_way, defBody s_is_way, defScope s_is_way, [], []⟩
def d_both_behind : He.DefD := ⟨("both_behind", none), "both_behind", "both_behind", defArgs s_both_behind, defBody s_both_behind, defScope s_both_behind, [], []⟩
def d_statement_ways : He.DefD := ⟨("statement_ways", none), "statement_ways", "statement_ways", defArgs s_statement_ways, defBody s_statement_ways, defScope s_statement_ways, [], []⟩
def d_block_ways : He.DefD := ⟨("block_ways", none), "block_ways", "block_ways", defArgs s_block_ways, defBody s_block_ways, defScope s_block_ways, [], []⟩
def d_prepared : He.DefD := ⟨("prepared", none), "prepared", "prepared", defArgs s_prepared, defBody s_prepared, defScope s_prepared, [], []⟩
def d_in_order : He.DefD := ⟨("in_order", none), "in_order", "in_order", defArgs s_in_order, defBody s_in_order, defScope s_in_order, [], []⟩
def d_written_out : He.DefD := ⟨("written_out", none), "written_out", "written_out", defArgs s_written_out, defBody s_written_out, defScope s_written_out, [], []⟩
def d_full_run : He.DefD := ⟨("full_run", none), "full_run", "full_run", defArgs s_full_run, defBody s_full_run, defScope s_full_run, [], []⟩
def d_law_full : He.DefD := ⟨("_law_full", none), "_law_full", "_law_full", defArgs s_law_full, defBody s_law_full, defScope s_law_full, [], []⟩
def d_law_turned : He.DefD := ⟨("_law_turned", none), "_law_turned", "_law_turned", defArgs s_law_turned, defBody s_law_turned, defScope s_law_turned, [], []⟩
def d_law : He.DefD := ⟨("law", none), "law", "law", defArgs s_law, defBody s_law, defScope s_law, [], []⟩
def d_Doing___init__ : He.DefD := ⟨("Doing", some "__init__"), "__init__", "Doing.__init__", defArgs s_Doing___init__, defBody s_Doing___init__, defScope s_Doing___init__, [], []⟩
def d_Program___init__ : He.DefD := ⟨("Program", some "__init__"), "__init__", "Program.__init__", defArgs s_Program___init__, defBody s_Program___init__, defScope s_Program___init__, [], []⟩
def d_Doing_one_step : He.DefD := ⟨("Doing", some "one_step"), "one_step", "Doing.one_step", defArgs s_Doing_one_step, defBody s_Doing_one_step, defScope s_Doing_one_step, [], []⟩
def d_Doing_do_row : He.DefD := ⟨("Doing", some "do_row"), "do_row", "Doing.do_row", defArgs s_Doing_do_row, defBody s_Doing_do_row, defScope s_Doing_do_row, [], []⟩
def d_Doing_do_loop : He.DefD := ⟨("Doing", some "do_loop"), "do_loop", "Doing.do_loop", defArgs s_Doing_do_loop, defBody s_Doing_do_loop, defScope s_Doing_do_loop, [], []⟩
def d_Doing_do_block : He.DefD := ⟨("Doing", some "do_block"), "do_block", "Doing.do_block", defArgs s_Doing_do_block, defBody s_Doing_do_block, defScope s_Doing_do_block, [], []⟩
def fn0 : List He.DefD := [d_law_dice, d_law_draw, d_law_word, d_law_names, d_law_product, d_law_sum, d_law_row, d_law_statement, d_law_block, d_law_loops, d_law_world, d_law_starts, d_law_state, d_law_orders, d_law_ways_of, d_law_ways_kept, d_law_step, d_law_full_choose, d_law_worth, d_law_do]
def fn1 : List He.DefD := [d_law_row_done, d_law_full_go, d_is_name, d_is_names, d_power, d_greatest_number, d_joined, d_statement_measure, d_measure, d_body_measures, d_is_blocks, d_is_pair, d_is_letter, d_is_integer, d_is_product, d_sum_of_powers, d_is_term, d_is_sum, d_is_terms, d_is_row_statement]
def fn2 : List He.DefD := [d_is_statement, d_is_block, d_are_bodies, d_is_main, d_check_starts, d_value, d_total, d_changed, d_orders_of, d_is_number, d_follow_choice, d_follow, d_straight, d_is_way, d_both_behind, d_statement_ways, d_block_ways, d_prepared, d_in_order, d_written_out]
def fn3 : List He.DefD := [d_full_run, d_law_full, d_law_turned, d_law, d_Doing___init__, d_Program___init__, d_Doing_one_step, d_Doing_do_row, d_Doing_do_loop, d_Doing_do_block]
def fn : List He.DefD := fn0 ++ fn1 ++ fn2 ++ fn3
def fa0 : List He.Fa := [.glo "_law_dice", .glo "_law_draw", .glo "_law_word", .glo "_law_names", .glo "_law_product", .glo "_law_sum", .glo "_law_row", .glo "_law_statement", .glo "_law_block", .glo "_law_loops", .glo "_law_world", .glo "_law_starts", .glo "_law_state", .glo "_law_orders", .glo "_law_ways_of", .glo "_law_ways_kept", .glo "_law_step", .glo "_law_full_choose", .glo "_law_worth", .glo "_law_do", .glo "_law_row_done", .glo "_law_full_go", .glo "is_name", .glo "is_names", .glo "power", .glo "greatest_number", .glo "joined", .glo "statement_measure", .glo "measure", .glo "body_measures"]
def fa1 : List He.Fa := [.glo "is_blocks", .glo "is_pair", .glo "is_letter", .glo "is_integer", .glo "is_product", .glo "sum_of_powers", .glo "is_term", .glo "is_sum", .glo "is_terms", .glo "is_row_statement", .glo "is_statement", .glo "is_block", .glo "are_bodies", .glo "is_main", .glo "check_starts", .glo "value", .glo "total", .glo "changed", .glo "orders_of", .glo "is_number", .glo "follow_choice", .glo "follow", .glo "straight", .glo "is_way", .glo "both_behind", .glo "statement_ways", .glo "block_ways", .glo "prepared", .glo "in_order", .glo "written_out"]
def fa2 : List He.Fa := [.glo "full_run", .glo "_law_full", .glo "_law_turned", .glo "law", .glo "Doing", .glo "Program", .glo "TooLong", .free "len", .free "isinstance", .free "all", .free "any", .free "sum", .free "max", .free "min", .free "abs", .free "int", .free "bool", .free "str", .free "tuple", .free "list", .free "dict", .free "sorted", .free "reversed", .free "range", .free "enumerate", .int "MOST_NAMES" 4, .int "MOST_WORDS" 4, .int "MOST_DEGREE" 3, .int "MOST_COEFFICIENT" 9, .int "MOST_TERMS" 3]
def fa3 : List He.Fa := [.int "MOST_STATEMENTS" 40, .int "MOST_ROWS" 12, .int "MOST_DEEP" 8, .int "MOST_LOOPS" 2, .int "MOST_WAYS" 24, .int "MOST_STEPS" 10000, .str "ROUNDS" "#", .glo "ROWS", .glo "ORDERS_OF_TWO", .glo "ORDERS_OF_THREE", .cls "Doing", .cls "Program", .mkr "Doing", .mkr "Program", .noat "Doing" "held", .noat "Doing" "count", .noat "Doing" "picks", .noat "Doing" "most", .noat "Program" "held", .noat "Program" "main", .noat "Program" "names", .meth "Doing" "one_step", .meth "Doing" "do_row", .meth "Doing" "do_loop", .meth "Doing" "do_block", .exc "TooLong", .exm "TooLong" "TooLong" true]
def fa : List He.Fa := fa0 ++ fa1 ++ fa2 ++ fa3
def lo0 : List PySem.Str := ["HighError", "NoName", "BadProgram", "BadWay", "BadStarts", "TooLong", "ROUNDS", "is_integer", "is_number", "is_name", "is_pair", "is_names", "is_letter", "is_product", "is_sum", "sum_of_powers", "power", "MOST_TERMS", "MOST_COEFFICIENT", "MOST_DEGREE", "ROWS", "is_term", "is_terms", "is_row_statement", "is_blocks", "is_statement", "is_block", "joined", "statement_measure", "measure"]
def lo1 : List PySem.Str := ["body_measures", "value", "total", "ORDERS_OF_TWO", "ORDERS_OF_THREE", "orders_of", "written_out", "both_behind", "statement_ways", "block_ways", "follow", "follow_choice", "straight", "is_way", "MOST_STEPS", "greatest_number", "check_starts", "changed", "in_order", "prepared", "Doing", "full_run", "MOST_NAMES", "MOST_WORDS", "MOST_STATEMENTS", "MOST_ROWS", "MOST_DEEP", "MOST_LOOPS", "MOST_WAYS", "are_bodies"]
def lo2 : List PySem.Str := ["is_main", "Program", "_law_dice", "_law_draw", "_law_word", "_law_names", "_law_product", "_law_sum", "_law_row", "_law_statement", "_law_block", "_law_loops", "_law_world", "_law_orders", "_law_ways_of", "_law_worth", "_law_do", "_law_starts", "_law_state", "_law_step", "_law_row_done", "_law_ways_kept", "_law_full_choose", "_law_full_go", "_law_full", "_law_turned"]
def loose : List PySem.Str := lo0 ++ lo1 ++ lo2
/-- the tuple at a holds these -/
def tupA (K : PySem.W.Frag) (a : Addr) (vs : List V) : Bool := match K.lookup a with
  | some ⟨.type c, _, .seq its _, _⟩ => decide (c = "tuple") && (decide (its.size ≤ sizeLine) && He.relAll vs its.toList)
  | _ => false
def itemA (K : PySem.W.Frag) (a : Addr) (i : Nat) : Addr := match K.lookup a with
  | some ⟨_, _, .seq its _, _⟩ => (match its.toList[i]? with
    | some (.ref b) => b
    | _ => 0)
  | _ => 0
theorem tupA_ok {K : PySem.W.Frag} {a : Addr} {vs : List V} (h : tupA K a vs = true) (H : Hp) : SqT K H a vs := by
  unfold tupA at h
  cases q : K.lookup a with
  | none => rw [q] at h; cases h
  | some o =>
    obtain ⟨oc, od, dt, osl⟩ := o
    rw [q] at h
    cases oc with
    | type c =>
      cases dt with
      | seq its n =>
        obtain ⟨h1, h2⟩ := He.ba (show (decide (c = "tuple") && (decide (its.size ≤ sizeLine) && He.relAll vs its.toList)) = true from h)
        obtain ⟨h3, h4⟩ := He.ba h2
        exact .inr ⟨_, its, n, q, congrArg Value.type (of_decide_eq_true h1), rfl, of_decide_eq_true h3, He.relAll_ok h4⟩
      | _ => cases h
    | _ => cases dt <;> cases h
def ordB (K : PySem.W.Frag) (x : Str) (os : List (List Nat)) : Bool := tupA K (He.ga K x) ((List.range os.length).map fun i => V.ref (itemA K (He.ga K x) i)) && (List.range os.length).all fun i => tupA K (itemA K (He.ga K x) i) ((os.getD i []).map fun k : Nat => V.int (k : Int))
def ex (K : PySem.W.Frag) : Bool := tupA K (He.ga K "ROWS") [.str "add", .str "lift", .str "set"] && (ordB K "ORDERS_OF_TWO" [[0, 1], [1, 0]] && ordB K "ORDERS_OF_THREE" [[0, 1, 2], [0, 2, 1], [1, 0, 2], [1, 2, 0], [2, 0, 1], [2, 1, 0]])
abbrev R : PySem.W.OpenRow := PySem.W.OpenLaw.row PySem.Challenge.rw_howhigh_k23_whole_full_runs_take_ways_in
def pl0 : List Addr := [3, 6, 4, 24, 46, 67, 79, 91, 103, 112, 119, 124, 131, 136, 143, 150, 157, 162, 169, 170, 177, 182, 187, 192, 199, 204, 211, 216, 221, 228, 235, 242, 245, 252, 259, 264, 269, 274, 281, 288, 295, 302, 309, 316, 323, 330, 335, 340, 385, 396, 401, 408, 436, 445, 452, 459, 466, 471, 476, 483]
def pl1 : List Addr := [490, 497, 504, 509, 516, 521, 528, 535, 542, 549, 556, 563, 570, 577, 584, 591, 598, 605, 0, 23, 45, 66, 78, 90, 102, 111, 118, 123, 130, 135, 142, 149, 156, 161, 168, 176, 181, 186, 191, 198, 203, 210, 215, 220, 227, 234, 241, 243, 244, 246, 247, 248, 249, 250, 251, 258, 263, 268, 273, 280]
def pl2 : List Addr := [287, 294, 301, 308, 315, 322, 329, 334, 339, 384, 395, 400, 407, 435, 444, 451, 458, 465, 470, 475, 482, 489, 496, 503, 508, 515, 520, 527, 534, 541, 548, 555, 562, 569, 576, 583, 590, 597, 604, 22, 25, 43, 44, 64, 65, 77, 89, 101, 106, 107, 108, 109, 110, 113, 114, 115, 116, 117, 120, 121]
def pl3 : List Addr := [122, 125, 126, 127, 128, 129, 132, 133, 134, 137, 138, 139, 140, 141, 144, 145, 146, 147, 148, 151, 152, 153, 154, 155, 158, 159, 160, 163, 164, 165, 166, 167, 171, 172, 173, 174, 175, 178, 179, 180, 183, 184, 185, 188, 189, 190, 193, 194, 195, 196, 197, 200, 201, 202, 205, 206, 207, 208, 209, 212]
def pl4 : List Addr := [213, 214, 217, 218, 219, 222, 223, 224, 225, 226, 229, 230, 231, 232, 233, 236, 237, 238, 239, 240, 253, 254, 255, 256, 257, 260, 261, 262, 265, 266, 267, 270, 271, 272, 275, 276, 277, 278, 279, 282, 283, 284, 285, 286, 289, 290, 291, 292, 293, 296, 297, 298, 299, 300, 303, 304, 305, 306, 307, 310]
def pl5 : List Addr := [311, 312, 313, 314, 317, 318, 319, 320, 321, 324, 325, 326, 327, 328, 331, 332, 333, 336, 337, 338, 354, 361, 368, 375, 382, 383, 386, 387, 390, 391, 392, 393, 394, 397, 398, 399, 402, 403, 404, 405, 406, 420, 426, 433, 434, 437, 438, 441, 442, 443, 446, 447, 448, 449, 450, 453, 454, 455, 456, 457]
def pl6 : List Addr := [460, 461, 462, 463, 464, 467, 468, 469, 472, 473, 474, 477, 478, 479, 480, 481, 484, 485, 486, 487, 488, 491, 492, 493, 494, 495, 498, 499, 500, 501, 502, 505, 506, 507, 510, 511, 512, 513, 514, 517, 518, 519, 522, 523, 524, 525, 526, 529, 530, 531, 532, 533, 536, 537, 538, 539, 540, 543, 544, 545]
def pl7 : List Addr := [546, 547, 550, 551, 552, 553, 554, 557, 558, 559, 560, 561, 564, 565, 566, 567, 568, 571, 572, 573, 574, 575, 578, 579, 580, 581, 582, 585, 586, 587, 588, 589, 592, 593, 594, 595, 596, 599, 600, 601, 602, 603, 42, 31, 63, 52, 353, 360, 367, 374, 381, 419, 425, 432]
def places : List Addr := pl0 ++ pl1 ++ pl2 ++ pl3 ++ pl4 ++ pl5 ++ pl6 ++ pl7
/-- where the things stand that the walk asks about: the places are the same at every run, and told; so nothing need be sought -/
def obsL (g : Addr → Option Obj) : He.AlD × Bool := (He.obsD fa fn (He.frG g places), ex (He.frG g places))
def hk : PySem.W.Hook where
  α := He.AlD × Bool
  obs := fun s => obsL s.heap.get?
  val := fun _ => (He.valD fn, true)
  says := fun _ h => ∃ K : PySem.W.Frag, K.In h ∧ He.SaysD fa fn K ∧ ex K = true
  of := fun _ _ e => ⟨_, He.frG_in, congrArg (fun z : He.AlD × Bool => z.1) e, congrArg (fun z : He.AlD × Bool => z.2) e⟩
  keeps := fun _ _ _ ⟨K, h, c⟩ k => ⟨K, PySem.W.Frag.In.keeps h k, c⟩
def ob (s : PySem.W.SharedT) : He.AlD × Bool := obsL (HandSHeadRun.getT s)
theorem ob_eq (s : PySem.W.SharedT) : ob s = hk.obs s.abs := congrArg obsL (funext (HandSHeadRun.getT_eq s))
open HandSHeadRun PySem.W
/-- the run is told three times, of each part of what it leaves: at once it takes the kernel twice the room -/
theorem run1 (w : World) (os : OsState) : (endF (stepQ (denQ tabQ) R.prog w) 6000 R.prog w os).map (fun s => looksF R.prog (boot_heap w.params) s.abs) = some true := by
  kernel_rfl
theorem run2 (w : World) (os : OsState) : (endF (stepQ (denQ tabQ) R.prog w) 6000 R.prog w os).map (fun s => seenQ (view R.prog [95]) loose (importedModules R.prog.main.body) (fun s => xlAt (view R.prog [95]) [] s && recOk R.toRowW.records s) s.abs) = some (openGood (view R.prog [95]) loose) := by
  kernel_rfl
theorem run3 (w : World) (os : OsState) : (endF (stepQ (denQ tabQ) R.prog w) 6000 R.prog w os).map (fun s => ob s) = some (hk.val w) := by
  kernel_rfl
theorem run (w : World) : RunEq R (view R.prog [95]) hk ob 6000 loose w := by
  intro os
  have h1 := run1 w os
  have h2 := run2 w os
  have h3 := run3 w os
  generalize endF (stepQ (denQ tabQ) R.prog w) 6000 R.prog w os = e at h1 h2 h3 ⊢
  cases e with
  | none => cases h1
  | some s =>
    have g1 := Option.some.inj h1
    have g2 := Option.some.inj h2
    have g3 := Option.some.inj h3
    exact congrArg some (Prod.ext g1 (Prod.ext g2 g3))
end Hd
end
section
namespace Hd
open PySem PySem.W PySem.Calls PyProof.Rows
theorem start (call : WalkO (view R.prog [95]) loose (XL (view R.prog [95]) []) hk.says R.toRowW (HandSHeadRun.topDef R.prog 95) [] fun f vs => PySem.call f vs) : PySem.Challenge.rw_howhigh_k23_whole_full_runs_take_ways_in.Holds := by
  w_on; o_law
  refine HandSHeadRun.head_any (r := R) (q := view R.prog [95]) (H := hk) (ob := ob) (M := 6000) (loose := loose) (d := HandSHeadRun.topDef R.prog 95) (kwd := [])
    ob_eq (by kernel_rfl) (fun s => by kernel_rfl) run (by kernel_rfl)
    (by kernel_rfl) (by kernel_rfl) (by rfl)
    (by first | assumption | decide +kernel) (by decide +kernel)
    ⟨rfl, rfl, rfl, rfl, rfl, by decide +kernel⟩ ?hw call
  case hw => w_witness2
end Hd
end
section
namespace DL
open PySem L2
open PySem.Spec PyProof.Rows

section
variable {X : Cx} {tg : Expr}
def iAny (K : PySem.W.Frag) (tl : TE) : TI := fun siGr H R => iList K tl siGr H R ∨ iTup K tl siGr H R ∨ iStr tl siGr H R
theorem pi_any {l : Expr} {tl : TE} (hl : PE X l tl) : PI X tg l (iAny X.K tl) := ⟨fun pins s siGr H R I h => by
  rcases h with h | h | h
  · exact (pi_list hl).run pins s siGr H R I h
  · exact (pi_tup hl).run pins s siGr H R I h
  · exact (pi_str hl).run pins s siGr H R I h⟩

/-- one argument: any thing whose iterator is made as B says -/
theorem meets_enum_new1 {v : Value} {o : Obj} {Hc : Heap → Prop} (B : Begins v o Hc) :
    Meets (Builtin.«enumerate.__new__» ⟨[.type "enumerate", v], []⟩) (fun _ R s => Hc s.heap ∧
      R (.ok (.ret (.ref (s.heap.push o).objs.size))) { s with heap := (s.heap.push o).push { cls := .type "enumerate", data := .fields #[.none, .bool false, .ref s.heap.objs.size, rawInt 0, .none, .none] } }) := by
  refine .of_wp fun prog w A R st hh => ?_
  obtain ⟨hp, g, dr, tk, os⟩ := st
  obtain ⟨hc, hr⟩ := hh
  have hsub := sub_enumerate
  have itq : ∀ {A' : Around} {E : Value → Shared → Prop} {Q : Value → Shared → Prop}, Q (.ref hp.objs.size) ⟨hp.push o, g, dr, tk, os⟩ → wpAny (model prog w) A' (pyIter v) Q E ⟨hp, g, dr, tk, os⟩ := fun z => B.iter _ _ _ _ _ _ hc z
  wp_walk using itq
  refine wpAny_stack_any fun _ => wpAny_pure ?_
  split
  · rename_i c _ _ _ _ _
    cases (c == Value.type "enumerate") <;> (wp_walk using itq; exact ⟨_, rfl, hr⟩)
  · wp_walk using itq
    exact ⟨_, rfl, hr⟩
theorem call_enum1 {prog : Program} {w : World} {A : Around} {E : Value → Shared → Prop} {s : Shared} {v : Value} {o : Obj} {Hc : Heap → Prop} {Q : Value → Shared → Prop} (B : Begins v o Hc) (h1 : Hc s.heap)
    (h : ∀ h', IsEnum h' (s.heap.objs.size + 1) s.heap.objs.size 0 .none → h'.get? s.heap.objs.size = some o → h'.objs.size = s.heap.objs.size + 2 → (∀ b u, s.heap.get? b = some u → h'.get? b = some u) →
      Q (.ref (s.heap.objs.size + 1)) { s with heap := h' }) : wpAny (model prog w) A (call (.type "enumerate") [v]) Q E s := by
  refine callType_new F.called_enumerate (by decide) (F.typeCall_enumerate_1 _) (F.newCall_enumerate_1 _) (fun obj => F.args_object_init_2 obj _) F.entry_enumerate_new (meets_enum_new1 B) ⟨h1, ?_⟩
  have hz : (s.heap.push o).objs.size = s.heap.objs.size + 1 := Heap.size_push ..
  have he := Heap.get?_push_size (s.heap.push o) (o := { cls := .type "enumerate", data := .fields #[.none, .bool false, .ref s.heap.objs.size, rawInt 0, .none, .none] }) rfl
  rw [hz] at he
  show _ ∧ _
  rw [hz]
  exact ⟨⟨_, he, rfl⟩, h _ he (Heap.get?_push_of_some _ (Heap.get?_push_size _ B.free)) (by rw [Heap.size_push, hz]) fun b u x => Heap.get?_push_of_some _ (Heap.get?_push_of_some _ x)⟩

/-- enumerate(tuple): each item in a new pair -/
def Iet (K : PySem.W.Frag) (a : Addr) : It :=
  ⟨fun i H => ∃ (xs : List V) (x : V), SqT K H a xs ∧ xs[i]? = some x, fun i H v H' => ∃ T x, v = .ref T ∧ H T = none ∧ H' = upd H T (.tup [.int (i : Nat), x]) ∧ ∀ xs, SqT K H a xs → xs[i]? = some x, fun i H => ∃ xs : List V, SqT K H a xs ∧ xs.length = i⟩
theorem turn_enumT {P : Program} {w : World} {K : PySem.W.Frag} {elts : List Expr} {kk : Nat} {tpos : Pos} (a e it : Addr) :
    Turn P w K (.Tuple elts kk tpos) (Iet K a) [e, it] e (fun i h => (∃ old, IsEnum h e it ((i : Nat) : Int) old) ∧ h.IsTupleIter it a i ∧ e ≠ it) where
  mem := by simp
  obj := fun i h ⟨⟨old, he⟩, ⟨o, ho, _, hd⟩, _⟩ b hb => by
    rcases (show b = e ∨ b = it by simpa using hb) with z | z
    · subst z; exact ⟨_, he, fun v q => nomatch q⟩
    · subst z; exact ⟨o, ho, fun v q => by rw [hd] at q; cases q⟩
  keep := fun i h h' ⟨⟨old, he⟩, hi, hne⟩ k => ⟨⟨old, k e (by simp) _ he⟩, hi.at fun o q => k it (by simp) o q, hne⟩
  item := by
    rintro X rfl rfl rfl hc i pins s siGr H E I hf ⟨⟨old, he⟩, hit, hne⟩ ⟨xs, x, hq, hx⟩
    obtain ⟨its, rv, p, hz⟩ := I.tuple hq
    obtain ⟨u, hu, ru⟩ := rv.get hx
    have hel : e < s.heap.objs.size := Heap.lt_size he
    have hil : it < s.heap.objs.size := by obtain ⟨_, q, _⟩ := hit; exact Heap.lt_size q
    have hta : a ≠ it := fun z => by
      obtain ⟨o, ho, hcl, _⟩ := id p
      obtain ⟨o', ho', hc', _⟩ := id hit
      rw [z, ho'] at ho; cases ho; rw [hcl] at hc'; exact absurd (Value.type.inj hc') (by decide)
    have hte : e ≠ a := fun z => by
      obtain ⟨o, ho, hcl, _⟩ := id p
      have he' := he
      rw [z] at he'
      rw [show s.heap.get? a = some _ from he'] at ho; cases ho; exact absurd (Value.type.inj hcl) (by decide)
    have iu : i < its.toArray.size := by rw [List.size_toArray]; exact (List.getElem?_eq_some_iff.mp hu).1
    refine wpAny_pyNext_enum_itemD (fp := [it, a]) (n := its.toArray.size) (Draws.tuple (A := X.A.in1) (I.ok.hd hc) it a hta its.toArray) he ⟨hit, p⟩ iu hne (by simp [hne, hte]) fun v h' tk hv ho hst hT hsz hk => ?_
    have ev : v = u := by
      have : its.toArray[i]? = some u := by simpa using hu
      rw [this] at hv; exact (Option.some.inj hv).symm
    subst ev
    refine ⟨_, rfl, wpAny_letOwnedTupleGo_enum (s := { s with heap := h', toks := tk + 1 }) ho fun h'' he' sb => ?_⟩
    have hT2 := (sb.2 _ (Nat.ne_of_gt hel)).trans hT
    have new : ObjOk X.prog X.w (upd H s.heap.objs.size (.tup [.int (i : Nat), x])) h'' s.heap.objs.size (.tup [.int (i : Nat), x]) :=
      ⟨by show 2 ≤ sizeLine; decide, [.int i tk, v], .cons ⟨_, rfl⟩ (.cons ru .nil), ⟨_, hT2, rfl, _, rfl⟩⟩
    have I1 : Inv X pins siGr (upd H s.heap.objs.size (.tup [.int (i : Nat), x])) { s with heap := h'', toks := tk + 1 } := I.turnedNew (ch := [e, it])
      (fun b ob hb q => (sb.2 b (fun z => hb (by simp [z]))).trans (hk b ob (fun z => hb (by simp [z])) (fun z => hb (by simp [z])) q)) hf (Nat.le_refl _) new
    refine ⟨.ref s.heap.objs.size, _, I1, rfl, ⟨_, x, rfl, I.hok.fresh (Nat.le_refl _), rfl, fun ys hy => by rw [I.tuple_inj hy hq]; exact hx⟩, ⟨⟨v, ?_⟩, hst.1.at fun o q => (sb.2 it (Ne.symm hne)).trans q, hne⟩, fun b hb => ?_⟩
    · rw [show ((i + 1 : Nat) : Int) = (i : Int) + 1 by omega]; exact he'
    · have hb' : b < s.heap.objs.size := by
        rcases (show b = e ∨ b = it by simpa using hb) with z | z
        · rw [z]; exact hel
        · rw [z]; exact hil
      rw [upd_ne (Nat.ne_of_lt hb')]
      exact (hf b hb).1
  done := by
    rintro X rfl rfl rfl hc i pins s siGr H E I hf ⟨⟨old, he⟩, hit, hne⟩ ⟨xs, hq, hx⟩
    obtain ⟨its, rv, p, hz⟩ := I.tuple hq
    obtain ⟨f0, f1, f2, f3, f4, f5⟩ := hf it (by simp)
    obtain ⟨g0, g1, g2, g3, g4, g5⟩ := hf e (by simp)
    have hl := rv.length
    have hh := I.ok.hd hc
    have hta : a ≠ it := fun z => by
      obtain ⟨o, ho, hcl, _⟩ := id p
      obtain ⟨o', ho', hc', _⟩ := id hit
      rw [z, ho'] at ho; cases ho; rw [hcl] at hc'; exact absurd (Value.type.inj hc') (by decide)
    have ei : its.toArray.size = i := by rw [List.size_toArray, ← hl]; exact hx
    refine wpAny_pyNext_enum_endD (fp := [it, a]) (n := its.toArray.size) (Draws.tuple (A := X.A.in1) hh it a hta its.toArray) he ⟨by rw [ei]; exact hit, p⟩ fun h' eb => ⟨rfl, I.turned (t' := s.toks) (fun b o hb q => eb b o hb q) f0 f1 f3 f4 f5⟩
  self := fun A i s Q E st h => let ⟨⟨_, he⟩, _⟩ := st; wpAny_pyIter_enum he h
def iEnumT (K : PySem.W.Frag) (ta : TA) : TI := fun siGr H R => ta siGr H fun vs H1 => ∃ a xs, vs = [.ref a] ∧ SqT K H1 a xs ∧ R (Iet K a) H1
theorem pi_enumT {e : Expr} {ta : TA} {p pos tpos : Pos} {elts : List Expr} {kk : Nat} (hg : Gl X "enumerate") (hm : X.mg "enumerate" = none) (ha : PA X [e] ta) (hs : starEach [e] X.env = [(false, eval e X.env)] := by rfl) :
    PI X (.Tuple elts kk tpos) (.Call (.Name "enumerate" p) [e] [] pos) (iEnumT X.K ta) := by
  refine ⟨fun pins s siGr H R I h => Call_ (ld_blt I hg hm boot_enumerate (PyProof.Rows.callWith_type1 (thn (ha.run pos pins s siGr H _ I h) fun us s1 ⟨vs, H1, I1, r1, a, xs, ex, hq, q⟩ => ?_) hs rfl))⟩
  subst ex
  cases r1 with
  | cons r rr =>
    cases rr
    cases r
    obtain ⟨its, rv, p', hz⟩ := I1.tuple hq
    refine call_enum1 (begins_tuple a its.toArray) p' fun h' he hit hsz hk => wpAny_pyIter_enum he ?_
    have I2 : Inv X pins siGr H1 { s1 with heap := h' } := I1.kept (t' := s1.toks) hk
    refine ⟨s1.heap.objs.size + 1, [s1.heap.objs.size + 1, s1.heap.objs.size], _, _, H1, rfl, I2, turn_enumT a (s1.heap.objs.size + 1) s1.heap.objs.size, ⟨⟨.none, he⟩, ⟨_, hit, rfl, rfl⟩, Nat.succ_ne_self _⟩, fun b hb => ?_, q⟩
    have hle : s1.heap.objs.size ≤ b := by
      rcases (show b = s1.heap.objs.size + 1 ∨ b = s1.heap.objs.size by simpa using hb) with z | z <;> subst z
      · exact Nat.le_succ _
      · exact Nat.le_refl _
    exact I1.fpOk hle (I1.hok.fresh hle)
/-- enumerate of a list or of a tuple -/
def iEnumX (K : PySem.W.Frag) (ta : TA) : TI := fun siGr H R => iEnum K ta siGr H R ∨ iEnumT K ta siGr H R
theorem pi_enumX {e : Expr} {ta : TA} {p pos tpos : Pos} {elts : List Expr} {kk : Nat} (hg : Gl X "enumerate") (hm : X.mg "enumerate" = none) (ha : PA X [e] ta) (hs : starEach [e] X.env = [(false, eval e X.env)] := by rfl) :
    PI X (.Tuple elts kk tpos) (.Call (.Name "enumerate" p) [e] [] pos) (iEnumX X.K ta) := ⟨fun pins s siGr H R I h => by
  rcases h with h | h
  · exact (pi_enum hg hm ha hs).run pins s siGr H R I h
  · exact (pi_enumT hg hm ha hs).run pins s siGr H R I h⟩
end
section
variable {Z : Zt} {tl te : TE} {ta : TA} {rhGr : Sl} {w : Own} {PI : List D → (Own → Prop) → Own → Prop}
theorem wi_anyT (h : WE Z tl rhGr w fun d w1 => ∃ ds, d = .tup ds ∧ PI ds (fun _ => True) w1) : WI Z (iAny Z.K tl) rhGr w PI := fun siGr B H k e er R q => .inr (.inl (wi_tup h siGr B H k e er R q))
theorem wi_anyL (h : WE Z tl rhGr w fun d w1 => ∃ ds, (d = .lst ds ∨ d = .sq ds) ∧ PI ds (fun _ => True) w1) : WI Z (iAny Z.K tl) rhGr w PI := fun siGr B H k e er R q => .inl (wi_lst h siGr B H k e er R q)
theorem wi_anyO (h : WE Z tl rhGr w fun d w1 => ∃ p ds, d = .adr p ∧ (p, .lst ds) ∈ w1 ∧ PI ds (fun w' => (p, .lst ds) ∈ w') w1) : WI Z (iAny Z.K tl) rhGr w PI := fun siGr B H k e er R q => .inl (wi_own h siGr B H k e er R q)
def signs (x : Str) : List D := x.cps.toList.map fun c => .str ⟨#[c]⟩
theorem wi_anyS (h : WE Z tl rhGr w fun d w1 => ∃ x, d = .str x ∧ PI (signs x) (fun _ => True) w1) : WI Z (iAny Z.K tl) rhGr w PI := fun siGr B H k e er R q => .inr (.inr (h siGr B H k e er _ fun v d w1 B1 H1 ⟨x, hd, p⟩ t r => by
  subst hd; cases r
  refine ⟨x, rfl, q _ _ _ w1 B1 H1 p t (walk_of fun i w' B' H' t' _ => ⟨fun d hd => ?_, fun hl => ?_⟩)⟩
  · unfold signs at hd
    rw [List.getElem?_map] at hd
    obtain ⟨c, hc, rfl⟩ := Option.map_eq_some_iff.mp hd
    have hc' : x.cps[i]? = some c := by rw [← Array.getElem?_toList]; exact hc
    refine ⟨(Array.getElem?_eq_some_iff.mp hc').1, fun v H2 ⟨e1, c', h1, h2⟩ => ⟨e1, ?_⟩⟩
    rw [hc'] at h1; cases h1; subst h2
    exact .str _
  · unfold signs at hl
    rw [List.length_map, Array.length_toList] at hl
    exact Nat.le_of_eq hl))
/-- the pairs of enumerate -/
def numbered (ds : List D) : List D := ds.zipIdx.map fun p => .tup [.int (p.2 : Nat), p.1]
theorem numbered_at {ds : List D} {i : Nat} {d : D} (h : (numbered ds)[i]? = some d) : ∃ x, ds[i]? = some x ∧ d = .tup [.int (i : Nat), x] := by
  unfold numbered at h
  rw [List.getElem?_map] at h
  obtain ⟨p, hp, rfl⟩ := Option.map_eq_some_iff.mp h
  rw [List.getElem?_zipIdx] at hp
  obtain ⟨x, hx, rfl⟩ := Option.map_eq_some_iff.mp hp
  exact ⟨x, hx, by simp⟩
theorem numbered_len (ds : List D) : (numbered ds).length = ds.length := by simp [numbered]
theorem wi_enumT (h : WA Z ta rhGr w fun xs w1 => ∃ ds, xs = [.tup ds] ∧ PI (numbered ds) (fun _ => True) w1) : WI Z (iEnumX Z.K ta) rhGr w PI := fun siGr B H k e er R q => .inr (h siGr B H k e er _ fun vs xs w1 B1 H1 ⟨ds, hd, p⟩ t r => by
  subst hd
  cases r with
  | cons r rr =>
    cases rr
    cases r with
    | @tup a us _ hq rs =>
      refine ⟨a, us, rfl, sqT_mono t.ok.l hq, q _ _ _ w1 B1 H1 p t fun i w' B' H' t' _ => ⟨fun d hd => ?_, fun hl => ?_⟩⟩
      · obtain ⟨x, hx, rfl⟩ := numbered_at hd
        obtain ⟨v, hv, rv⟩ := rs.getD hx
        have hs : SqT Z.K H' a us := sqT_mono (t'.go.b.trans t'.ok.l) hq
        refine ⟨⟨us, v, hs, hv⟩, fun y H2 ⟨T, v', e1, hT, e2, hy⟩ => ?_⟩
        have e3 := hy us hs
        rw [hv] at e3; cases e3
        subst e1 e2
        have t2 := To.newB (o := .tup [.int (i : Nat), v]) t'.ok hT
        exact ⟨_, t2, .tup (.inl (.inl upd_same)) (.cons (.int _) (.cons (rv.mono (t'.go.b.trans t2.go.b)) .nil))⟩
      · rw [numbered_len] at hl
        exact ⟨us, sqT_mono (t'.go.b.trans t'.ok.l) hq, by rw [rs.length]; exact hl⟩)
theorem wi_enumL (h : WA Z ta rhGr w fun xs w1 => ∃ ds, xs = [.lst ds] ∧ PI (numbered ds) (fun _ => True) w1) : WI Z (iEnumX Z.K ta) rhGr w PI := fun siGr B H k e er R q => .inl (h siGr B H k e er _ fun vs xs w1 B1 H1 ⟨ds, hd, p⟩ t r => by
  subst hd
  cases r with
  | cons r rr =>
    cases rr
    cases r with
    | @lst a us _ hq rs =>
      refine ⟨a, us, rfl, .inl (.inl (t.ok.l _ _ hq)), q _ _ _ w1 B1 H1 p t fun i w' B' H' t' _ => ⟨fun d hd => ?_, fun hl => ?_⟩⟩
      · obtain ⟨x, hx, rfl⟩ := numbered_at hd
        obtain ⟨v, hv, rv⟩ := rs.getD hx
        have hs : SqL Z.K H' a us := .inl (.inl (t'.ok.l _ _ (t'.go.b _ _ hq)))
        refine ⟨⟨us, v, hs, hv⟩, fun y H2 ⟨T, v', e1, hT, e2, hy⟩ => ?_⟩
        have e3 := hy us hs
        rw [hv] at e3; cases e3
        subst e1 e2
        have t2 := To.newB (o := .tup [.int (i : Nat), v]) t'.ok hT
        exact ⟨_, t2, .tup (.inl (.inl upd_same)) (.cons (.int _) (.cons (rv.mono (t'.go.b.trans t2.go.b)) .nil))⟩
      · rw [numbered_len] at hl
        exact ⟨us, .inl (.inl (t'.ok.l _ _ (t'.go.b _ _ hq))), by rw [rs.length]; omega⟩)
theorem wi_rev (h : WA Z ta rhGr w fun xs w1 => ∃ ds, xs = [.lst ds] ∧ PI ds.reverse (fun _ => True) w1) : WI Z (iRev Z.K ta) rhGr w PI := fun siGr B H k e er R q => h siGr B H k e er _ fun vs xs w1 B1 H1 ⟨ds, hd, p⟩ t r => by
  subst hd
  cases r with
  | cons r rr =>
    cases rr
    cases r with
    | @lst a us _ hq rs =>
      refine ⟨a, us, rfl, .inl (.inl (t.ok.l _ _ hq)), q _ _ _ w1 B1 H1 p t (walk_of fun i w' B' H' t' _ => ⟨fun d hd => ?_, fun hl => ?_⟩)⟩
      · have hi : i < ds.length := by have := (List.getElem?_eq_some_iff.mp hd).1; simpa using this
        rw [List.getElem?_reverse hi] at hd
        obtain ⟨v, hv, rv⟩ := rs.getD hd
        have hs : SqL Z.K H' a us := .inl (.inl (t'.ok.l _ _ (t'.go.b _ _ hq)))
        have hv' : us[us.length - 1 - i]? = some v := by rw [rs.length]; exact hv
        refine ⟨⟨by rw [rs.length]; exact hi, us, v, hs, hv'⟩, fun y H2 ⟨e1, hy⟩ => ⟨e1, ?_⟩⟩
        have e3 := hy us hs
        rw [hv'] at e3; cases e3
        exact rv.mono t'.go.b
      · rw [List.length_reverse] at hl
        show us.length ≤ i
        rw [rs.length]; omega
end
end DL
end
section
namespace DL
open PySem L2
open PySem.Spec PyProof.Rows
section
variable {Z : Zt} {x y d : D} {xs ys ds : List D} {w : Own} {P : D → Own → Prop} {i j : Int} {a b : Str}
theorem kit_int : kitB "int" "int" = some true := by decide +kernel
theorem kit_intb : kitB "int" "bool" = some false := by decide +kernel
theorem kit_str : kitB "str" "str" = some true := by decide +kernel
theorem kit_tup : kitB "tuple" "tuple" = some true := by decide +kernel
theorem kit_dct : kitB "dict" "dict" = some true := by decide +kernel
theorem kit_lst : kitB "list" "list" = some true := by decide +kernel
theorem rc_isi_int (p : P (.bl true) w) : RC Z (rIsi Z.K) [.int i, .ty "int"] w P := rc_isi rfl kit_int p
theorem rc_isi_intb (p : P (.bl false) w) : RC Z (rIsi Z.K) [.int i, .ty "bool"] w P := rc_isi rfl kit_intb p
theorem rc_isi_str (p : P (.bl true) w) : RC Z (rIsi Z.K) [.str a, .ty "str"] w P := rc_isi rfl kit_str p
theorem rc_isi_tup (p : P (.bl true) w) : RC Z (rIsi Z.K) [.tup ds, .ty "tuple"] w P := rc_isi rfl kit_tup p
theorem rc_isi_dct {kvs : List (Str × D)} (p : P (.bl true) w) : RC Z (rIsi Z.K) [.dct kvs, .ty "dict"] w P := rc_isi rfl kit_dct p
theorem rd_eq_int_t (h : i = j) (p : P (.bl true) w) : RD Z (rEqX Z.K) (.int i) (.int j) w P := rd_eq_int (by rw [decide_eq_true h]; exact p)
theorem rd_eq_int_f (h : ¬ i = j) (p : P (.bl false) w) : RD Z (rEqX Z.K) (.int i) (.int j) w P := rd_eq_int (by rw [decide_eq_false h]; exact p)
theorem rd_eq_str_t (h : a = b) (p : P (.bl true) w) : RD Z (rEqX Z.K) (.str a) (.str b) w P := rd_eq_str (by rw [decide_eq_true h]; exact p)
theorem rd_eq_str_f (h : ¬ a = b) (p : P (.bl false) w) : RD Z (rEqX Z.K) (.str a) (.str b) w P := rd_eq_str (by rw [decide_eq_false h]; exact p)
theorem rd_ne_str_t (h : ¬ a = b) (p : P (.bl true) w) : RD Z (rNeX Z.K) (.str a) (.str b) w P := rd_ne_str (by rw [decide_eq_false h]; exact p)
theorem rd_ne_str_f (h : a = b) (p : P (.bl false) w) : RD Z (rNeX Z.K) (.str a) (.str b) w P := rd_ne_str (by rw [decide_eq_true h]; exact p)
theorem rd_in_tup_t {ks : List Str} (h : ds = ks.map D.str) (m : a ∈ ks) (p : P (.bl true) w) : RD Z (rInX Z.K) (.str a) (.tup ds) w P := rd_in_tup h (by rw [decide_eq_true m]; exact p)
theorem rd_in_tup_f {ks : List Str} (h : ds = ks.map D.str) (m : ¬ a ∈ ks) (p : P (.bl false) w) : RD Z (rInX Z.K) (.str a) (.tup ds) w P := rd_in_tup h (by rw [decide_eq_false m]; exact p)
theorem rd_notin_tup_f {ks : List Str} (h : ds = ks.map D.str) (m : a ∈ ks) (p : P (.bl false) w) : RD Z (rNotInX Z.K) (.str a) (.tup ds) w P := rd_notin_tup h (by rw [decide_eq_true m]; exact p)
theorem rd_lt_int_t (h : i < j) (p : P (.bl true) w) : RD Z (rLtX Z.K) (.int i) (.int j) w P := rd_lt_int (by rw [decide_eq_true h]; exact p)
theorem rd_lt_int_f (h : ¬ i < j) (p : P (.bl false) w) : RD Z (rLtX Z.K) (.int i) (.int j) w P := rd_lt_int (by rw [decide_eq_false h]; exact p)
theorem rd_le_int_t (h : i ≤ j) (p : P (.bl true) w) : RD Z rLeX (.int i) (.int j) w P := rd_le_int (by rw [decide_eq_true h]; exact p)
theorem rd_le_int_f (h : ¬ i ≤ j) (p : P (.bl false) w) : RD Z rLeX (.int i) (.int j) w P := rd_le_int (by rw [decide_eq_false h]; exact p)
theorem ex_b {C : Bool → Prop} {c : Bool} (h : C c) : ∃ e, D.bl c = D.bl e ∧ C e := ⟨c, rfl, h⟩
theorem and_t {A C : Prop} (h : A) : (true = true → A) ∧ (true = false → C) := ⟨fun _ => h, fun e => Bool.noConfusion e⟩
theorem and_f {A C : Prop} (h : C) : (false = true → A) ∧ (false = false → C) := ⟨fun e => Bool.noConfusion e, fun _ => h⟩
theorem and_t2 {A C : Prop} (h : C) : (true = false → A) ∧ (true = true → C) := ⟨fun e => Bool.noConfusion e, fun _ => h⟩
theorem and_f2 {A C : Prop} (h : A) : (false = false → A) ∧ (false = true → C) := ⟨fun _ => h, fun e => Bool.noConfusion e⟩
theorem and_b {A C : Prop} {c : Bool} (h1 : c = true → A) (h2 : c = false → C) : (c = true → A) ∧ (c = false → C) := ⟨h1, h2⟩
/-- [te for x in src], told by a function of the item -/
theorem we_lcM {rhGr : Sl} {te : TE} {wi : TI} {jj : Nat} (f : D → D) (h : WI Z wi rhGr w fun ds C w1 => ds.length ≤ 1000000 ∧ (∀ x, C (w1 ++ [x])) ∧ (∀ x ∈ ds, WE Z te (rhGr.set jj (some x)) w1 fun d w' => d = f x ∧ w' = w1) ∧ P (.lst (ds.map f)) w1) :
    WE Z (tLc wi (gName jj) tYes te [jj]) rhGr w P := we_lc fun siGr B H k e er R q => h siGr B H k e er R fun J ds C w' B' H' ⟨h1, h2, h3, h4⟩ t wk => q J ds C w' B' H' ⟨ds.map f, by simp, h1, h2, fun i x hx => (h3 x (List.mem_of_getElem? hx)).imp fun d w2 ⟨e1, e2⟩ => ⟨by rw [List.getElem?_map, hx, e1]; rfl, e2⟩, h4⟩ t wk
theorem all_true {ds : List D} : ds.map (fun _ => D.bl true) = (ds.map fun _ => true).map D.bl := by rw [List.map_map]; rfl
theorem all_id {alGr : Type} (ds : List alGr) : (ds.map fun _ => true).all id = true := by induction ds with | nil => rfl | cons x xs ih => exact ih
/-- all([te for x in src]), each true -/
theorem we_allT {rhGr : Sl} {te : TE} {wi : TI} {jj : Nat} (h : WI Z wi rhGr w fun ds C w1 => ds.length ≤ 1000000 ∧ (∀ x, C (w1 ++ [x])) ∧ (∀ x ∈ ds, WE Z te (rhGr.set jj (some x)) w1 fun d w' => d = .bl true ∧ w' = w1) ∧ P (.bl true) w1) :
    WE Z (tCB (rAll Z.K) (tCons (tLc wi (gName jj) tYes te [jj]) tNil)) rhGr w P := we_cb (wa_cons (we_lcM (fun _ => .bl true) fun siGr B H k e er R q => h siGr B H k e er R fun J ds C w' B' H' ⟨h1, h2, h3, h4⟩ t wk => q J ds C w' B' H' ⟨h1, h2, h3, wa_nil (rc_all all_true (by rw [all_id]; exact h4))⟩ t wk))
theorem wi_t {rhGr : Sl} {tl : TE} {PI : List D → (Own → Prop) → Own → Prop} (h : WE Z tl rhGr w fun d w1 => ∃ ds, d = .tup ds ∧ PI ds (fun _ => True) w1) : WI Z (iAny Z.K tl) rhGr w PI := wi_anyT h
/-- a loop, turn by turn -/
def Turns (Z : Zt) (g : TG) (tb : TS) (PO : Out → Prop) : List D → Sl → Own → Prop
  | [], rhGr, w => PO (.nx rhGr w)
  | x :: xs, rhGr, w => WG Z g x rhGr w fun rhGr2 w2 => WS Z tb rhGr2 w2 (Out.loop (Turns Z g tb PO xs) PO)
theorem ws_forU {rhGr : Sl} {wi : TI} {g : TG} {tb : TS} {PO : Out → Prop} (h : WI Z wi rhGr w fun ds C w1 => (∀ w', C w') ∧ Turns Z g tb PO ds rhGr w1) : WS Z (tFor wi g tb) rhGr w PO :=
  ws_for fun siGr B H k e er R q => h siGr B H k e er R fun J ds C w' B' H' ⟨h1, h2⟩ t wk => q J ds C w' B' H' ⟨fun i rhGr' w2 => Turns Z g tb PO (ds.drop i) rhGr' w2, h2, fun _ _ w2 _ => h1 w2, fun i x rhGr' w2 hx hI => by
    have e1 : ds.drop i = x :: ds.drop (i + 1) := by
      obtain ⟨hl, hx⟩ := List.getElem?_eq_some_iff.mp hx
      rw [List.drop_eq_getElem_cons hl, hx]
    have hI2 : Turns Z g tb PO (ds.drop i) rhGr' w2 := hI
    rw [e1] at hI2
    exact hI2, fun rhGr' w2 hI => by
    have hI2 : Turns Z g tb PO (ds.drop ds.length) rhGr' w2 := hI
    rw [List.drop_length] at hI2
    exact hI2⟩ t wk
theorem turns_nil {rhGr : Sl} {g : TG} {tb : TS} {PO : Out → Prop} (h : PO (.nx rhGr w)) : Turns Z g tb PO [] rhGr w := h
theorem turns_cons {rhGr : Sl} {g : TG} {tb : TS} {PO : Out → Prop} (h : WG Z g x rhGr w fun rhGr2 w2 => WS Z tb rhGr2 w2 (Out.loop (Turns Z g tb PO xs) PO)) : Turns Z g tb PO (x :: xs) rhGr w := h
theorem turns_ind {rhGr : Sl} {g : TG} {tb : TS} {PO : Out → Prop} {A : Type} (Q : A → List D → Sl → Own → Prop) (h0 : ∀ s rhGr w, Q s [] rhGr w → PO (.nx rhGr w))
    (hs : ∀ s x xs rhGr w, Q s (x :: xs) rhGr w → WG Z g x rhGr w fun rhGr2 w2 => WS Z tb rhGr2 w2 (Out.loop (fun rhGr3 w3 => ∃ s', Q s' xs rhGr3 w3) PO)) (s : A) (h : Q s ds rhGr w) : Turns Z g tb PO ds rhGr w := by
  induction ds generalizing s rhGr w with
  | nil => exact h0 s rhGr w h
  | cons x xs ih =>
    refine turns_cons fun siGr B H v k e er r Qp q => hs s x xs rhGr w h siGr B H v k e er r Qp fun siGr2 rhGr2 w2 B2 H2 p t e2 => q siGr2 rhGr2 w2 B2 H2 (p.imp fun o po => ?_) t e2
    cases o with
    | nx rhGr3 w3 => obtain ⟨s', hq⟩ := po; exact ih s' hq
    | ct rhGr3 w3 => obtain ⟨s', hq⟩ := po; exact ih s' hq
    | bk rhGr3 w3 => exact po
    | rt d w3 => exact po
def numF (k : Nat) : List D → List D
  | [] => []
  | x :: xs => .tup [.int (k : Nat), x] :: numF (k + 1) xs
theorem numF_eq : ∀ (ds : List D) (k : Nat), (ds.zipIdx k).map (fun p => D.tup [.int (p.2 : Nat), p.1]) = numF k ds
  | [], _ => rfl
  | x :: xs, k => by rw [List.zipIdx_cons, List.map_cons, numF_eq xs (k + 1)]; rfl
theorem numbered_eq (ds : List D) : numbered ds = numF 0 ds := numF_eq ds 0
theorem rc_len_tup_n {n : Nat} (h : ds.length = n) (p : P (.int n) w) : RC Z (rLenX Z.K) [.tup ds] w P := rc_len_tup (by rw [h]; exact p)
theorem rc_len_lst_n {n : Nat} (h : ds.length = n) (p : P (.int n) w) : RC Z (rLenX Z.K) [.lst ds] w P := rc_len_lst (by rw [h]; exact p)
theorem ex_par {C : D → D → Prop} (h : C x y) : ∃ d e, [x, y] = [d, e] ∧ C d e := ⟨x, y, rfl, h⟩
/-- a call that all is handed on to -/
theorem csW {S : DSpec} {X : Own → Prop} (h : S ds w P X) : CS S ds w P X := ⟨w, [], by simp, by simpa using h⟩
/-- a call that touches nothing -/
theorem cs0 {S : DSpec} {X : Own → Prop} (h : S ds [] (fun d m' => P d (m' ++ w)) fun m' => X (m' ++ w)) : CS S ds w P X := ⟨[], w, rfl, h⟩
end
end DL
end
section
namespace DL
open PySem L2
open PySem.Spec PyProof.Rows
section
variable {X : Cx} {K : PySem.W.Frag} (hK : X.K = K)
include hK
theorem k_plus : OpR X (binaryOp .Add) (rPlus K) := by subst hK; exact op_plus
theorem k_eq (hu : X.A.units + 64 < cLine) : OpR X (compareOp .Eq) (rEqX K) := by subst hK; exact op_eqX hu
theorem k_ne (hu : X.A.units + 64 < cLine) : OpR X (compareOp .NotEq) (rNeX K) := by subst hK; exact op_neX hu
theorem k_lt (hu : X.A.units + 64 < cLine) : OpR X (compareOp .Lt) (rLtX K) := by subst hK; exact op_ltX hu
theorem k_in (hu : X.A.units + 1 < cLine) : OpR X (compareOp .In) (rInX K) := by subst hK; exact op_inX hu
theorem k_notIn (hu : X.A.units + 1 < cLine) : OpR X (compareOp .NotIn) (rNotInX K) := by subst hK; exact op_notInX hu
theorem k_ix (hu : X.A.units + 1 < cLine) : IxR X (rIxX K) := by subst hK; exact ix_X hu
theorem k_len : CallR X (.builtin "len") (rLenX K) := by subst hK; exact cr_lenX
theorem k_all (hc : X.calm = true) : CallR X (.builtin "all") (rAll K) := by subst hK; exact cr_all hc
theorem k_any (hc : X.calm = true) : CallR X (.builtin "any") (rAny K) := by subst hK; exact cr_any hc
theorem k_sum (hc : X.calm = true) : CallR X (.builtin "sum") (rSum K) := by subst hK; exact cr_sum hc
theorem k_isi : CallR X (.builtin "isinstance") (rIsi K) := by subst hK; exact call_isi
theorem k_srtS (hc : X.calm = true) : CallR X (.builtin "sorted") (rSrtS K) := by subst hK; exact cr_srtS hc
theorem k_tuple : CallR X (.type "tuple") (rTupOf K) := by subst hK; exact call_tuple_of
theorem k_list (hc : X.calm = true) : CallR X (.type "list") (rListX K) := by subst hK; exact cr_listX hc
theorem k_walk {tg l : Expr} {tl : TE} (hl : PE X l tl) : PI X tg l (iAny K tl) := by subst hK; exact pi_any hl
theorem k_enum {e : Expr} {ta : TA} {p pos tpos : Pos} {elts : List Expr} {kk : Nat} (hg : Gl X "enumerate") (hm : X.mg "enumerate" = none) (ha : PA X [e] ta) (hs : starEach [e] X.env = [(false, eval e X.env)] := by rfl) :
    PI X (.Tuple elts kk tpos) (.Call (.Name "enumerate" p) [e] [] pos) (iEnumX K ta) := by subst hK; exact pi_enumX hg hm ha hs
theorem k_rev {tg e : Expr} {ta : TA} {p pos : Pos} (hg : Gl X "reversed") (hm : X.mg "reversed" = none) (ha : PA X [e] ta) (hs : starEach [e] X.env = [(false, eval e X.env)] := by rfl) : PI X tg (.Call (.Name "reversed" p) [e] [] pos) (iRev K ta) := by subst hK; exact pi_reversed hg hm ha hs
theorem k_fld {e : Expr} {f : Str} {pos : Pos} {ta : TE} (he : PE X e ta) (hb : attributeBase e f X.env (eval e X.env) = eval e X.env) : PE X (.Attribute e f pos) (tFld K ta f) := by subst hK; exact pe_fld he hb
theorem k_sfld {o value : Expr} {f : Str} {pos pos' : Pos} {ta tv : TE} (ha : PE X o ta) (hv : PE X value tv) (hs : swapsWith value (some (.Attribute o f pos')) pos.line X.env = pure false) : PS X (.Assign [.Attribute o f pos'] value pos) (sFld K ta tv f) := by subst hK; exact ps_fld ha hv hs
theorem k_glob {x : Str} {pos : Pos} {d : D} (h : HasC K X.mg x d) (hg : Gl X x) (hd : (x == ("__debug__" : Str)) = false := by decide) : PE X (.Name x pos) (tGl K d) := by subst hK; exact pe_globH h hg hd
theorem k_tup {es : List Expr} {kk : Nat} {t : TGs} {n : Nat} {pos : Pos} (hc : X.calm = true) (h : PGs X es t) (hn : (assignEach es X.env).length = n := by rfl) (hst : (assignEach es X.env).findIdx? (·.1) = none := by rfl) : PG X (.Tuple es kk pos) (gTup K n t) := by
  subst hK; exact pg_tup hc h hn hst
end
end DL
end
section
namespace DL
open PySem L2
open PySem.Spec PyProof.Rows
section
variable {Z : Zt} {x y d : D} {w : Own} {P : D → Own → Prop} {PO : Out → Prop} {rhGr : Sl} {te tv : TE} {ts : TS} {wi wi1 : TI}
/-- less is owned -/
theorem ws_trim {v : Own} (h : WS Z ts rhGr w PO) : WS Z ts rhGr (w ++ v) PO := fun siGr B H k e er D q => h siGr B H k.left e (er.on (To.refl k).drop) D fun o po => (q o po).on (To.refl k).drop
theorem we_trim (h : WE Z te rhGr w fun d w1 => ∃ r v, w1 = r ++ v ∧ P d r) : WE Z te rhGr w P := fun siGr B H k e er Q q => h siGr B H k e er Q fun v d w' B' H' ⟨r, u, hw, p⟩ t rv => by
  subst hw
  exact q v d r B' H' p t.drop rv
theorem we_perm {v : Own} (p : w.Perm v) (h : WE Z te rhGr v P) : WE Z te rhGr w P := fun siGr B H k e er Q q => h siGr B H (k.perm p) e (er.on ((To.refl k).permR p)) Q fun u d w' B' H' pp t r => q u d w' B' H' pp (t.permL p) r

/-! ### a dict is made by a comprehension, its keys the walked texts -/
theorem putK_snoc {ks : List Str} {v : Str → V} {x : Str} {u : V} (h : ¬ x ∈ ks) : putK (ks.map fun y => ((Sum.inr y : Key), v y)) (Sum.inr x) u = (ks.map fun y => ((Sum.inr y : Key), v y)) ++ [(Sum.inr x, u)] := by
  unfold putK
  have : ((ks.map fun y => ((Sum.inr y : Key), v y)).any fun kv => decide (kv.1 = Sum.inr x)) = false := by
    rw [List.any_eq_false]
    intro kv hk
    obtain ⟨y, hy, rfl⟩ := List.mem_map.mp hk
    simp only [decide_eq_true_eq]
    intro e
    cases e
    exact h hy
  rw [if_neg (by rw [this]; exact Bool.false_ne_true)]
theorem putK_snoc' {ws : List (Key × V)} {x : Str} {u : V} (h : ¬ (Sum.inr x : Key) ∈ ws.map (·.1)) : putK ws (Sum.inr x) u = ws ++ [(Sum.inr x, u)] := by
  unfold putK
  have : (ws.any fun kv => decide (kv.1 = (Sum.inr x : Key))) = false := by
    rw [List.any_eq_false]
    intro kv hk
    simp only [decide_eq_true_eq]
    intro e
    exact h (List.mem_map.mpr ⟨kv, hk, e⟩)
  rw [if_neg (by rw [this]; exact Bool.false_ne_true)]
theorem RepK.append {K : PySem.W.Frag} {B : Hp} : ∀ {ws us : List (Key × V)} {kvs lvs : List (Str × D)}, RepK K B ws kvs → RepK K B us lvs → RepK K B (ws ++ us) (kvs ++ lvs)
  | _, _, _, _, .nil, t => t
  | _, _, _, _, .cons r s, t => .cons r (RepK.append s t)
theorem we_dc {j : Nat} (hj : j < rhGr.length) (h : WI Z wi rhGr w fun ds C w1 => ∃ (ks : List Str) (v : Str → D), ds = ks.map D.str ∧ ks.Nodup ∧ ks.length ≤ 1000000 ∧ (∀ x, C (w1 ++ [x])) ∧
    (∀ x ∈ ks, WE Z tv (rhGr.set j (some (.str x))) w1 fun d w' => d = v x ∧ w' = w1) ∧ ∀ p, P (.adr p) (w1 ++ [(p, .dct (ks.map fun x => (x, v x)))])) : WE Z (tDc wi (gName j) tYes (tVar j) tv [j]) rhGr w P := by
  intro siGr B H k e er Q q
  refine h siGr B H k e er _ fun J ds C w1 B1 H1 ⟨ks, v, hds, nd, hz, hC, hE, hP⟩ t1 wk => ?_
  intro Dl hD
  subst hds
  have t0 := To.newO (d := .dct []) t1.ok hD (.dct .nil)
  refine ⟨fun i m H' => m = ks.length - i ∧ i ≤ ks.length ∧ ∃ B', To Z.K w1 B1 H1 (w1 ++ [(Dl, .dct ((ks.take i).map fun x => (x, v x)))]) B' H', ⟨ks.length, by simp, Nat.zero_le _, B1, t0⟩, ?_⟩
  rintro i m H' ⟨rfl, hi, B', t⟩
  obtain ⟨k1, k2⟩ := wk i _ B' H' t (hC _)
  have hw : wipe siGr [j] = siGr.set j none := rfl
  by_cases hlt : i < ks.length
  · have hx : ks[i]? = some ks[i] := by simp [hlt]
    obtain ⟨g1, g2⟩ := k1 (.str ks[i]) (by rw [List.getElem?_map, hx]; rfl)
    refine .inr ⟨g1, fun H2 => ∃ B2, To Z.K w1 B1 H1 (w1 ++ [(Dl, .dct ((ks.take (i + 1)).map fun x => (x, v x)))]) B2 H2, fun H2 ⟨B2, a⟩ => ⟨ks.length - (i + 1), by omega, rfl, hlt, B2, a⟩, fun x H2 y => ?_⟩
    obtain ⟨B2, t2, r2⟩ := g2 x H2 y
    have T := t.trans t2
    cases r2
    rw [hw]
    refine ⟨by show ((siGr.set j none).set j (some _)).set j none = siGr.set j none; rw [List.set_set, List.set_set], ?_⟩
    unfold tYes
    simp only [if_true]
    have e2 : EnvR Z.K B2 ((siGr.set j none).set j (some (.str ks[i]))) (rhGr.set j (some (.str ks[i]))) := by
      have := ((e.mono (t1.trans T).go.b).unset j).set (.str ks[i]) j
      have erhGr : (rhGr.set j none).set j (some (D.str ks[i])) = rhGr.set j (some (.str ks[i])) := List.set_set ..
      rw [erhGr] at this
      exact this
    refine ⟨.str ks[i], ?_, ?_⟩
    · rw [List.set_set, List.getElem?_set_self (by rw [e.len]; exact hj)]
    refine hE ks[i] (List.getElem_mem hlt) _ B2 H2 T.drop.ok e2 (er.on (t1.trans T.drop)) _ fun y d' w' B3 H3 ⟨hy, hw'⟩ t3 r3 => ?_
    subst hw' hy
    have T3 := T.trans (To.frame T.ok t3)
    have il : (w' ++ [(Dl, D.dct ((ks.take i).map fun x => (x, v x)))])[w'.length]? = some (Dl, D.dct ((ks.take i).map fun x => (x, v x))) := by simp
    obtain ⟨o, ho, hh⟩ := (T3.ok.own _ (List.mem_of_getElem? il)).ob
    cases hh with
    | @dct ws _ rr =>
      refine ⟨ws, .inr ks[i], rfl, ho, ?_, ?_⟩
      · rw [rr.length, sizeLine_eq, List.length_map, List.length_take]; omega
      · have e3 : (ks.take (i + 1)) = ks.take i ++ [ks[i]] := by rw [List.take_add_one, hx]; rfl
        have nk : ¬ (Sum.inr ks[i] : Key) ∈ ws.map (·.1) := by
          rw [rr.keys]
          intro hm
          obtain ⟨z, hz, ez⟩ := List.mem_map.mp hm
          cases ez
          rw [List.map_map] at hz
          obtain ⟨z2, hz2, ez2⟩ := List.mem_map.mp hz
          have ez3 : z2 = ks[i] := ez2
          subst ez3
          have : (ks.take (i + 1)).Nodup := (List.take_sublist _ _).nodup nd
          rw [e3] at this
          exact (List.nodup_append.mp this).2.2 _ hz2 _ (by simp) rfl
        rw [putK_snoc' nk]
        have t4 := To.mut T3.ok il (d' := .dct ((ks.take (i + 1)).map fun x => (x, v x))) (.dct (by rw [e3, List.map_append]; exact rr.append (.cons r3 .nil)))
        refine ⟨B3, ?_⟩
        have e4 : (w' ++ [(Dl, D.dct ((ks.take i).map fun x => (x, v x)))]).set w'.length (Dl, D.dct ((ks.take (i + 1)).map fun x => (x, v x))) = w' ++ [(Dl, D.dct ((ks.take (i + 1)).map fun x => (x, v x)))] := by
          rw [List.set_append_right _ _ (Nat.le_refl _)]; simp
        rw [e4] at t4
        exact T3.trans t4
  · obtain rfl : i = ks.length := by omega
    refine .inl ⟨k2 (by simp), ?_⟩
    rw [List.take_length] at t
    exact q _ _ _ _ H' (hP Dl) (t1.trans t) (.adr Dl)

/-! ### a list of two walks -/
theorem take_flat {ds ds1 : List D} {f : D → D → D} {i : Nat} {d : D} (h : ds[i]? = some d) : (ds.take (i + 1)).flatMap (fun x => ds1.map (f x)) = (ds.take i).flatMap (fun x => ds1.map (f x)) ++ ds1.map (f d) := by
  rw [List.take_add_one, h]
  simp
theorem flat_len (ds ds1 : List D) (f : D → D → D) : (ds.flatMap fun x => ds1.map (f x)).length = ds.length * ds1.length := by
  induction ds with
  | nil => simp
  | cons x xs ih => rw [List.flatMap_cons, List.length_append, ih, List.length_map, List.length_cons, Nat.succ_mul, Nat.add_comm]
theorem we_lc2 {j j1 : Nat} (hjj : j ≠ j1) (f : D → D → D) (h : WI Z wi rhGr w fun ds C w1 => ∃ ds1, ds.length ≤ 1000 ∧ ds1.length ≤ 1000 ∧ (∀ x, C (w1 ++ [x])) ∧
    (∀ x ∈ ds, ∀ e, WI Z wi1 ((rhGr.set j1 none).set j (some x)) (w1 ++ [e]) fun ds' C' w' => ds' = ds1 ∧ (∀ z, C' (w1 ++ [z])) ∧ w' = w1 ++ [e]) ∧
    (∀ x ∈ ds, ∀ y ∈ ds1, WE Z te (((rhGr.set j1 none).set j (some x)).set j1 (some y)) w1 fun d w' => d = f x y ∧ w' = w1) ∧ P (.lst (ds.flatMap fun x => ds1.map (f x))) w1) :
    WE Z (tLc2 wi (gName j) tYes wi1 (gName j1) tYes te [j, j1] [j1]) rhGr w P := by
  intro siGr B H k e er Q q
  refine h siGr B H k e er _ fun J ds C w1 B1 H1 ⟨ds1, hz, hz1, hC, hI, hE, hP⟩ t1 wk => ?_
  intro Dl hD
  have t0 := To.newO (d := .lst []) t1.ok hD (.lst .nil)
  refine ⟨fun i m H' => m = ds.length - i ∧ i ≤ ds.length ∧ ∃ B', To Z.K w1 B1 H1 (w1 ++ [(Dl, .lst ((ds.take i).flatMap fun x => ds1.map (f x)))]) B' H', ⟨ds.length, by simp, Nat.zero_le _, B1, t0⟩, ?_⟩
  rintro i m H' ⟨rfl, hi, B', t⟩
  obtain ⟨k1, k2⟩ := wk i _ B' H' t (hC _)
  have hw : wipe siGr [j, j1] = (siGr.set j1 none).set j none := rfl
  by_cases hlt : i < ds.length
  · have hd : ds[i]? = some ds[i] := by simp [hlt]
    obtain ⟨g1, g2⟩ := k1 _ hd
    refine .inr ⟨g1, fun H2 => ∃ B2, To Z.K w1 B1 H1 (w1 ++ [(Dl, .lst ((ds.take (i + 1)).flatMap fun x => ds1.map (f x)))]) B2 H2, fun H2 ⟨B2, a⟩ => ⟨ds.length - (i + 1), by omega, rfl, hlt, B2, a⟩, fun x H2 y => ?_⟩
    obtain ⟨B2, t2, r2⟩ := g2 x H2 y
    have T := t.trans t2
    rw [hw]
    have s1 : (((siGr.set j1 none).set j none).set j (some x)) = (siGr.set j1 none).set j (some x) := List.set_set ..
    refine ⟨by show (((((siGr.set j1 none).set j none).set j (some x)).set j1 none).set j none) = _; rw [s1, List.set_comm _ _ hjj, List.set_set, List.set_set], ?_⟩
    unfold tYes
    simp only [if_true]
    show wi1 (((siGr.set j1 none).set j none).set j (some x)) H2 _
    rw [s1]
    have e2 : EnvR Z.K B2 ((siGr.set j1 none).set j (some x)) ((rhGr.set j1 none).set j (some ds[i])) := ((e.mono (t1.trans T).go.b).unset j1).set r2 j
    refine hI _ (List.getElem_mem hlt) _ _ B2 H2 T.ok e2 (er.on (t1.trans T)) _ fun J1 ds' C' w' B4 H4 ⟨hds', hC', hw'⟩ t4 wk1 => ?_
    subst hds' hw'
    have T4 := T.trans t4
    refine ⟨fun n m H' => m = ds'.length - n ∧ n ≤ ds'.length ∧ ∃ B', To Z.K (w1 ++ [(Dl, D.lst ((ds.take i).flatMap fun x => ds'.map (f x)))]) B4 H4 (w1 ++ [(Dl, D.lst (((ds.take i).flatMap fun x => ds'.map (f x)) ++ (ds'.take n).map (f ds[i])))]) B' H', ⟨ds'.length, by simp, Nat.zero_le _, B4, by simpa using To.refl t4.ok⟩, ?_⟩
    rintro n m H5 ⟨rfl, hn, B5, t5⟩
    obtain ⟨k3, k4⟩ := wk1 n _ B5 H5 t5 (hC' _)
    by_cases hnl : n < ds'.length
    · have hd1 : ds'[n]? = some ds'[n] := by simp [hnl]
      obtain ⟨g3, g4⟩ := k3 _ hd1
      refine .inr ⟨g3, fun H6 => ∃ B6, To Z.K (w1 ++ [(Dl, D.lst ((ds.take i).flatMap fun x => ds'.map (f x)))]) B4 H4 (w1 ++ [(Dl, D.lst (((ds.take i).flatMap fun x => ds'.map (f x)) ++ (ds'.take (n + 1)).map (f ds[i])))]) B6 H6, fun H6 ⟨B6, a⟩ => ⟨ds'.length - (n + 1), by omega, rfl, hnl, B6, a⟩, fun x1 H6 y1 => ?_⟩
      obtain ⟨B6, t6, r6⟩ := g4 x1 H6 y1
      have T6 := (T4.trans t5).trans t6
      have s2 : wipe ((siGr.set j1 none).set j (some x)) [j1] = (siGr.set j1 none).set j (some x) := by
        show ((siGr.set j1 none).set j (some x)).set j1 none = _
        rw [List.set_comm _ _ hjj, List.set_set]
      rw [s2]
      refine ⟨by show (((siGr.set j1 none).set j (some x)).set j1 (some x1)).set j1 none = _; rw [List.set_set]; exact s2, ?_⟩
      simp only [if_true]
      have e6 : EnvR Z.K B6 (((siGr.set j1 none).set j (some x)).set j1 (some x1)) ((((rhGr.set j1 none).set j (some ds[i]))).set j1 (some ds'[n])) := (e2.mono ((t4.trans t5).trans t6).go.b).set r6 j1
      refine hE _ (List.getElem_mem hlt) _ (List.getElem_mem hnl) _ B6 H6 T6.drop.ok e6 (er.on (t1.trans T6.drop)) _ fun y d' w' B7 H7 ⟨hy, hw'⟩ t7 r7 => ?_
      subst hw' hy
      have T7 := t6.trans (To.frame T6.ok t7)
      have il : (w' ++ [(Dl, D.lst (((ds.take i).flatMap fun x => ds'.map (f x)) ++ (ds'.take n).map (f ds[i])))])[w'.length]? = some (Dl, D.lst (((ds.take i).flatMap fun x => ds'.map (f x)) ++ (ds'.take n).map (f ds[i]))) := by simp
      obtain ⟨o, ho, hh⟩ := (T7.ok.own _ (List.mem_of_getElem? il)).ob
      cases hh with
      | lst rr =>
        refine ⟨_, ho, ?_, ?_⟩
        · rw [rr.length, sizeLine_eq, List.length_append, flat_len, List.length_map, List.length_take, List.length_take]
          have : min i ds.length * ds'.length ≤ 1000 * 1000 := Nat.mul_le_mul (by omega) hz1
          omega
        · have e3 : (ds'.take (n + 1)).map (f ds[i]) = (ds'.take n).map (f ds[i]) ++ [f ds[i] ds'[n]] := by
            rw [List.take_add_one, hd1, List.map_append]; rfl
          have t8 := To.mut T7.ok il (d' := .lst (((ds.take i).flatMap fun x => ds'.map (f x)) ++ (ds'.take (n + 1)).map (f ds[i]))) (.lst (by rw [e3, ← List.append_assoc]; exact rr.append (.cons r7 .nil)))
          refine ⟨B7, ?_⟩
          rw [List.set_append_right _ _ (Nat.le_refl _)] at t8
          simp only [Nat.sub_self, List.set_cons_zero] at t8
          exact (t5.trans T7).trans t8
    · obtain rfl : n = ds'.length := by omega
      refine .inl ⟨k4 rfl, B5, ?_⟩
      rw [List.take_length] at t5
      rw [take_flat hd]
      exact T4.trans t5
  · obtain rfl : i = ds.length := by omega
    refine .inl ⟨k2 rfl, ?_⟩
    rw [List.take_length] at t
    have il : (w1 ++ [(Dl, D.lst (ds.flatMap fun x => ds1.map (f x)))])[w1.length]? = some (Dl, D.lst (ds.flatMap fun x => ds1.map (f x))) := by simp
    obtain ⟨o, ho, hh, t6⟩ := To.freeze t.ok il
    have e6 : (w1 ++ [(Dl, D.lst (ds.flatMap fun x => ds1.map (f x)))]).eraseIdx w1.length = w1 := by
      rw [List.eraseIdx_append_of_length_le (Nat.le_refl _)]; simp
    rw [e6] at t6
    exact q _ _ w1 _ H' hP ((t1.trans t).trans t6) (holds_rep (t.ok.own _ (List.mem_of_getElem? il)).none hh)

/-! ### a list over a dict's keys -/
theorem reps_bls {K : PySem.W.Frag} {B : Hp} : ∀ bs : List Bool, Reps K B (bs.map V.bl) (bs.map D.bl)
  | [] => .nil
  | b :: bs => .cons (.bl b) (reps_bls bs)
theorem we_lcKeys {i j : Nat} {kvs : List (Str × D)} (hi : rhGr[i]? = some (some (.dct kvs))) (hz : kvs.length ≤ 1000000)
    (hE : ∀ x ∈ kvs.map (·.1), WE ⟨Z.K, Z.E, Z.T, fun _ => False⟩ te ((List.replicate rhGr.length none).set j (some (.str x))) [] fun d w' => d = .bl true ∧ w' = [])
    (hP : P (.lst (kvs.map fun _ => .bl true)) w) : WE Z (tLockE (tLc (iKeys (tVar i)) (gName j) tYes te [j])) rhGr w P := by
  intro siGr B H k e er Q q
  obtain ⟨v, hv, rv⟩ := e.get i _ hi
  cases rv with
  | @dct d ws _ hq r =>
    have hH := k.l _ _ hq
    refine ⟨d, _, hH, trivial, fun od => ?_⟩
    let wj : TI := fun siGr' H' R => H' d = some (.frz od (.dK ws)) → R (Itk d od ws) H'
    have hwi : WI ⟨Z.K, Z.E, Z.T, fun _ => False⟩ wj (List.replicate rhGr.length none) [] fun ds C w1 => ds.length ≤ 1000000 ∧ (∀ x, C (w1 ++ [x])) ∧ (∀ x ∈ ds, WE ⟨Z.K, Z.E, Z.T, fun _ => False⟩ te ((List.replicate rhGr.length none).set j (some x)) w1 fun d w' => d = .bl true ∧ w' = w1) ∧ D.lst (ds.map fun _ => .bl true) = D.lst (kvs.map fun _ => .bl true) ∧ w1 = [] := by
      intro siGr1 B1 H1 k1 e1 er1 R hR hfrz
      refine hR _ (kvs.map fun kv => D.str kv.1) (fun _ => True) [] B1 H1 ⟨by simpa using hz, fun _ => trivial, ?_, by rw [List.map_map]; rfl, rfl⟩ (.refl k1) (walk_of fun n w' B' H' t' _ => ?_)
      · intro x hx
        obtain ⟨kv, hk, rfl⟩ := List.mem_map.mp hx
        exact hE _ (List.mem_map_of_mem hk)
      · have hf : H' d = some (.frz od (.dK ws)) := t'.go.h d _ (by intro h; cases h) hfrz
        refine ⟨fun x hx => ?_, fun hl => ⟨hf, by rw [r.length, ← hl]; simp⟩⟩
        rw [List.getElem?_map] at hx
        obtain ⟨kv, hk, rfl⟩ := Option.map_eq_some_iff.mp hx
        have hlt := (List.getElem?_eq_some_iff.mp hk).1
        refine ⟨⟨hf, by rw [r.length]; exact hlt⟩, fun y H2 ⟨eH, kk, vv, hkk, ey⟩ => ⟨eH, ?_⟩⟩
        have hkeys : (ws.map (·.1))[n]? = ((kvs.map (·.1)).map Sum.inr)[n]? := by rw [r.keys]
        rw [List.getElem?_map, List.getElem?_map, List.getElem?_map, hk, hkk] at hkeys
        have e9 : kk = Sum.inr kv.1 := Option.some.inj hkeys
        rw [ey, e9]
        exact .str _
    have hb := we_lcM (te := te) (jj := j) (P := fun d' w' => d' = D.lst (kvs.map fun _ => .bl true) ∧ w' = []) (fun _ => D.bl true) hwi
    have hfr : (upd H d (.frz od (.dK ws))) d = some (.frz od (.dK ws)) := upd_same
    have k0 : Ok Z.K (fun _ => none) (upd H d (.frz od (.dK ws))) [] := ⟨fun a u h => (by cases h), fun x hx => (by cases hx), .nil⟩
    have hb1 := hb siGr (fun _ => none) (upd H d (.frz od (.dK ws))) k0 ⟨by simp [e.len], fun n x hx => by
      have := List.mem_of_getElem? hx
      rw [List.mem_replicate] at this
      cases this.2⟩ (fun w' B' H' x _ => x.elim) (fun v H' => H' d = some (.frz od (.dK ws)) ∧ Q v (upd H' d (.dK ws))) fun v d' w' B' H' ⟨hd', hw'⟩ t rv => ?_
    · refine ⟨.ref d, hv, d, od, rfl, .inl ⟨ws, hfr, ?_⟩⟩
      unfold tLc at hb1
      exact hb1 hfr
    · subst hd' hw'
      have nd0 : ∀ a, ¬ dom ([] : Own) a := fun a h => by cases h
      have old : ∀ p o, H p = some o → p ≠ d → H' p = some o := fun p o h hp => t.go.h p o (nd0 p) (by rw [upd_ne hp]; exact h)
      have hd2 : H' d = some (.frz od (.dK ws)) := t.go.h d _ (nd0 d) hfr
      refine ⟨hd2, ?_⟩
      cases rv with
      | @lst a us _ ha ra =>
        have hHa : upd H d (.frz od (.dK ws)) a = none := by
          cases hc : upd H d (.frz od (.dK ws)) a with
          | none => rfl
          | some o => have := t.go.s a o (nd0 a) hc; rw [ha] at this; cases this
        have had : a ≠ d := fun z => by rw [z, hfr] at hHa; cases hHa
        have hHa' : H a = none := by rw [upd_ne had] at hHa; exact hHa
        have hBa : B a = none := k.l.free hHa'
        have ha2 : H' a = some (.lst us) := t.ok.l _ _ ha
        have eus : us = (kvs.map fun _ => true).map V.bl := by
          have ra' : Reps Z.K B' us ((kvs.map fun _ => true).map D.bl) := by rw [List.map_map]; exact ra
          exact ra'.bls
        have nea : ∀ p o, H p = some o → p ≠ a := fun p o h z => by rw [z, hHa'] at h; cases h
        have keep : ∀ p o, H p = some o → upd H' d (.dK ws) p = some o := fun p o h => by
          by_cases hp : p = d
          · subst hp; rw [upd_same, ← hH]; exact h
          · rw [upd_ne hp]; exact old p o h hp
        have T : To Z.K w B H w (upd B a (.lst us)) (upd H' d (.dK ws)) := by
          refine ⟨⟨Same.upd_new hBa, fun p o _ h => keep p o h, fun p o h => ⟨o, keep p o h⟩, fun p o _ h => by rw [upd_ne (nea p o h)]⟩, ⟨fun p u h => ?_, fun x hx => ?_, k.nd⟩, fun p h => .inl h⟩
          · by_cases hp : p = a
            · subst hp; rw [upd_same] at h; cases h; rw [upd_ne had]; exact ha2
            · rw [upd_ne hp] at h; exact keep p u (k.l _ _ h)
          · obtain ⟨o, ho, hh⟩ := (k.own x hx).ob
            exact ⟨by rw [upd_ne (nea _ _ ho)]; exact (k.own x hx).none, o, keep _ _ ho, hh.mono (Same.upd_new hBa)⟩
        refine q _ _ w _ _ hP T (.lst upd_same ?_)
        rw [eus, show (kvs.map fun _ => D.bl true) = (kvs.map fun _ => true).map D.bl by rw [List.map_map]; rfl]
        exact reps_bls _

/-! ### slices -/
/-- the items lo.. of a list -/
def cutD (xs : List D) (lo hi : Option Int) : List D := (xs.drop (HT.sIx xs.length 0 lo)).take (HT.sIx xs.length xs.length hi - HT.sIx xs.length 0 lo)
def WO (Z : Zt) (t : TO) (rhGr : Sl) (w : Own) (P : Option Int → Own → Prop) : Prop := ∀ siGr B H, Ok Z.K B H w → EnvR Z.K B siGr rhGr → Er Z w B H → ∀ Q : Option Int → Hp → Prop,
  (∀ o w' B' H', P o w' → To Z.K w B H w' B' H' → Q o H') → t siGr H Q
theorem wo_none {PO : Option Int → Own → Prop} (p : PO none w) : WO Z tNoPart rhGr w PO := fun siGr B H k e er Q q => q _ w B H p (.refl k)
theorem wo_some {PO : Option Int → Own → Prop} (h : WE Z te rhGr w fun d w1 => ∃ i, d = .int i ∧ PO (some i) w1) : WO Z (tPart te) rhGr w PO := fun siGr B H k e er Q q =>
  h siGr B H k e er _ fun v d w' B' H' ⟨i, hd, p⟩ t r => by subst hd; cases r; exact ⟨i, rfl, q _ w' B' H' p t⟩
theorem Reps.cut {K : PySem.W.Frag} {B : Hp} {vs : List V} {ds : List D} (r : Reps K B vs ds) (lo hi : Option Int) : Reps K B (cutV vs lo hi) (cutD ds lo hi) := by
  unfold cutV cutD
  rw [r.length]
  exact (r.drop _).take _
theorem we_slL {tl th : TO} (h : WE Z te rhGr w fun d w1 => ∃ ds, (d = .lst ds ∨ d = .sq ds) ∧ WO Z tl rhGr w1 fun lo w2 => WO Z th rhGr w2 fun hi w3 => P (.lst (cutD ds lo hi)) w3) : WE Z (tSl (rSlL Z.K) te tl th) rhGr w P := fun siGr B H k e er Q q =>
  h siGr B H k e er _ fun v d w1 B1 H1 ⟨ds, hd, p1⟩ t1 r1 => p1 siGr B1 H1 t1.ok (e.mono t1.go.b) (er.on t1) _ fun lo w2 B2 H2 p2 t2 => p2 siGr B2 H2 t2.ok (e.mono (t1.trans t2).go.b) (er.on (t1.trans t2)) _ fun hi w3 B3 H3 p3 t3 => by
    have T := (t1.trans t2).trans t3
    have fin : ∀ (a : Addr) (vs : List V), v = .ref a → SqL Z.K B1 a vs → Reps Z.K B1 vs ds → rSlL Z.K v lo hi H3 Q := fun a vs hv hq r => by
      refine ⟨a, vs, hv, ((t2.trans t3).go.b.trans t3.ok.l).seq hq, fun p hp => ?_⟩
      have t4 := To.newB (o := .lst (cutV vs lo hi)) t3.ok hp
      exact q _ _ w3 _ _ p3 (T.trans t4) (.lst upd_same ((r.mono ((t2.trans t3).trans t4).go.b).cut lo hi))
    rcases hd with rfl | rfl
    · cases r1 with
      | lst hq r => exact fin _ _ rfl (.inl (.inl hq)) r
    · cases r1 with
      | sq hq r => exact fin _ _ rfl hq r
theorem we_slS {tl th : TO} (h : WE Z te rhGr w fun d w1 => ∃ s : Str, d = .str s ∧ s.length ≤ 100000 ∧ WO Z tl rhGr w1 fun lo w2 => WO Z th rhGr w2 fun hi w3 => P (.str (cutS s lo hi)) w3) : WE Z (tSl rSlS te tl th) rhGr w P := fun siGr B H k e er Q q =>
  h siGr B H k e er _ fun v d w1 B1 H1 ⟨s, hd, hz, p1⟩ t1 r1 => p1 siGr B1 H1 t1.ok (e.mono t1.go.b) (er.on t1) _ fun lo w2 B2 H2 p2 t2 => p2 siGr B2 H2 t2.ok (e.mono (t1.trans t2).go.b) (er.on (t1.trans t2)) _ fun hi w3 B3 H3 p3 t3 => by
    subst hd; cases r1
    exact ⟨s, rfl, by rw [sizeLine_eq]; omega, q _ _ w3 _ _ p3 ((t1.trans t2).trans t3) (.str _)⟩
/-- what is not reached -/
def tDead : TS := fun _ _ _ => False
theorem ps_dead {X : Cx} {st : Stmt} : PS X st tDead := ⟨fun _ _ _ _ _ _ h => h.elim⟩
theorem k_slL {X : Cx} {K : PySem.W.Frag} (hK : X.K = K) : SlR X (rSlL K) := by subst hK; exact sl_list
/-- try, nothing raised -/
theorem ws_thru {tz : TS} (h : WS Z ts rhGr w (Out.thn (fun rhGr1 w1 => WS Z tz rhGr1 w1 PO) PO)) : WS Z (tThru ts tz) rhGr w PO := ws_seq h
end
/-- the __init__ of the class at C, that stands at x -/
def InitAt (K : PySem.W.Frag) (mg : Str → Option Value) (C : Addr) (x qual : Str) (st : Stmt) (ps : List Str) : Prop := ∃ f fd, Fun K "__init__" qual st f fd ∧ mg x = some (.ref C) ∧ Mk K C f ∧ Binds K fd ps []
theorem initD {P : Program} {w : World} {K : PySem.W.Frag} {mg : Str → Option Value} {base : Heap} {C : Addr} {x qual : Str} {st : Stmt} {N ps : List Str} {k : Nat} {S : DSpec} {T : Addr} (F : InitAt K mg C x qual st ps) (Sc : FnScope N ps (defScope st)) (len : ∀ ds w P X, S ds w P X → ds.length = ps.length)
    (hb : ∀ (f : Addr) (cdv : Value) (A : Around) (outer : List Env) (s : Shared) (H : Hp) (E : XK), Room k (A.deeper (envOfC qual (defScope st) s.heap.objs.size f cdv)) →
      ∃ t, PSs (cxOf CX0 P w K mg base N qual (defScope st) f cdv A outer s H E).nox (defBody st) t ∧ ∀ ds w P X, S ds w P X → WS ⟨K, E, T, X⟩ t (rho N ds) w (Post P)) : HasI P w K mg base CX0 C x ps (k + 1) (spOf K T S) := by
  obtain ⟨f, fd, h1, h2, h3, h4⟩ := F
  exact ⟨f, fd, h2, h3, h4, fnD h1 Sc len (hb f)⟩
theorem rd_gt_t {Z : Zt} {i j : Int} {w : Own} {P : D → Own → Prop} (h : j < i) (p : P (.bl true) w) : RD Z (rI0 fun i j => .bl (decide (j < i))) (.int i) (.int j) w P := rd_I0 (g := fun i j => decide (j < i)) (by rw [decide_eq_true h]; exact p)
theorem rd_gt_f {Z : Zt} {i j : Int} {w : Own} {P : D → Own → Prop} (h : ¬ j < i) (p : P (.bl false) w) : RD Z (rI0 fun i j => .bl (decide (j < i))) (.int i) (.int j) w P := rd_I0 (g := fun i j => decide (j < i)) (by rw [decide_eq_false h]; exact p)
theorem rd_ge_t {Z : Zt} {i j : Int} {w : Own} {P : D → Own → Prop} (h : j ≤ i) (p : P (.bl true) w) : RD Z (rI0 fun i j => .bl (decide (j ≤ i))) (.int i) (.int j) w P := rd_I0 (g := fun i j => decide (j ≤ i)) (by rw [decide_eq_true h]; exact p)
theorem rd_ge_f {Z : Zt} {i j : Int} {w : Own} {P : D → Own → Prop} (h : ¬ j ≤ i) (p : P (.bl false) w) : RD Z (rI0 fun i j => .bl (decide (j ≤ i))) (.int i) (.int j) w P := rd_I0 (g := fun i j => decide (j ≤ i)) (by rw [decide_eq_false h]; exact p)
theorem rd_lt_str_t {Z : Zt} {a b : Str} {w : Own} {P : D → Own → Prop} (h : a.cps.toList < b.cps.toList) (p : P (.bl true) w) : RD Z (rLtX Z.K) (.str a) (.str b) w P := rd_lt_str (by rw [decide_eq_true h]; exact p)
end DL
end
section
namespace DL
open PySem L2
open PySem.Spec PyProof.Rows
section
open Builtin PySem.AutoSeq1
theorem extend_tup (l : Addr) (items : Array Value) (n : Nat) (b : Addr) (items2 : Array Value) (n2 : Nat) (d0 : Option Addr) (sl : Array (Option Value)) (hs0 : ¬(!items.isEmpty && Builtin.List.listTooLong (items.size + items2.size)) = true) (hs1 : items.size ≤ sizeLine) (hs2 : items.size + items2.size ≤ sizeLine + 1) :
    Meets (Builtin.«list.extend» ⟨[.ref l, .ref b], []⟩) (fun _ R s => s.heap.get? l = some { cls := .type "list", data := .seq items n } ∧ s.heap.get? b = some { cls := .type "tuple", dict := d0, data := .seq items2 n2, slots := sl } ∧ R (.ok (.ret Value.none)) { s with heap := s.heap.update l (Obj.mapSeq fun x => x ++ items2), toks := s.toks }) :=
  .of_wp fun prog w A R st ⟨hl, hb, h⟩ => by
    obtain ⟨hp, g, d, tk, os⟩ := st
    have f1 := AutoSeq1.idx_int
    have f2 := AutoSeq1.sub_tuple_tuple
    have f3 := AutoSeq1.sub_list_list
    have f4 := AutoSeq1.sub_tuple_list
    have f5 := AutoSeq1.sub_list_tuple
    have hz' : (items ++ items2).size ≤ sizeLine + 1 := by rw [Array.size_append]; exact hs2
    wp_walk using (wpAny_updateSeq hl rfl (hz := hs1) (_hz' := hz')), AutoSeq1.wpAny_loadPart' hl, AutoSeq1.wpAny_loadPart' hb
    exact ⟨_, rfl, h⟩
end
/-- o.extend(e), e a list or a tuple -/
def rExtT (K : PySem.W.Frag) : V → List V → Hp → VK → Prop := fun x vs H Q => ∃ l b xs zs, x = .ref l ∧ vs = [.ref b] ∧ H l = some (.lst xs) ∧ SqT K H b zs ∧ xs.length + zs.length ≤ sizeLine ∧ Q .non (upd H l (.lst (xs ++ zs)))
def rExtX (K : PySem.W.Frag) : V → List V → Hp → VK → Prop := fun x vs H Q => rExtend x vs H Q ∨ rExtT K x vs H Q
theorem mt_extT {X : Cx} : MtM X "list.extend" (rExtT X.K) := by
  intro pins s siGr H x vs v us Q I rx rv h
  obtain ⟨l, b, xs, zs, rfl, rfl, hH, hB, hz, q⟩ := h
  cases rx
  obtain ⟨u, rfl, ru⟩ := rv.one
  cases ru
  obtain ⟨z, its, n, r, hl, e⟩ := I.lstM hH
  obtain ⟨its2, r2, ⟨o, e2, hc, n2, hd⟩, _⟩ := I.tuple hB
  obtain ⟨cls, dict, data, slots⟩ := o
  cases hc; cases hd
  have hl2 := r2.length
  have hsz : its.toArray.size + its2.toArray.size ≤ sizeLine := by rw [List.size_toArray, List.size_toArray]; omega
  have hlong : ¬ (!its.toArray.isEmpty && Builtin.List.listTooLong (its.toArray.size + its2.toArray.size)) = true := by
    rw [notLongL hsz, Bool.and_false]
    exact Bool.false_ne_true
  refine call_meets F.slot_list_extend ⟨_, e, rfl⟩ F.entry_list_extend (F.args_list_extend_2 _ _)
    (extend_tup l its.toArray n b its2.toArray n2 dict slots hlong (by rw [List.size_toArray]; omega) (by omega)) ⟨e, e2, ?_⟩
  refine ⟨.non, _, I.lset (its' := its ++ its2) hH e (by simp) (r.append r2) ?_, rfl, q⟩
  rw [List.length_append]
  omega
theorem mt_extX {X : Cx} {K : PySem.W.Frag} (hK : X.K = K) : MtM X "list.extend" (rExtX K) := by
  subst hK
  intro pins s siGr H x vs v us Q I rx rv h
  rcases h with h | h
  · exact mt_extend pins s siGr H x vs v us Q I rx rv h
  · exact mt_extT pins s siGr H x vs v us Q I rx rv h
section
variable {Z : Zt} {w : Own} {P : D → Own → Prop} {rhGr : Sl} {te to : TE}
theorem we_extX (h : WE Z to rhGr w fun x w1 => ∃ c, x = .adr c ∧ (∃ (n : Nat) (ds : List D), w1[n]? = some (c, .lst ds)) ∧ WE Z te rhGr w1 fun d w2 => ∃ es, (d = .lst es ∨ d = .tup es) ∧ ∃ (n : Nat) (ds : List D), w2[n]? = some (c, .lst ds) ∧ ds.length + es.length ≤ 10000000 ∧ P .non (w2.set n (c, .lst (ds ++ es)))) :
    WE Z (tBM Z.K "list" (rExtX Z.K) to (tCons te tNil)) rhGr w P := fun siGr B H k e er Q q =>
  h siGr B H k e er _ fun v x w1 B1 H1 ⟨c, hx, ⟨n, ds, hn⟩, p1⟩ t1 r1 => by
    subst hx; cases r1
    obtain ⟨o, ho, hh⟩ := (t1.ok.own _ (List.mem_of_getElem? hn)).ob
    cases hh with
    | lst r0 =>
      refine ⟨.inl ⟨rfl, _, .inl (.inl ho)⟩, ?_⟩
      refine p1 siGr B1 H1 t1.ok (e.mono t1.go.b) (er.on t1) _ fun u d w2 B2 H2 ⟨es, hd, n2, ds2, hn2, hz, p2⟩ t2 r2 => ?_
      obtain ⟨o2, ho2, hh2⟩ := (t2.ok.own _ (List.mem_of_getElem? hn2)).ob
      cases hh2 with
      | lst r3 =>
        rcases hd with rfl | rfl
        · cases r2 with
          | @lst b2 vs2 _ hq r2 =>
            refine .inl ⟨c, b2, _, _, rfl, rfl, ho2, t2.ok.l _ _ hq, by rw [r3.length, r2.length, sizeLine_eq]; omega, ?_⟩
            exact q _ _ _ _ _ p2 ((t1.trans t2).trans (To.mut t2.ok hn2 (.lst (r3.append r2)))) .non
        · cases r2 with
          | @tup b2 vs2 _ hq r2 =>
            refine .inr ⟨c, b2, _, _, rfl, rfl, ho2, sqT_mono t2.ok.l hq, by rw [r3.length, r2.length, sizeLine_eq]; omega, ?_⟩
            exact q _ _ _ _ _ p2 ((t1.trans t2).trans (To.mut t2.ok hn2 (.lst (r3.append r2)))) .non
end
end DL
end
section
namespace DL
open PySem L2
open PySem.Spec PyProof.Rows
/-- an own exception class without a body, that stands at x -/
structure ExcAt (K : PySem.W.Frag) (mg : Str → Option Value) (x : Str) (C : Addr) : Prop where
  ex : ∃ (bmB : List Value) (B newId initId : String), ExcBaseFacts B newId initId bmB ∧ PySem.W.excIn K C bmB newId = true
  g : mg x = some (.ref C)
  kp : PySem.W.keepIn K (.ref C) = true
  sub : PySem.W.subIn K (.ref C) (.type "BaseException") = some true
  ty : PySem.W.typeIn K (.ref C) = some (.type "type")
theorem pmk_0 {X : Cx} {x : Str} {C : Addr} {p pos : Pos} (h : ExcAt X.K X.mg x C) (hg : Gl X x) (hdb : (x == ("__debug__" : Str)) = false := by decide) : PMk X (.Call (.Name x p) [] [] pos) (fun _ H Q => Q (.ref C) none H) := by
  intro pins s siGr H Q I hq
  obtain ⟨bmB, B, newId, initId, F, q⟩ := h.ex
  refine wpAny_Call_Name_kw (ld_glob I hg h.g ?_ hdb)
  refine PySem.W.callWith_K0 I.kIn h.kp ?_
  show wpAny _ _ (call (.ref C) []) _ _ _
  obtain ⟨bm, N, nm, qn, bs, hdct, sn, sub, ab, col, dd, k0, k1, k2, k3, k5, mN, hC, hN, hni, T⟩ := exc_obj I.kIn q
  refine wpAny_call_exc_subT F T hC hN hni (fun h' e hm => ?_) (Nat.zero_le _)
  exact mk_of I hm (raises_own h.sub h.ty) hq (I.hok.gone hm.new)
def tRz (T : Addr) (E : XK) : TS := fun _ _ H => E (.ref T) none H
theorem ps_rz {X : Cx} {x : Str} {C : Addr} {p pos pos' : Pos} {E : XK} (hc : X.calm = true) (tk : Takes X (fun cls d _ H => E cls d H)) (h : ExcAt X.K X.mg x C) (hg : Gl X x) (hdb : (x == ("__debug__" : Str)) = false := by decide) :
    PS X (.Raise (some (.Call (.Name x p) [] [] pos)) none pos') (tRz C E) := ps_raise hc tk (pmk_0 h hg hdb)
section
variable {Z : Zt} {rhGr : Sl} {w : Own} {PO : Out → Prop}
theorem ws_rz {T : Addr} {E : XK} (hE : E = Z.E) (hT : T = Z.T) (p : Z.X w) : WS Z (tRz T E) rhGr w PO := by
  subst hE hT
  exact fun siGr B H k e er D q => er w B H p (.refl k)
theorem WS.own {ts : TS} {w' : Own} (e : w = w') (h : WS Z ts rhGr w' PO) : WS Z ts rhGr w PO := by subst e; exact h
theorem we_keep {te : TE} {P : D → Own → Prop} (h : WE Z te rhGr w fun d w1 => ∃ r v, w1.Perm (r ++ v) ∧ P d r) : WE Z te rhGr w P := fun siGr B H k e er Q q => h siGr B H k e er Q fun v d w' B' H' ⟨r, u, hp, p⟩ t rv => q v d r B' H' p (t.permR hp).drop rv
theorem cpW {S : DSpec} {ds : List D} {P : D → Own → Prop} {X : Own → Prop} (h : S ds w P X) : CP S ds w P X := ⟨w, [], by rw [List.append_nil], by simpa using h⟩
theorem cpF {S : DSpec} {ds : List D} {mine rest : Own} {P : D → Own → Prop} {X : Own → Prop} (e : w = mine ++ rest) (h : S ds mine (fun d m' => P d (m' ++ rest)) fun m' => X (m' ++ rest)) : CS S ds w P X := ⟨mine, rest, e, h⟩
theorem passX {X : Cx} {E : XK} (tk : Takes X (fun cls d _ H => E cls d H)) : Passes (L2.CX X.prog X.w) X E := passes_call tk fun _ _ _ _ h => h
end
section
variable {P : Program} {w : World} {K : PySem.W.Frag} {mg : Str → Option Value} {base : Heap}
theorem fnX {x qual : Str} {st : Stmt} {f : Addr} {fd : FuncData} {N ps : List Str} {k : Nat} {S : DSpec} {T : Addr} (F : Fun K x qual st f fd) (Sc : FnScope N ps (defScope st)) (len : ∀ ds w P X, S ds w P X → ds.length = ps.length)
    (hb : ∀ (cdv : Value) (A : Around) (outer : List Env) (s : Shared) (H : Hp) (E : XK), Takes (cxOf (L2.CX P w) P w K mg base N qual (defScope st) f cdv A outer s H E) (fun cls d _ H => E cls d H) → Room k (A.deeper (envOfC qual (defScope st) s.heap.objs.size f cdv)) →
      ∃ t, PSs (cxOf (L2.CX P w) P w K mg base N qual (defScope st) f cdv A outer s H E) (defBody st) t ∧ ∀ ds w P X, S ds w P X → WS ⟨K, E, T, X⟩ t (rho N ds) w (Post P)) : FnOk P w K mg base (L2.CX P w) (k + 1) f fd ps (spOf K T S) :=
  F.okX Sc (fun vs H Q E ⟨_, ds, _, _, _, _, r, hS, _⟩ => r.length.trans (len _ _ _ _ hS)) fun cdv A outer s H vs Q E hr h => by
    obtain ⟨t, h1, h2⟩ := hb cdv A outer s H E (takes_of rfl rfl rfl rfl) hr
    exact ⟨t, h1, body_ok h h2⟩
theorem defX {x : Str} {st : Stmt} {N ps : List Str} {k : Nat} {S : DSpec} {T : Addr} (F : DefAt K mg x st ps) (Sc : FnScope N ps (defScope st)) (len : ∀ ds w P X, S ds w P X → ds.length = ps.length)
    (hb : ∀ (f : Addr) (cdv : Value) (A : Around) (outer : List Env) (s : Shared) (H : Hp) (E : XK), Takes (cxOf (L2.CX P w) P w K mg base N x (defScope st) f cdv A outer s H E) (fun cls d _ H => E cls d H) → Room k (A.deeper (envOfC x (defScope st) s.heap.objs.size f cdv)) →
      ∃ t, PSs (cxOf (L2.CX P w) P w K mg base N x (defScope st) f cdv A outer s H E) (defBody st) t ∧ ∀ ds w P X, S ds w P X → WS ⟨K, E, T, X⟩ t (rho N ds) w (Post P)) : Has P w K mg base (L2.CX P w) x ps (k + 1) (spOf K T S) := by
  obtain ⟨f, fd, h1, h2, h3⟩ := F
  exact ⟨f, fd, h2, h1.kp, h3, fnX h1 Sc len (hb f)⟩
theorem methX {C : Addr} {m qual : Str} {st : Stmt} {N ps : List Str} {k : Nat} {S : DSpec} {T : Addr} (F : MethAt K C m qual st ps) (Sc : FnScope N ps (defScope st)) (len : ∀ ds w P X, S ds w P X → ds.length = ps.length)
    (hb : ∀ (f : Addr) (cdv : Value) (A : Around) (outer : List Env) (s : Shared) (H : Hp) (E : XK), Takes (cxOf (L2.CX P w) P w K mg base N qual (defScope st) f cdv A outer s H E) (fun cls d _ H => E cls d H) → Room k (A.deeper (envOfC qual (defScope st) s.heap.objs.size f cdv)) →
      ∃ t, PSs (cxOf (L2.CX P w) P w K mg base N qual (defScope st) f cdv A outer s H E) (defBody st) t ∧ ∀ ds w P X, S ds w P X → WS ⟨K, E, T, X⟩ t (rho N ds) w (Post P)) : HasM P w K mg base (L2.CX P w) C m ps (k + 1) (spOf K T S) := by
  obtain ⟨f, fd, h1, h2, h3⟩ := F
  exact ⟨f, fd, h2, h3, fnX h1 Sc len (hb f)⟩
end
end DL
end
section
namespace DL
open PySem L2
open PySem.Spec PyProof.Rows
section
variable {P : Program} {w : World} {K : PySem.W.Frag} {mg : Str → Option Value} {base : Heap}
theorem fn_void {x qual : Str} {st : Stmt} {f : Addr} {fd : FuncData} {N ps : List Str} {k : Nat} {S : DSpec} {T : Addr} (F : Fun K x qual st f fd) (Sc : FnScope N ps (defScope st)) (hv : ∀ ds w P X, ¬ S ds w P X) : FnOk P w K mg base CX0 (k + 1) f fd ps (spOf K T S) :=
  F.ok Sc (fun vs H Q E ⟨_, ds, _, _, _, _, _, hS, _⟩ => (hv _ _ _ _ hS).elim) fun cdv A outer s H vs Q E hr ⟨_, ds, _, _, _, _, _, hS, _⟩ => (hv _ _ _ _ hS).elim
/-- a promise that nobody can ask for -/
theorem has_void {x : Str} {st : Stmt} {N ps : List Str} {k : Nat} {S : DSpec} {T : Addr} (F : DefAt K mg x st ps) (Sc : FnScope N ps (defScope st)) (hv : ∀ ds w P X, ¬ S ds w P X) : Has P w K mg base CX0 x ps (k + 1) (spOf K T S) := by
  obtain ⟨f, fd, h1, h2, h3⟩ := F
  exact ⟨f, fd, h2, h1.kp, h3, fn_void h1 Sc hv⟩
theorem hasM_void {C : Addr} {m qual : Str} {st : Stmt} {N ps : List Str} {k : Nat} {S : DSpec} {T : Addr} (F : MethAt K C m qual st ps) (Sc : FnScope N ps (defScope st)) (hv : ∀ ds w P X, ¬ S ds w P X) : HasM P w K mg base (L2.CX P w) C m ps (k + 1) (spOf K T S) := by
  obtain ⟨f, fd, h1, h2, h3⟩ := F
  exact ⟨f, fd, h2, h3, h1.okX Sc (fun vs H Q E ⟨_, ds, _, _, _, _, _, hS, _⟩ => (hv _ _ _ _ hS).elim) fun cdv A outer s H vs Q E hr ⟨_, ds, _, _, _, _, _, hS, _⟩ => (hv _ _ _ _ hS).elim⟩
end
def CPowW (i j : Int) : Prop := 0 ≤ j ∧ (Builtin.Int.intBits i : Int) * j ≤ 2 ^ 27
abbrev rPowW : R2 := rI CPowW fun i j => .int (i ^ j.toNat)
theorem op_powW {X : Cx} : OpR X (binaryOp .Pow) rPowW := opI fun _ _ _ _ _ _ _ hc q => pow_int hc.1 hc.2 q
section
variable {Z : Zt} {w : Own} {P : D → Own → Prop} {i j : Int}
theorem rd_powW (h : CPowW i j) (p : P (.int (i ^ j.toNat)) w) : RD Z rPowW (.int i) (.int j) w P := fun B H vx vy k er rx ry Q q => by
  cases rx; cases ry
  exact ⟨i, j, rfl, rfl, h, q _ _ w B H p (.refl k) (.int _)⟩
end
end DL
end
section
namespace DL
open PySem L2
open PySem.Spec PyProof.Rows
def WPs (Z : Zt) (trs : List (TE × TE)) (rhGr : Sl) (w : Own) (P : List (Str × D) → Own → Prop) : Prop := ∀ siGr B H, Ok Z.K B H w → EnvR Z.K B siGr rhGr → Er Z w B H → ∀ Q : List (V × V) → Hp → Prop,
  (∀ ws kvs w' B' H', P kvs w' → To Z.K w B H w' B' H' → RepK Z.K B' ws kvs → Q (ws.map fun kv => (kV kv.1, kv.2)) H') → tPairs trs siGr H Q
theorem RepK.mono2 {K : PySem.W.Frag} {B B' : Hp} (e : Same B B') {ws : List (Key × V)} {kvs : List (Str × D)} (r : RepK K B ws kvs) : RepK K B' ws kvs := RepK.mono e r
section
variable {Z : Zt} {rhGr : Sl} {w : Own} {P : D → Own → Prop} {PP : List (Str × D) → Own → Prop} {tk tv : TE} {trs : List (TE × TE)}
theorem wps_nil (p : PP [] w) : WPs Z [] rhGr w PP := fun siGr B H k e er Q q => q [] [] w B H p (.refl k) .nil
theorem wps_cons (h : WE Z tk rhGr w fun d w1 => ∃ s, d = .str s ∧ WE Z tv rhGr w1 fun x w2 => WPs Z trs rhGr w2 fun kvs w3 => PP ((s, x) :: kvs) w3) : WPs Z ((tk, tv) :: trs) rhGr w PP := fun siGr B H k e er Q q =>
  h siGr B H k e er _ fun v d w1 B1 H1 ⟨s, hd, p1⟩ t1 r1 => by
    subst hd; cases r1
    refine p1 siGr B1 H1 t1.ok (e.mono t1.go.b) (er.on t1) _ fun u x w2 B2 H2 p2 t2 r2 => ?_
    have T := t1.trans t2
    refine p2 siGr B2 H2 t2.ok (e.mono T.go.b) (er.on T) _ fun ws kvs w3 B3 H3 p3 t3 r3 => ?_
    exact q ((.inr s, u) :: ws) ((s, x) :: kvs) w3 B3 H3 p3 (T.trans t3) (.cons (r2.mono t3.go.b) r3)
theorem merge_nodup : ∀ (ws acc : List (Key × V)), ((acc ++ ws).map (·.1)).Nodup → (∀ kv ∈ ws, ∃ s : Str, kv.1 = .inr s) → mergeK acc ws = acc ++ ws
  | [], acc, _, _ => by rw [List.append_nil]; rfl
  | (k, v) :: ws, acc, nd, hs => by
    obtain ⟨s, hs1⟩ := hs (k, v) (by simp)
    have hs1 : k = .inr s := hs1
    subst hs1
    show mergeK (putK acc (.inr s) v) ws = _
    have hn : ¬ (Sum.inr s : Key) ∈ acc.map (·.1) := by
      rw [List.map_append] at nd
      intro h
      exact (List.nodup_append.mp nd).2.2 _ h _ (by simp) rfl
    rw [putK_snoc' hn]
    have e : acc ++ (Sum.inr s, v) :: ws = (acc ++ [(Sum.inr s, v)]) ++ ws := by simp
    rw [e] at nd ⊢
    exact merge_nodup ws _ nd fun kv hk => hs kv (List.mem_cons_of_mem _ hk)
theorem RepK.strs {K : PySem.W.Frag} {B : Hp} : ∀ {ws : List (Key × V)} {kvs : List (Str × D)}, RepK K B ws kvs → ∀ kv ∈ ws, ∃ s : Str, kv.1 = .inr s
  | _, _, .nil, kv, h => by cases h
  | _, _, .cons r t, kv, h => by
    rcases List.mem_cons.mp h with rfl | h
    · exact ⟨_, rfl⟩
    · exact RepK.strs t kv h
theorem we_disp (h : ∀ p, WPs Z trs rhGr (w ++ [(p, .dct [])]) fun kvs w1 => kvs.length ≤ 15 ∧ (kvs.map (·.1)).Nodup ∧ ∃ n, w1[n]? = some (p, .dct []) ∧ P (.adr p) (w1.set n (p, .dct kvs))) : WE Z (tDisp trs) rhGr w P := fun siGr B H k e er Q q p hp => by
  have t0 := To.newO (d := .dct []) k hp (.dct .nil)
  refine h p siGr B _ t0.ok (e.mono t0.go.b) (er.on t0) _ fun ws kvs w1 B1 H1 ⟨hl, nd, n, hn, pp⟩ t1 r1 => ?_
  obtain ⟨o, ho, hh⟩ := (t1.ok.own _ (List.mem_of_getElem? hn)).ob
  cases hh with
  | dct r0 =>
    cases r0
    refine ⟨ho, ws, rfl, by rw [r1.length]; exact hl, ?_⟩
    have hnd : (([] ++ ws : List (Key × V)).map (·.1)).Nodup := by
      rw [List.nil_append, r1.keys]
      exact List.Pairwise.map Sum.inr (fun a b h e => h (Sum.inr.inj e)) nd
    rw [merge_nodup ws [] hnd r1.strs]
    exact q _ _ _ _ _ pp ((t0.trans t1).trans (To.mut t1.ok hn (.dct r1))) (.adr p)
end
end DL
end
section
namespace DL
open PySem L2
open PySem.Spec PyProof.Rows
/-- behind a statement, an owned object becomes data -/
theorem WS.frz {Z : Zt} {ts : TS} {rhGr : Sl} {w : Own} {PO PO' : Out → Prop} (h : WS Z ts rhGr w PO)
    (i : ∀ o, PO o → PO' o ∨ ∃ (rhGr1 : Sl) (w1 : Own) (i : Nat) (p : Addr) (d : D) (rhGr2 : Sl), o = .nx rhGr1 w1 ∧ w1[i]? = some (p, d) ∧ rhGr2.length = rhGr1.length ∧
      (∀ (j : Nat) (x : D), rhGr2[j]? = some (some x) → rhGr1[j]? = some (some x) ∨ (rhGr1[j]? = some (some (.adr p)) ∧ x = d)) ∧ PO' (.nx rhGr2 (w1.eraseIdx i))) : WS Z ts rhGr w PO' :=
  fun siGr B H k e er D q => h siGr B H k e er D fun o po => by
    rcases i o po with p | ⟨rhGr1, w1, i, p, d, rhGr2, rfl, hi, hl, hs, p'⟩
    · exact q o p
    · intro siGr' B' H' t e'
      obtain ⟨o, ho, hh, t2⟩ := To.freeze t.ok hi
      have hB := (t.ok.own _ (List.mem_of_getElem? hi)).none
      refine q _ p' siGr' _ H' (t.trans t2) ⟨e'.len.trans hl.symm, fun j x hx => ?_⟩
      rcases hs j x hx with h1 | ⟨h1, h2⟩
      · exact (e'.mono t2.go.b).get j x h1
      · obtain ⟨v, hv, rv⟩ := e'.get j _ h1
        cases rv
        subst h2
        exact ⟨_, hv, holds_rep hB hh⟩
/-- the numbers from i on, m of them -/
def natsF : Nat → Nat → List D
  | _, 0 => []
  | i, m + 1 => .int (i : Nat) :: natsF (i + 1) m
theorem natsF_eq : ∀ (m i : Nat), (List.range' i m).map (fun j : Nat => D.int (j : Nat)) = natsF i m
  | 0, _ => rfl
  | m + 1, i => by rw [List.range'_succ, List.map_cons, natsF_eq m (i + 1)]; rfl
theorem iterN_eq (m : Nat) : iterN m = natsF 0 m := by unfold iterN; rw [List.range_eq_range', natsF_eq]
end DL
end
section
namespace DL
open PySem L2
open PySem.Spec PyProof.Rows
section
variable {X : Cx} {pins : List (Addr × Obj)} {siGr : L2.St} {H : Hp} {s : Shared}
theorem dpAll_len {K : PySem.W.Frag} : ∀ {xs : List V} {ds : List PyData}, DpAll K H xs ds → xs.length = ds.length
  | _, _, .nil => rfl
  | _, _, .cons _ t => congrArg (· + 1) (dpAll_len t)
theorem zip_snd {alGr beGr : Type} : ∀ (xs : List alGr) (ds : List beGr), xs.length = ds.length → (xs.zip ds).map Prod.snd = ds
  | [], [], _ => rfl
  | [], _ :: _, h => by simp at h
  | _ :: _, [], h => by simp at h
  | x :: xs, d :: ds, h => by
    show d :: (xs.zip ds).map Prod.snd = d :: ds
    rw [zip_snd xs ds (by simpa using h)]
theorem each_zip (I : Inv X pins siGr H s) : ∀ {xs : List V} {ds : List PyData} {its : List Value}, DpAll X.K H xs ds → Vals xs its → PySem.W.EachIs (fun (u : Value) (p : V × PyData) => RelV p.1 u ∧ ∃ as, Reads s.heap u p.2 as) its (xs.zip ds)
  | _, _, _, .nil, .nil => .nil
  | _, _, _, .cons h1 h2, .cons r1 r2 => .cons ⟨r1, Dp.reads I _ _ _ h1 r1⟩ (each_zip I h2 r2)
theorem vals_zip : ∀ {xs : List V} {ds : List PyData} {out : List Value}, xs.length = ds.length → PySem.W.EachIs (fun (u : Value) (p : V × PyData) => RelV p.1 u) out (xs.zip ds) → Vals xs out
  | [], [], _, _, e => by cases e; exact .nil
  | [], _ :: _, _, h, _ => by simp at h
  | _ :: _, [], _, h, _ => by simp at h
  | x :: xs, d :: ds, _, h, e => by
    cases e with
    | cons a t => exact .cons a (vals_zip (by simpa using h) t)
end
section
variable {X : Cx}
def rSrtA (K : PySem.W.Frag) : List V → Hp → VK → Prop := fun vs H Q => ∃ (a : Addr) (xs : List V) (ds : List PyData), vs = [.ref a] ∧ SqL K H a xs ∧ DpAll K H xs ds ∧ (2 ≤ ds.length → PySem.W.AllAlike ds ∧ PySem.W.Sortable ds) ∧
  ds.Pairwise (fun d e => PySem.W.dataLt e d = false) ∧ (∀ d ∈ ds, d.depth ≤ 60) ∧ ∀ p, H p = none → Q (.ref p) (upd H p (.lst xs))
theorem cr_srtA (hu : X.A.units + 64 < cLine) : CallR X (.builtin "sorted") (rSrtA X.K) := by
  intro pins s siGr H vs us Q I r h
  obtain ⟨a, xs, ds, rfl, hs, hd, hS, hp, hdep, q⟩ := h
  obtain ⟨its, rv, hl, hz⟩ := I.list hs
  rw [Vals.ref1 r]
  have l1 := rv.length
  have l2 := dpAll_len hd
  have hz' : its.length ≤ sizeLine := by first | exact hz | (rw [← l1]; exact hz) | simpa using hz
  have fin : ∀ out : List Value, Vals xs out → EP X pins siGr Q (.ref (s.heap.objs.size + 1)) { s with heap := sortedAll s.heap its out.toArray } := fun out vo => by
    obtain ⟨ep, he'⟩ := PyProof.Rows.sortedAll_at s.heap its out.toArray
    exact ⟨.ref _, upd H (s.heap.objs.size + 1) (.lst xs), I.laid (t' := s.toks) (fun _ _ => PyProof.Rows.sortedAll_old) (Nat.le_succ _) ⟨by rw [l1]; exact hz', out.toArray.toList, ep, by simpa using vo, he'⟩, rfl, q _ (I.hok.fresh (Nat.le_succ _))⟩
  by_cases h2 : 2 ≤ ds.length
  · obtain ⟨hal, hk⟩ := hS h2
    have ez := zip_snd xs ds l2
    have ea := each_zip I hd rv
    refine PySem.W.sorted_data (β := V × PyData) (bs := xs.zip ds) (enc := Prod.snd) (R := fun u p => RelV p.1 u) hl.isList (ea.mono fun _ _ h => h.1) (ea.mono fun _ _ h => h.2) (by rw [ez]; exact hal) (by rw [ez]; exact hk) (by rw [List.length_zip]; omega) (fun b hb => ?_) fun out _ eo => ?_
    · have hm : b.2 ∈ ds := by rw [← ez]; exact List.mem_map_of_mem hb
      have := hdep _ hm
      omega
    · have hpw : (xs.zip ds).Pairwise (fun x y => PySem.W.dataLe false Prod.snd x y = true) := by
        rw [← ez] at hp
        refine (List.pairwise_map.mp hp).imp fun {x y} hxy => ?_
        rw [PySem.W.dataLe_eq]
        show (!PySem.W.dataLt y.2 x.2) = true
        rw [hxy]; rfl
      rw [List.mergeSort_of_pairwise hpw] at eo
      exact fin out (vals_zip l2 eo)
  · refine SrtO.sorted_ord (ltv := fun _ _ => false) ⟨fun _ _ _ => rfl, fun _ _ _ _ _ => rfl⟩ hl.isList hz' (fun h => absurd h (by omega)) fun out _ sb => fin out ?_
    have pm := sb.perm
    have hlen : its.length ≤ 1 := by omega
    match its, hlen, pm, rv with
    | [], _, pm, rv => rw [List.Perm.eq_nil pm]; exact rv
    | [v], _, pm, rv => rw [List.perm_singleton.mp pm]; exact rv
    | _ :: _ :: _, h, _, _ => simp at h
def rSrtZ (K : PySem.W.Frag) : List V → Hp → VK → Prop := fun vs H Q => rSrtS K vs H Q ∨ rSrtA K vs H Q
theorem k_srtZ {K : PySem.W.Frag} (hK : X.K = K) (hc : X.calm = true) (hu : X.A.units + 64 < cLine) : CallR X (.builtin "sorted") (rSrtZ K) := by subst hK; exact (cr_srtS hc).or (cr_srtA hu)
end
section
variable {Z : Zt} {w : Own} {P : D → Own → Prop} {ds : List D}
theorem rc_srtL {xs : List D} (h : RC Z (rSrtS Z.K) xs w P) : RC Z (rSrtZ Z.K) xs w P := fun B H vs k er r Q q => .inl (h B H vs k er r Q q)
/-- sorted(l), l ascending: a new list, known -/
theorem rc_srtA (hp : isPys ds = true) (h2 : 2 ≤ (pys ds).length → PySem.W.AllAlike (pys ds) ∧ PySem.W.Sortable (pys ds)) (hs : (pys ds).Pairwise fun d e => PySem.W.dataLt e d = false) (hd : ∀ d ∈ pys ds, d.depth ≤ 60) (p : P (.lst ds) w) : RC Z (rSrtZ Z.K) [.lst ds] w P := fun B H vs k er r Q q => by
  cases r with
  | cons r rr =>
    cases rr
    cases r with
    | @lst a us _ hq rs =>
      exact .inr ⟨a, us, pys ds, rfl, .inl (.inl (k.l _ _ hq)), rs.dp k.l hp, h2, hs, hd, fun x hx => q (.ref x) (.lst ds) w _ _ p (To.newB k hx) (.lst upd_same (rs.mono (Same.upd_new (k.fresh hx))))⟩
end
end DL
end
section
namespace DL
open PySem L2
open PySem.Spec PyProof.Rows
theorem pe_callHS {X : Cx} {CX : CXT} {k : Nat} {x : Str} {ps : List Str} {S : Sp} {E : L2.St → XK} {p pos : Pos} {e : Expr} {es : List Expr} {t : TA} (h : Has X.prog X.w X.K X.mg X.base CX x ps k S) (hr : Room k X.A) (hg : Gl X x) (hx : ∀ siGr, PassesAt CX X siGr (E siGr)) (ha : PA X (e :: es) t) (hdb : (x == ("__debug__" : Str)) = false := by decide)
    (he : starEach (e :: es) X.env = (false, eval e X.env) :: starEach es X.env := by rfl) (hpl : (backTo pos (starEach es X.env)).any (·.1) = false := by rfl) : PE X (.Call (.Name x p) (e :: es) [] pos) (tCallS S E t) := by
  obtain ⟨f, fd, h1, h2, h3, G⟩ := h
  exact pe_callS G hr hg h1 h2 h3 hx ha hdb he hpl
/-- name = (text, call), the call's exception caught by a clause that writes the slots -/
theorem ws_tryCall {Z : Zt} {S : DSpec} {c : Value} {ta : TA} {a : Str} {i : Nat} {ts : Addr → Value → Option Addr → TS} {Wout : WX} {rhGr : Sl} {w : Own} {PO : Out → Prop} (hb : PySem.W.exmOne Z.K (.ref Z.T) c = some true)
    (h : WA Z ta rhGr w fun ds w1 => CS S ds w1 (fun d w2 => PO (.nx (rhGr.set i (some (.tup [.str a, d]))) w2)) fun w2 => ∀ b cls d, WS Z (ts b cls d) rhGr w2 PO) :
    WS Z (fun D siGr H => (tAsg (tTup (tCons (tC (.str a)) (tCons (tCallS (spOf Z.K Z.T S) (L2.WE (wOnly Z.K c ts Wout D)) ta) tNil))) (gName i)) D siGr H) rhGr w PO := by
  intro siGr B H k e er D q
  refine h siGr B H k e er _ fun vs ds w1 B1 H1 ⟨mine, rest, hw, p1⟩ t1 r1 => ?_
  subst hw
  refine ⟨B1, ds, mine, _, _, t1.ok.left, r1, p1, fun v d w' B' H' p t r => ?_, fun w' B' H' x t => ?_⟩
  · have T1 := t1.trans (To.frame t1.ok t)
    refine ⟨by show 2 ≤ sizeLine; rw [sizeLine_eq]; omega, fun p0 hp0 => ?_⟩
    have t2 := To.newB (o := .tup [.str a, v]) T1.ok hp0
    exact q _ p _ _ _ (T1.trans t2) ((e.mono (T1.trans t2).go.b).set (.tup (.inl (.inl upd_same)) (.cons (.str a) (.cons (r.mono t2.go.b) .nil))) i)
  · have T1 := t1.trans (To.frame t1.ok t)
    refine ⟨true, hb, fun _ b hn => ?_, fun z => by cases z⟩
    exact x b _ _ siGr B' H' T1.ok (e.mono T1.go.b) (er.on T1) D fun o po => (q o po).on T1
end DL
end
section
namespace DL
open PySem
open PySem.Spec PyProof.Rows
section
variable {prog : Program} {w : World} {A : Around} {E : Value → Shared → Prop} {s : Shared}
/-- one tuple against another, by their class's own __lt__ -/
theorem oneLt_tups {da db : PyData} {a b : Value} {as bs : List Addr} {Q : Bool → Shared → Prop} (hta : ∃ xs, da = .tuple xs) (ra : Reads s.heap a da as) (rb : Reads s.heap b db bs) (h : PySem.W.alike da db = true)
    (hu : A.units + min da.depth db.depth < cLine) (hq : Q (PySem.W.dataLt da db) s) : wpAny (model prog w) A (oneLt' true a b) Q E s := by
  obtain ⟨xs, rfl⟩ := hta
  cases db with
  | tuple ys =>
    have hal : PySem.W.alikeAll xs ys = true := by simpa [PySem.W.alike] using h
    cases ra with
    | @tuple l o vs n _ as₁ h1 h2 h3 h4 =>
      cases rb with
      | @tuple l' o' vs' n' _ bs₁ k1 k2 k3 k4 =>
        have n1 : vs.size = xs.length := by simpa using SeqAt.ReadsAll.length _ _ _ h4
        have n2 : vs'.size = ys.length := by simpa using SeqAt.ReadsAll.length _ _ _ k4
        rw [PySem.W.dataLt_tuple, ← PySem.W.firstLt_toks xs ys hal, ← n1, ← n2] at hq
        rw [oneLt'_eq]
        simp only [if_true]
        refine wpAny_bind (wpAny_cRoomFor (SeqAt.room_here hu) ?_)
        refine wpAny_bind (wpAny_callSpecialIfBound?_slot (T := "tuple") ⟨_, h1, h2⟩ F.slot_tuple_lt ?_)
        obtain ⟨cls, dd, data, sl⟩ := o
        obtain ⟨cls2, dd2, data2, sl2⟩ := o'
        simp only at h2 h3 k2 k3
        subst h2 h3 k2 k3
        refine call_meets F.slot_tuple_lt ⟨_, h1, rfl⟩ F.entry_tuple_lt (F.args_tuple_lt_2 _ _) (SeqAt.tuple_ltAt l l' vs vs' n n' dd dd2 sl sl2 (SeqAt.pairEq xs ys) (fun j => PySem.W.dataLt (xs.getD j .none) (ys.getD j .none))) ⟨h1, k1, fun j j1 j2 => ?_, fun j j1 j2 hj => ?_, ?_⟩
        · have := PySem.W.eqAt_alikeAll xs ys A.in1 s vs.toList vs'.toList _ _ h4 k4 hal (SeqAt.room_in hu) j (by simpa using j1) (by simpa using j2)
          simpa using this
        · have := PySem.W.rcLt_alikeAll xs ys A.in1 s vs.toList vs'.toList _ _ h4 k4 hal (SeqAt.room_in hu) j (by simpa using j1) (by simpa using j2) hj
          simpa using this
        · exact wpAny_truthy_bool hq
  | _ => exact absurd h (by simp [PySem.W.alike])
def neD : PyData → Bool
  | .tuple (_ :: _) => true
  | _ => false
theorem firsts_opt {M : Model} {A : Around} {E : Value → Shared → Prop} : ∀ {vs : List Value} {ds : List PyData}, PySem.W.EachIs (fun (v : Value) (d : PyData) => ∃ as, Reads s.heap v d as) vs ds → (∀ d ∈ ds, ∃ xs, d = .tuple xs) →
    ∃ fs : List (Option Value), fs.map Option.isSome = ds.map neD ∧ ∀ {Q : List (Option Value) → Shared → Prop}, Q fs s → wpAny M A (vs.mapM firstOfTuple') Q E s
  | _, _, .nil, _ => ⟨[], rfl, fun h => by rw [List.mapM_nil]; exact wpAny_pure h⟩
  | v :: vs, d :: ds, .cons ⟨as, r⟩ t, ht => by
    obtain ⟨fs, h1, h2⟩ := firsts_opt (M := M) (A := A) (E := E) t fun d hd => ht d (List.mem_cons_of_mem _ hd)
    obtain ⟨xs, rfl⟩ := ht d (by simp)
    cases r with
    | @tuple a o its n _ as₁ g1 g2 g3 g4 =>
      have n1 : its.size = xs.length := by simpa using SeqAt.ReadsAll.length _ _ _ g4
      refine ⟨its[0]? :: fs, ?_, fun {Q} hq => ?_⟩
      · rw [List.map_cons, List.map_cons, h1]
        congr 1
        cases xs with
        | nil =>
          have : its[0]? = none := Array.getElem?_eq_none (by rw [n1]; exact Nat.le_refl 0)
          rw [this]; rfl
        | cons x xs =>
          have h0 : 0 < its.size := by rw [n1]; simp
          rw [Array.getElem?_eq_getElem h0]; rfl
      · rw [List.mapM_cons]
        refine wpAny_bind ?_
        rw [PySem.W.kas_first_eq]
        refine wpAny_bind (PySem.W.Looks.here (show PySem.W.Looks M s.heap (typeOf (.ref a)) o.cls from (PySem.W.Looks.ld g1).andThen .now) ?_)
        rw [g2, if_neg (by first | decide | simp)]
        refine wpAny_bind (listItems_at g1 g3 (wpAny_pure ?_))
        exact wpAny_bind (h2 (Q := fun bs s' => wpAny M A (pure (its[0]? :: bs)) Q E s') (wpAny_pure hq))
/-- less, by what is read -/
noncomputable def ltK (h : Heap) (ds : List PyData) (u v : Value) : Bool := PyProof.Rows.lexLt PyProof.Rows.itemOrd (((PySem.W.dataKind h ds).keyOf u).getD ([] : List (Int ⊕ List Nat))) (((PySem.W.dataKind h ds).keyOf v).getD ([] : List (Int ⊕ List Nat)))
theorem ltK_eq {h : Heap} {ds : List PyData} (hal : PySem.W.AllAlike ds) {u v : Value} {d e : PyData} {as bs : List Addr} (hd : d ∈ ds) (he : e ∈ ds) (r : Reads h u d as) (q : Reads h v e bs) : ltK h ds u v = PySem.W.dataLt d e := by
  unfold ltK
  rw [PySem.W.dataKind_some hal hd r, PySem.W.dataKind_some hal he q]; rfl
theorem ltK_swo (h : Heap) (ds : List PyData) : SrtO.Swo (ltK h ds) := by
  refine ⟨fun x y hxy => ?_, fun x y z h1 h2 => ?_⟩
  · cases e : ltK h ds y x with
    | false => rfl
    | true =>
      have := PyProof.Rows.lex_trans (O := PyProof.Rows.itemOrd) _ _ _ hxy e
      exact absurd (this.symm.trans (PyProof.Rows.lex_irrefl (O := PyProof.Rows.itemOrd) _)) (by decide)
  · cases e : ltK h ds z x with
    | false => rfl
    | true =>
      rcases PyProof.Rows.lex_negTrans (O := PyProof.Rows.itemOrd) _ (((PySem.W.dataKind h ds).keyOf y).getD ([] : List (Int ⊕ List Nat))) _ e with h3 | h3
      · exact absurd (show ltK h ds z y = true from h3) (by rw [h2]; exact Bool.false_ne_true)
      · exact absurd (show ltK h ds y x = true from h3) (by rw [h1]; exact Bool.false_ne_true)
theorem tups_sortO {h0 : Heap} {a : Addr} {vs : List Value} {ds : List PyData} (k0 : ∀ b o, h0.get? b = some o → b ≠ a ∧ s.heap.get? b = some o) (e : PySem.W.EachIs (fun (v : Value) (d : PyData) => ∃ as, Reads h0 v d as) vs ds) (hal : PySem.W.AllAlike ds)
    (ht : ∀ d ∈ ds, ∃ xs, d = .tuple xs) (hu : ∀ d ∈ ds, A.units + d.depth < cLine) (h2 : 2 ≤ vs.length) : SrtO.SortableO prog w A s a vs (ltK h0 ds) := by
  intro h' keep
  have kk : ∀ b o, h0.get? b = some o → h'.get? b = some o := fun b o hb => keep b o (k0 b o hb).1 (k0 b o hb).2
  have er : PySem.W.EachIs (fun (v : Value) (d : PyData) => ∃ as, Reads h' v d as) vs ds := e.mono fun _ _ ⟨as, r⟩ => ⟨as, PyProof.Rows.Reads.keeps kk r⟩
  have both : ∀ v ∈ vs, ∃ d ∈ ds, (∃ as, Reads h0 v d as) := fun v hv => e.left v hv
  have room : ∀ {d d' : PyData}, d ∈ ds → A.units + min d.depth d'.depth < cLine := fun {d d'} hd => Nat.lt_of_le_of_lt (Nat.add_le_add_left (Nat.min_le_left _ _) _) (hu d hd)
  by_cases hne : ∀ d ∈ ds, ∃ x r, d = .tuple (x :: r)
  · obtain ⟨_, kd, hlt, hkind⟩ := PySem.W.SortsAt.data (prog := prog) (w := w) (A := A) (s := { s with heap := h' }) er hal (.inl hne) hu
    refine ⟨kd, fun Q E hq => hkind h2 E hq, fun p q hp hq => ?_⟩
    obtain ⟨d, hd, as, r⟩ := both _ hp
    obtain ⟨d', hd', bs, r'⟩ := both _ hq
    refine hlt _ _ _ _ _ (PySem.W.dataKind_some hal hd (PyProof.Rows.Reads.keeps kk r)) (PySem.W.dataKind_some hal hd' (PyProof.Rows.Reads.keeps kk r')) ⟨rfl, ?_⟩
    show _ = ltK h0 ds p.1 q.1
    rw [ltK_eq hal hd hd' r r']; rfl
  · obtain ⟨fs, f1, f2⟩ := firsts_opt (s := { s with heap := h' }) (M := model prog w) (A := A) (E := fun _ _ => True) er ht
    have notall : (fs.toArray.all fun x => x.isSome) = false := by
      rw [Bool.eq_false_iff]
      intro hall
      apply hne
      intro d hd
      have hall' : ∀ x ∈ fs.map Option.isSome, x = true := by
        intro x hx
        obtain ⟨o, ho, rfl⟩ := List.mem_map.mp hx
        have := Array.all_eq_true_iff_forall_mem.mp hall o (by simpa using ho)
        exact this
      rw [f1] at hall'
      have := hall' _ (List.mem_map_of_mem (f := neD) hd)
      obtain ⟨xs, rfl⟩ := ht d hd
      cases xs with
      | nil => cases this
      | cons x r => exact ⟨x, r, rfl⟩
    have start : ∀ (E : Value → Shared → Prop) (Q : SortKind → Shared → Prop), wpAny (model prog w) A (do
        if (fs.toArray[0]?.bind id).isSome then return general'
        return if (← oneTypeOnly' vs.toArray).isSome then oneType' else general') Q E { s with heap := h' } → wpAny (model prog w) A (keyKind' vs.toArray) Q E { s with heap := h' } := fun E Q hq => by
      obtain ⟨fs', g1, g2⟩ := firsts_opt (s := { s with heap := h' }) (M := model prog w) (A := A) (E := E) er ht
      have hfs : True := trivial
      rw [kat_kind_eq, List.mapM_toArray, map_eq_pure_bind]
      have notall' : (fs'.toArray.all fun x => x.isSome) = false := by
        rw [← notall]
        have : ∀ (l m : List (Option Value)), l.map Option.isSome = m.map Option.isSome → (l.toArray.all fun x => x.isSome) = (m.toArray.all fun x => x.isSome) := by
          intro l m hlm
          have : ∀ (l : List (Option Value)), (l.toArray.all fun x => x.isSome) = (l.map Option.isSome).all id := by intro l; simp [List.all_map, Function.comp_def]
          rw [this, this, hlm]
        exact this _ _ (g1.trans f1.symm)
      have heads : (fs'.toArray[0]?.bind id).isSome = (fs.toArray[0]?.bind id).isSome := by
        have : ∀ (l : List (Option Value)), (l.toArray[0]?.bind id).isSome = ((l.map Option.isSome)[0]?).getD false := by
          intro l
          cases l with
          | nil => rfl
          | cons o l => cases o <;> simp
        rw [this, this, g1, f1]
      refine wpAny_bind (wpAny_bind (g2 (wpAny_pure ?_)))
      rw [if_neg (by rw [notall']; exact Bool.false_ne_true), heads]
      exact hq
    have cmp : ∀ (f : Bool) (kaGr : SortKind), (∀ x y, keyLt' kaGr x y = oneLt' f x y) → SrtO.Cmp prog w A { s with heap := h' } kaGr (fun p => p.1 ∈ vs) (SrtO.lt2 (ltK h0 ds)) := fun f kaGr hkaGr p q hp hq => by
      obtain ⟨d, hd, as, r⟩ := both _ hp
      obtain ⟨d', hd', bs, r'⟩ := both _ hq
      have hal2 := hal d hd d' hd'
      have fin : (fun (r : Bool) (s' : Shared) => s' = { s with heap := h' } ∧ r = SrtO.lt2 (ltK h0 ds) p q) (PySem.W.dataLt d d') { s with heap := h' } := ⟨rfl, (ltK_eq hal hd hd' r r').symm⟩
      rw [hkaGr]
      cases f with
      | false => exact PySem.W.oneLt_alike (f := false) (fun z => by cases z) (PyProof.Rows.Reads.keeps kk r) (PyProof.Rows.Reads.keeps kk r') hal2 (by obtain ⟨xs, rfl⟩ := ht d hd; exact fun z => by cases z) (room hd) fin
      | true => exact oneLt_tups (ht d hd) (PyProof.Rows.Reads.keeps kk r) (PyProof.Rows.Reads.keeps kk r') hal2 (room hd) fin
    cases hh : (fs.toArray[0]?.bind id).isSome with
    | true =>
      refine ⟨general', fun Q E hq => start E Q ?_, cmp false general' fun _ _ => rfl⟩
      rw [if_pos hh]
      exact wpAny_pure hq
    | false =>
      refine ⟨oneType', fun Q E hq => start E Q ?_, cmp true oneType' fun _ _ => rfl⟩
      rw [if_neg (by rw [hh]; exact Bool.false_ne_true)]
      obtain ⟨v₁, rest, rfl⟩ : ∃ v₁ rest, vs = v₁ :: rest := by
        match vs, h2 with
        | v₁ :: rest, _ => exact ⟨v₁, rest, rfl⟩
      rw [oneTypeOnly'_eq, List.mapM_toArray, map_eq_pure_bind]
      have looks : ∀ v ∈ v₁ :: rest, PySem.W.Looks (model prog w) h' (typeOf v) (.type "tuple") := fun v hv => by
        obtain ⟨d, hd, as, r⟩ := er.left v hv
        obtain ⟨xs, rfl⟩ := ht d hd
        exact PySem.W.looks_reads r
      refine wpAny_bind (wpAny_bind (wpAny_bind (PySem.W.kas_mapM (r := Value.type "tuple") _ (fun v hv Q' hq' => (looks v hv).here hq') (wpAny_pure ?_))))
      have hall : ((List.map (fun _ => Value.type "tuple") (v₁ :: rest)).toArray.all fun x => x == Value.type "tuple") = true := by
        simp only [List.all_toArray, List.all_map, List.all_eq_true]
        intro _ _
        rfl
      have h0' : (List.map (fun _ => Value.type "tuple") (v₁ :: rest)).toArray[0]? = some (Value.type "tuple") := by simp
      rw [h0']
      simp only [hall, if_true]
      exact wpAny_pure (wpAny_pure hq)
end
end DL
end
section
namespace DL
open PySem L2
open PySem.Spec PyProof.Rows
theorem we_lcI {Z : Zt} {rhGr : Sl} {w : Own} {P : D → Own → Prop} {j : Nat} {wi : TI} {tt : TT} {te : TE} (h : WI Z wi rhGr w fun ds C w1 => ∃ I : Nat → List D → Own → Prop, I 0 [] w1 ∧ ds.length ≤ 1000000 ∧ (∀ i acc w' x, I i acc w' → C (w' ++ [x])) ∧ (∀ i acc w', I i acc w' → acc.length ≤ i) ∧
    (∀ (i : Nat) acc w' x, ds[i]? = some x → I i acc w' → WT Z tt (rhGr.set j (some x)) w' fun b w2 => (b = true → WE Z te (rhGr.set j (some x)) w2 fun d w3 => I (i + 1) (acc ++ [d]) w3) ∧ (b = false → I (i + 1) acc w2)) ∧
    ∀ acc w', I ds.length acc w' → ∀ p, P (.adr p) (w' ++ [(p, .lst acc)])) : WE Z (tLc wi (gName j) tt te [j]) rhGr w P := by
  intro siGr B H k e er Q q
  refine h siGr B H k e er _ fun J ds C w1 B1 H1 ⟨I, i0, hz, hC, hA, hE, hP⟩ t1 wk => ?_
  intro Dl hD
  have t0 := To.newO (d := .lst []) t1.ok hD (.lst .nil)
  refine ⟨fun i m H' => m = ds.length - i ∧ i ≤ ds.length ∧ ∃ B' acc w', I i acc w' ∧ To Z.K w1 B1 H1 (w' ++ [(Dl, .lst acc)]) B' H', ⟨ds.length, by simp, Nat.zero_le _, B1, [], w1, i0, t0⟩, ?_⟩
  rintro i m H' ⟨rfl, hi, B', acc, w', hI, t⟩
  obtain ⟨k1, k2⟩ := wk i _ B' H' t (hC _ _ _ _ hI)
  have hw : wipe siGr [j] = siGr.set j none := rfl
  by_cases hlt : i < ds.length
  · obtain ⟨d, hd⟩ : ∃ d, ds[i]? = some d := ⟨ds[i], by simp [hlt]⟩
    obtain ⟨g1, g2⟩ := k1 d hd
    refine .inr ⟨g1, fun H2 => ∃ B2 acc2 w2, I (i + 1) acc2 w2 ∧ To Z.K w1 B1 H1 (w2 ++ [(Dl, .lst acc2)]) B2 H2, fun H2 ⟨B2, acc2, w2, a, b⟩ => ⟨ds.length - (i + 1), by omega, rfl, hlt, B2, acc2, w2, a, b⟩, fun x H2 y => ?_⟩
    obtain ⟨B2, t2, r2⟩ := g2 x H2 y
    have T := t.trans t2
    rw [hw]
    refine ⟨by show ((siGr.set j none).set j (some x)).set j none = siGr.set j none; rw [List.set_set, List.set_set], ?_⟩
    have e2 : EnvR Z.K B2 ((siGr.set j none).set j (some x)) (rhGr.set j (some d)) := by
      have := ((e.mono (t1.trans T).go.b).unset j).set r2 j
      have erhGr : (rhGr.set j none).set j (some d) = rhGr.set j (some d) := List.set_set ..
      rw [erhGr] at this
      exact this
    refine hE i acc w' d hd hI _ B2 H2 T.drop.ok e2 (er.on (t1.trans T.drop)) _ fun b w3 B3 H3 ⟨p1, p2⟩ t3 => ?_
    have T3 := T.trans (To.frame T.ok t3)
    cases b with
    | false =>
      rw [if_neg Bool.false_ne_true]
      exact ⟨B3, acc, w3, p2 rfl, T3⟩
    | true =>
      rw [if_pos rfl]
      refine p1 rfl _ B3 H3 t3.ok (e2.mono t3.go.b) (er.on (t1.trans T3.drop)) _ fun y d' w4 B4 H4 hI4 t4 r4 => ?_
      have T4 := T3.trans (To.frame T3.ok t4)
      have il : (w4 ++ [(Dl, D.lst acc)])[w4.length]? = some (Dl, D.lst acc) := by simp
      obtain ⟨o, ho, hh⟩ := (T4.ok.own _ (List.mem_of_getElem? il)).ob
      cases hh with
      | lst rr =>
        refine ⟨_, ho, ?_, ?_⟩
        · have := hA _ _ _ hI
          rw [rr.length, sizeLine_eq]; omega
        · have t5 := To.mut T4.ok il (d' := .lst (acc ++ [d'])) (.lst (rr.append (.cons r4 .nil)))
          have e4 : (w4 ++ [(Dl, D.lst acc)]).set w4.length (Dl, D.lst (acc ++ [d'])) = w4 ++ [(Dl, D.lst (acc ++ [d']))] := by
            rw [List.set_append_right _ _ (Nat.le_refl _)]; simp
          rw [e4] at t5
          exact ⟨B4, acc ++ [d'], w4, hI4, T4.trans t5⟩
  · obtain rfl : i = ds.length := by omega
    exact .inl ⟨k2 rfl, q _ _ _ _ _ (hP acc w' hI Dl) (t1.trans t) (.adr Dl)⟩
end DL
end
section
namespace DL
open PySem L2
open PySem.Spec PyProof.Rows
section
open PySem.SeqAt
open PySem.AutoSeq1 (wpAny_loadPart')
variable {prog : Program} {w : World}
/-- one != other of two tuples whose items are equal -/
theorem tupNe_alike (one other : Addr) (xs ys : Array Value) (n1 n2 : Nat) (d1 d2 : Option Addr) (s1 s2 : Array (Option Value)) (hsz : xs.size = ys.size) :
    MeetsIn prog w (Builtin.«tuple.__ne__» ⟨[.ref one, .ref other], []⟩) (fun A R s =>
      s.heap.get? one = some { cls := .type "tuple", dict := d1, data := .seq xs n1, slots := s1 } ∧
      s.heap.get? other = some { cls := .type "tuple", dict := d2, data := .seq ys n2, slots := s2 } ∧
      (∀ p ∈ xs.toList.zip ys.toList, EqIn prog w A.in1 s p.1 p.2 true) ∧ R (.ok (.ret (.bool false))) s) :=
  .of_wp fun A R s h => by
    obtain ⟨hp, g, d, tk, os⟩ := s
    obtain ⟨h1, h2, he, hR⟩ := h
    have sub := AutoSeq1.sub_tuple_tuple
    wp_walk using wpAny_loadPart' h1, wpAny_loadPart' h2, wpAny_forIn_list _ (fun rest b s' => b.1 = none ∧ s' = ⟨hp, g, d, tk, os⟩ ∧ ∀ p ∈ rest, EqIn prog w A.in1 ⟨hp, g, d, tk, os⟩ p.1 p.2 true) _
    case turn =>
      rintro ⟨y, x⟩ rest b s' ⟨hb, rfl, hr⟩
      refine wpAny_bind (hr (y, x) (by simp) _ _ ?_)
      wp_walk
      exact ⟨rfl, rfl, fun p hp' => hr p (List.mem_cons_of_mem _ hp')⟩
    case fin =>
      rintro ⟨b1, b2⟩ s' ⟨hb, rfl, _⟩
      simp only at hb
      subst hb
      wp_walk
      exact ⟨_, rfl, by simpa [Builtin.Tuple.tupleCompareSizes, hsz] using hR⟩
    case h =>
      exact ⟨rfl, rfl, he⟩
theorem rcNe_alike {A : Around} {E Q : Value → Shared → Prop} {s : Shared} {one other : Addr} {xs ys : Array Value} (h1 : s.heap.IsTuple one xs) (h2 : s.heap.IsTuple other ys) (hsz : xs.size = ys.size) (hu : A.units < cLine)
    (he : ∀ p ∈ xs.toList.zip ys.toList, EqIn prog w A.in1 s p.1 p.2 true) (hQ : Q (.bool false) s) : wpAny (model prog w) A (richCompare .NotEq (.ref one) (.ref other)) Q E s := by
  obtain ⟨⟨c1, d1, t1, l1⟩, g1, rfl, n1, rfl⟩ := h1
  obtain ⟨⟨c2, d2, t2, l2⟩, g2, rfl, n2, rfl⟩ := h2
  exact wpAny_richCompare_same_room (T := "tuple") (op := .NotEq) ⟨_, g1, rfl⟩ ⟨_, g2, rfl⟩ F.slot_tuple_ne
    (call_meetsIn F.slot_tuple_ne ⟨_, g1, rfl⟩ F.entry_tuple_ne (F.args_tuple_ne_2 _ _) (tupNe_alike one other xs ys n1 n2 d1 d2 l1 l2 hsz) ⟨g1, g2, he, (fun z => nomatch z), hQ⟩) hu
end
/-- equal: flat things, or tuples of equal things -/
def EqOne (K : PySem.W.Frag) (H : Hp) (x y : V) : Prop := (x = y ∧ flatB x = true) ∨ ∃ a b xs ys, x = .ref a ∧ y = .ref b ∧ SqT K H a xs ∧ SqT K H b ys ∧ Paired (EqV K H 3) xs ys
section
variable {X : Cx} {pins : List (Addr × Obj)} {siGr : L2.St} {H : Hp} {s : Shared}
theorem paired_len {F : V → V → Prop} : ∀ {xs ys : List V}, Paired F xs ys → xs.length = ys.length
  | _, _, .nil => rfl
  | _, _, .cons _ t => congrArg (· + 1) (paired_len t)
theorem eqTup_run (I : Inv X pins siGr H s) {A : Around} {F : V → V → Prop} (hu : A.units < cLine) (ih : ∀ x y v u, F x y → RelV x v → RelV y u → SeqAt.EqP X.prog X.w A.in1 s v u true) {a b : Addr} {xs ys : List V} (ha : SqT X.K H a xs) (hb : SqT X.K H b ys) (hp : Paired F xs ys) :
    (∀ (E Q : Value → Shared → Prop), Q (.bool true) s → wpAny (model X.prog X.w) A (richCompare .Eq (.ref a) (.ref b)) Q E s) ∧ ∀ (E Q : Value → Shared → Prop), Q (.bool false) s → wpAny (model X.prog X.w) A (richCompare .NotEq (.ref a) (.ref b)) Q E s := by
  obtain ⟨us, r1, p1, _⟩ := I.tuple ha
  obtain ⟨ws, r2, p2, _⟩ := I.tuple hb
  have hl := paired_len hp
  have hsz : us.toArray.size = ws.toArray.size := by
    rw [List.size_toArray, List.size_toArray, ← r1.length, ← r2.length, hl]
  have hlen : us.length = ws.length := by simpa using hsz
  refine ⟨fun E Q q => SeqAt.rcIn_tuples (e := fun _ => true) p1 p2 hu (fun j h1 h2 => ?_) ?_, fun E Q q => rcNe_alike p1 p2 hsz hu (fun p hm => ?_) q⟩
  · have k := items_run ih hp r1 r2 j (by simpa using h1) (by simpa using h2)
    show SeqAt.EqP X.prog X.w A.in1 s _ _ true
    simpa using k
  · rw [show ((List.range (min us.toArray.size ws.toArray.size)).all fun _ => true) = true from List.all_eq_true.mpr fun _ _ => rfl, hsz]
    simpa using q
  · obtain ⟨j, hj⟩ := List.getElem?_of_mem hm
    rw [List.getElem?_zip_eq_some] at hj
    obtain ⟨h1, h2⟩ := hj
    have g1 := (List.getElem?_eq_some_iff.mp h1).1
    have g2 := (List.getElem?_eq_some_iff.mp h2).1
    have e1 : us[j]'(by simpa using g1) = p.1 := by
      have := (List.getElem?_eq_some_iff.mp h1).2
      simpa using this
    have e2 : ws[j]'(by simpa using g2) = p.2 := by
      have := (List.getElem?_eq_some_iff.mp h2).2
      simpa using this
    have k := items_run ih hp r1 r2 j (by simpa using g1) (by simpa using g2)
    rw [e1, e2] at k
    exact k
theorem eqOne_run (I : Inv X pins siGr H s) {A : Around} (hu : A.units + 8 < cLine) {x y : V} {v u : Value} (h : EqOne X.K H x y) (rx : RelV x v) (ry : RelV y u) : SeqAt.EqP X.prog X.w A s v u true := by
  rcases h with ⟨rfl, f⟩ | ⟨a, b, xs, ys, rfl, rfl, ha, hb, hp⟩
  · exact (eqAt_same rx ry f).eqP
  · cases (show v = Value.ref a from rx)
    cases (show u = Value.ref b from ry)
    by_cases e : a = b
    · subst e
      exact (SeqAt.EqAt.same _).eqP
    · exact SeqAt.eqP_refs e (eqTup_run I (by omega) (fun x y v u h1 h2 h3 => eqV_run I 3 A.in1 (by show A.units + 1 + 3 < cLine; omega) x y v u h1 h2 h3) ha hb hp).1
end
section
variable {X : Cx}
def rEqT (K : PySem.W.Frag) (c : Bool) : R2 := fun x y H Q => ∃ a b xs ys, x = .ref a ∧ y = .ref b ∧ SqT K H a xs ∧ SqT K H b ys ∧ Paired (EqOne K H) xs ys ∧ Q (.bl c) H
theorem op_eqT (hu : X.A.units + 64 < cLine) : OpR X (compareOp .Eq) (rEqT X.K true) := by
  intro pins s siGr H x y v u Q I rx ry h
  obtain ⟨a, b, xs, ys, rfl, rfl, ha, hb, hp, q⟩ := h
  cases (show v = Value.ref a from rx)
  cases (show u = Value.ref b from ry)
  exact (eqTup_run I (A := X.A) (by omega) (fun x y v u h1 h2 h3 => eqOne_run I (by show X.A.units + 1 + 8 < cLine; omega) h1 h2 h3) ha hb hp).1 _ _ ⟨.bl true, H, I, rfl, q⟩
theorem op_neT (hu : X.A.units + 64 < cLine) : OpR X (compareOp .NotEq) (rEqT X.K false) := by
  intro pins s siGr H x y v u Q I rx ry h
  obtain ⟨a, b, xs, ys, rfl, rfl, ha, hb, hp, q⟩ := h
  cases (show v = Value.ref a from rx)
  cases (show u = Value.ref b from ry)
  exact (eqTup_run I (A := X.A) (by omega) (fun x y v u h1 h2 h3 => eqOne_run I (by show X.A.units + 1 + 8 < cLine; omega) h1 h2 h3) ha hb hp).2 _ _ ⟨.bl false, H, I, rfl, q⟩
def rEqZ (K : PySem.W.Frag) : R2 := fun x y H Q => rEqX K x y H Q ∨ rEqT K true x y H Q
def rNeZ (K : PySem.W.Frag) : R2 := fun x y H Q => rNeX K x y H Q ∨ rEqT K false x y H Q
theorem k_eqZ {K : PySem.W.Frag} (hK : X.K = K) (hu : X.A.units + 64 < cLine) : OpR X (compareOp .Eq) (rEqZ K) := by subst hK; exact (op_eqX hu).or (op_eqT hu)
theorem k_neZ {K : PySem.W.Frag} (hK : X.K = K) (hu : X.A.units + 64 < cLine) : OpR X (compareOp .NotEq) (rNeZ K) := by subst hK; exact (op_neX hu).or (op_neT hu)
end
section
variable {Z : Zt} {w : Own} {P : D → Own → Prop}
theorem rd_eqL {x y : D} (h : RD Z (rEqX Z.K) x y w P) : RD Z (rEqZ Z.K) x y w P := fun B H vx vy k er rx ry Q q => .inl (h B H vx vy k er rx ry Q q)
theorem rd_neL {x y : D} (h : RD Z (rNeX Z.K) x y w P) : RD Z (rNeZ Z.K) x y w P := fun B H vx vy k er rx ry Q q => .inl (h B H vx vy k er rx ry Q q)
theorem paired_ints {K : PySem.W.Frag} {H : Hp} : ∀ ns : List Int, Paired (EqV K H 2) (ns.map V.int) (ns.map V.int)
  | [] => .nil
  | n :: ns => .cons (.inl ⟨rfl, rfl⟩) (paired_ints ns)
/-- two told pairs of dict and list, alike -/
theorem told_raw {a : Str} {d1 d2 l1 l2 : Addr} {k1 k2 : List (Str × D)} {xs : List Int} {c : Bool} (n1 n2 n3 n4 : Nat) (h1 : w[n1]? = some (d1, .dct k1)) (h2 : w[n2]? = some (l1, .lst (xs.map D.int))) (h3 : w[n3]? = some (d2, .dct k2)) (h4 : w[n4]? = some (l2, .lst (xs.map D.int)))
    (hl : k1.length = k2.length) (hk : ∀ p ∈ k1, ∃ i, p.2 = .int i ∧ lk k2 p.1 = some (.int i)) (p : P (.bl c) w) : RD Z (rEqT Z.K c) (.tup [.str a, .tup [.adr d1, .adr l1]]) (.tup [.str a, .tup [.adr d2, .adr l2]]) w P := fun B H vx vy k er rx ry Q q => by
  obtain ⟨o1, g1, q1⟩ := (k.own _ (List.mem_of_getElem? h1)).ob
  obtain ⟨o2, g2, q2⟩ := (k.own _ (List.mem_of_getElem? h2)).ob
  obtain ⟨o3, g3, q3⟩ := (k.own _ (List.mem_of_getElem? h3)).ob
  obtain ⟨o4, g4, q4⟩ := (k.own _ (List.mem_of_getElem? h4)).ob
  cases q1 with
  | @dct ws1 _ r1 =>
  cases q2 with
  | lst r2 =>
  cases q3 with
  | @dct ws3 _ r3 =>
  cases q4 with
  | lst r4 =>
  have e2 := r2.ints
  have e4 := r4.ints
  subst e2 e4
  cases rx with
  | tup hx rx =>
  cases rx with
  | cons rx1 rx2 =>
  cases rx2 with
  | cons rx3 rx4 =>
  cases rx4
  cases rx1
  cases rx3 with
  | tup hx2 rx5 =>
  cases rx5 with
  | cons ra rb =>
  cases rb with
  | cons rb rc =>
  cases rc
  cases ra
  cases rb
  cases ry with
  | tup hy ry =>
  cases ry with
  | cons ry1 ry2 =>
  cases ry2 with
  | cons ry3 ry4 =>
  cases ry4
  cases ry1
  cases ry3 with
  | tup hy2 ry5 =>
  cases ry5 with
  | cons sa sb =>
  cases sb with
  | cons sb sc =>
  cases sc
  cases sa
  cases sb
  refine ⟨_, _, _, _, rfl, rfl, sqT_mono k.l hx, sqT_mono k.l hy, .cons (.inl ⟨rfl, rfl⟩) (.cons (.inr ⟨_, _, _, _, rfl, rfl, sqT_mono k.l hx2, sqT_mono k.l hy2, ?_⟩) .nil), q _ _ w B H p (.refl k) (.bl c)⟩
  refine .cons (.inr (.inr (.inr ⟨d1, d2, ws1, ws3, rfl, rfl, g1, g3, by rw [r1.length, r3.length]; exact hl, ?_⟩))) (.cons (.inr (.inr (.inl ⟨l1, l2, _, _, rfl, rfl, .inl (.inl g2), .inl (.inl g4), paired_ints xs⟩))) .nil)
  intro z hz
  have key : ∀ {ws : List (Key × V)} {kvs : List (Str × D)}, RepK Z.K B ws kvs → (∀ p ∈ kvs, ∃ i, p.2 = .int i ∧ lk k2 p.1 = some (.int i)) → ∀ z ∈ ws, ∃ u, valV ws3 z.1 = some u ∧ EqV Z.K H 2 z.2 u := by
    intro ws kvs r
    induction ws generalizing kvs with
    | nil => intro _ z hz; cases hz
    | cons y ws ih =>
      cases r with
      | @cons x v d _ ds r t =>
        intro hk z hz
        rcases List.mem_cons.mp hz with rfl | hz
        · obtain ⟨i, e1, e2⟩ := hk (x, d) (by simp)
          have e1' : d = .int i := e1
          subst e1'
          cases r
          obtain ⟨u, f1, f2⟩ := r3.get e2
          cases f2
          exact ⟨_, f1, .inl ⟨rfl, rfl⟩⟩
        · exact ih t (fun p hp => hk p (List.mem_cons_of_mem _ hp)) z hz
  exact key r1 hk z hz
end
end DL
end
section
open PySem DL PySem.Spec PyProof.Rows
open L2 hiding WE
local macro_rules | `(tactic| walk_at "w1") => `(tactic| first
  | ((with_reducible show WS _ (tSeq _ _) _ _ _); refine ws_seq ?_)
  | ((with_reducible show WS _ (tAsg _ (gName _)) _ _ _); refine ws_asg ?_)
  | ((with_reducible show WS _ (tAsg _ _) _ _ _); refine ws_asgG ?_)
  | ((with_reducible show WS _ (tRet _) _ _ _); refine ws_ret ?_)
  | ((with_reducible show WS _ (tIfS _ _ _) _ _ _); refine ws_if ?_)
  | ((with_reducible show WS _ (tDrop _) _ _ _); refine ws_drop ?_)
  | ((with_reducible show WS _ tNext _ _ _); refine ws_next ?_)
  | ((with_reducible show WS _ (tFor _ _ _) _ _ _); refine ws_forU ?_)
  | ((with_reducible show Turns _ _ _ _ [] _ _); refine turns_nil ?_)
  | ((with_reducible show Turns _ _ _ _ (_ :: _) _ _); refine turns_cons ?_)
  | ((with_reducible show WS _ (tPar _ _ _) _ _ _); refine ws_par ?_)
  | ((with_reducible show WT _ (tTest _) _ _ _); refine wt_test ?_)
  | ((with_reducible show WT _ (tB _) _ _ _); refine wt_B ?_)
  | ((with_reducible show WT _ (tAnd _ _) _ _ _); refine wt_and ?_)
  | ((with_reducible show WT _ (tOr _ _) _ _ _); refine wt_or ?_)
  | ((with_reducible show WT _ (tNot _) _ _ _); refine wt_not ?_)
  | ((with_reducible show WE _ (tVar _) _ _ _); refine we_var rfl ?_)
  | ((with_reducible show WE _ (tC (V.int _)) _ _ _); refine we_int ?_)
  | ((with_reducible show WE _ (tC (V.str _)) _ _ _); refine we_str ?_)
  | ((with_reducible show WE _ (tC (V.bl _)) _ _ _); refine we_bl ?_)
  | ((with_reducible show WE _ (tC V.non) _ _ _); refine we_non ?_)
  | ((with_reducible show WE _ (tC (V.ty _)) _ _ _); refine we_ty ?_)
  | ((with_reducible show WE _ (tGl _ _) _ _ _); refine we_glob ?_)
  | ((with_reducible show WE _ (tOp _ _ _) _ _ _); refine we_op ?_)
  | ((with_reducible show WE _ (tCB (rAll _) (tCons (tLc _ _ _ _ _) tNil)) _ _ _); refine we_allT ?_)
  | ((with_reducible show WE _ (tCB _ _) _ _ _); refine we_cb ?_)
  | ((with_reducible show WA _ tNil _ _ _); refine wa_nil ?_)
  | ((with_reducible show WA _ (tCons _ _) _ _ _); refine wa_cons ?_)
  | ((with_reducible show WE _ (tTup _) _ _ _); refine we_tup ?_)
  | ((with_reducible show WE _ (tAndV _ _) _ _ _); refine we_andV ?_)
  | ((with_reducible show WE _ (tOrV _ _) _ _ _); refine we_orV ?_)
  | ((with_reducible show WE _ (tNotV _) _ _ _); refine we_notV ?_)
  | ((with_reducible show WE _ (tChain _ _ _ _ _) _ _ _); refine we_chain ?_)
  | ((with_reducible show WE _ (tCall _ _ _ _) _ _ _); refine we_call0 ?_)
  | ((with_reducible show WE _ tDNewK _ _ _); refine we_dnew ?_)
  | ((with_reducible show WS _ (tThru _ _) _ _ _); refine ws_thru ?_)
  | ((with_reducible show WS _ (sFld _ _ _ _) _ _ _); refine ws_fld ?_)
  | ((with_reducible show WG _ (gName _) _ _ _ _); refine wg_name ?_)
  | ((with_reducible show WG _ (gTup _ _ _) _ _ _ _); refine wg_tup rfl ?_)
  | ((with_reducible show WGs _ (gCons _ _) _ _ _ _); refine wgs_cons ?_)
  | ((with_reducible show WGs _ gNil _ _ _ _); refine wgs_nil ?_)
  | ((with_reducible show RD _ _ _ _ _ _); walk_at "wd")
  | ((with_reducible show RC _ _ _ _ _); walk_at "wr")
  | ((with_reducible show CS _ _ _ _ _); walk_at "wc"))
local macro_rules | `(tactic| walk_at "wd") => `(tactic| first
  | refine rd_plus_int ?_
  | refine rd_sub ?_
  | refine rd_eq_int_t rfl ?_
  | refine rd_eq_str_t rfl ?_
  | refine rd_eq_str_f (by decide) ?_
  | refine rd_ne_str_t (by decide) ?_
  | refine rd_ne_str_f rfl ?_
  | refine rd_ix_tup (by decide) rfl ?_
  | refine rd_ix_lst (by decide) rfl ?_
  | refine rd_in_tup_t (ks := ["add", "lift", "set"]) rfl (by decide) ?_
  | refine rd_in_tup_f (ks := ["add", "lift", "set"]) rfl (by decide) ?_
  | refine rd_in_tup_t (ks := ["either", "orders"]) rfl (by decide) ?_
  | refine rd_in_tup_f (ks := ["either", "orders"]) rfl (by decide) ?_
  | refine rd_le_int_t (by decide) ?_
  | refine rd_le_int_f (by decide) ?_
  | refine rd_lt_int_t (by decide) ?_
  | refine rd_lt_int_f (by decide) ?_
  | refine rd_eq_int_f (by decide) ?_
  | refine rd_ix_lstO 0 rfl (by decide) rfl ?_
  | refine rd_ix_dctO 0 rfl rfl ?_)
local macro_rules | `(tactic| walk_at "wr") => `(tactic| first
  | refine rc_max2 ?_
  | refine rc_min2 ?_
  | refine rc_isi_int ?_
  | refine rc_isi_intb ?_
  | refine rc_isi_str ?_
  | refine rc_isi_tup ?_
  | refine rc_isi_dct ?_
  | refine rc_len_tup_n (n := 0) rfl ?_
  | refine rc_len_tup_n (n := 1) rfl ?_
  | refine rc_len_tup_n (n := 2) rfl ?_
  | refine rc_len_tup_n (n := 3) rfl ?_
  | refine rc_len_tup_n (n := 6) rfl ?_
  | refine rc_len_tup ?_
  | refine rc_len_lst ?_
  | refine rc_int ?_)
local macro_rules | `(tactic| walk_at "w2") => `(tactic| first
  | refine ex_b ?_
  | refine ex_par ?_
  | refine and_t ?_
  | refine and_f ?_
  | refine and_t2 ?_
  | refine and_f2 ?_
  | refine And.intro (Nat.le_of_ble_eq_true rfl) ?_)
local macro_rules | `(tactic| walk_at "w") => `(tactic| repeat (first | walk_at "w1" | walk_at "w2"))
/-! HwA -/
namespace Hw

/-- a product of the law's programs: of nothing, or one name -/
abbrev Prd := Option Str
abbrev Trm := Int × Prd
inductive Row where
  | add (x : Str) (ts : List Trm) | lift (x : Str) (t : Trm) | set (x : Str) (ts : List Trm)
mutual
inductive Stm where
  | row (r : Row) | loop (x : Str) (b : Blk) | alt (o : Bool) (bs : Bls) | call (w : Str)
inductive Blk where
  | nil | cons (s : Stm) (b : Blk)
inductive Bls where
  | nil | cons (b : Blk) (bs : Bls)
end
def Blk.app : Blk → Blk → Blk
  | .nil, c => c
  | .cons s b, c => .cons s (b.app c)
def Blk.len : Blk → Nat
  | .nil => 0
  | .cons _ b => b.len + 1
def Bls.len : Bls → Nat
  | .nil => 0
  | .cons _ b => b.len + 1
def Bls.get : Bls → Nat → Option Blk
  | .nil, _ => none
  | .cons b _, 0 => some b
  | .cons _ bs, i + 1 => bs.get i

/-! as data -/
def eP : Prd → D
  | none => .tup []
  | some x => .tup [.tup [.str x, .int 1]]
def eT (t : Trm) : D := .tup [.int t.1, eP t.2]
def eTs (ts : List Trm) : D := .tup (ts.map eT)
def eR : Row → D
  | .add x ts => .tup [.str "add", .str x, eTs ts]
  | .lift x t => .tup [.str "lift", .str x, eT t]
  | .set x ts => .tup [.str "set", .str x, eTs ts]
def eW (o : Bool) : Str := if o then "orders" else "either"
mutual
def eS : Stm → D
  | .row r => eR r
  | .loop x b => .tup [.str "loop", .str x, .tup (eB b)]
  | .alt o bs => .tup [.str (eW o), .tup (eBs bs)]
  | .call w => .tup [.str "call", .str w]
def eB : Blk → List D
  | .nil => []
  | .cons s b => eS s :: eB b
def eBs : Bls → List D
  | .nil => []
  | .cons b bs => .tup (eB b) :: eBs bs
end
theorem eB_len : ∀ b : Blk, (eB b).length = b.len
  | .nil => rfl
  | .cons _ b => by show (eB b).length + 1 = _; rw [eB_len b]; rfl
theorem eBs_len : ∀ b : Bls, (eBs b).length = b.len
  | .nil => rfl
  | .cons _ b => by show (eBs b).length + 1 = _; rw [eBs_len b]; rfl
theorem eB_app : ∀ b c : Blk, eB (b.app c) = eB b ++ eB c
  | .nil, _ => rfl
  | .cons s b, c => by show eS s :: eB (b.app c) = eS s :: (eB b ++ eB c); rw [eB_app b c]
end Hw
/-! HwB -/
namespace Hw
/-! ### what is right -/
def WordOk (s : Str) : Prop := 1 ≤ s.length ∧ s.length ≤ 8 ∧ ∀ c ∈ s.cps.toList, 97 ≤ c ∧ c ≤ 122
def prdLt : Prd → Prd → Prop
  | none, some _ => True
  | some x, some y => x.cps.toList < y.cps.toList
  | _, none => False
def VP (names : List Str) : Prd → Prop
  | none => True
  | some x => x ∈ names ∧ WordOk x
def VT (names : List Str) (t : Trm) : Prop := 1 ≤ t.1 ∧ t.1 ≤ 9 ∧ VP names t.2
def VTs (names : List Str) (ts : List Trm) : Prop := ts ≠ [] ∧ ts.length ≤ 3 ∧ (∀ t ∈ ts, VT names t) ∧ ts.Pairwise fun a b => prdLt a.2 b.2
def nms (ks : List Str) : List D := ks.map D.str
abbrev cd_ROWS : D := .tup [.str "add", .str "lift", .str "set"]
abbrev cd_ROUNDS : D := .str "#"
abbrev cd_MOST_TERMS : D := .int 3
abbrev cd_MOST_COEFFICIENT : D := .int 9
abbrev cd_MOST_DEGREE : D := .int 3

def S_is_integer : DSpec := fun ds w P _ => ds.length = 1 ∧ ∃ i, ds = [.int i] ∧ P (.bl true) w
def S_is_pair : DSpec := fun ds w P _ => ds.length = 1 ∧ ∃ a b, ds = [.tup [a, b]] ∧ P (.bl true) w
def S_is_number : DSpec := fun ds w P _ => ds.length = 3 ∧ ∃ i a b, ds = [.int i, .int a, .int b] ∧ a ≤ i ∧ i ≤ b ∧ P (.bl true) w
def S_is_name : DSpec := fun ds w P _ => ds.length = 1 ∧ ∃ s, ds = [.str s] ∧ WordOk s ∧ P (.bl true) w
def S_is_letter : DSpec := fun ds w P _ => ds.length = 2 ∧ ∃ s names, ds = [.str s, .tup (nms names)] ∧ s ∈ names ∧ P (.bl true) w
def S_is_product : DSpec := fun ds w P _ => ds.length = 2 ∧ ∃ p names, ds = [eP p, .tup (nms names)] ∧ VP names p ∧ P (.bl true) w
def prdDeg : Prd → Int
  | none => 0
  | some _ => 1
def S_sum_of_powers : DSpec := fun ds w P _ => ds.length = 1 ∧ ∃ p, ds = [eP p] ∧ P (.int (prdDeg p)) w
def S_is_term : DSpec := fun ds w P _ => ds.length = 2 ∧ ∃ t names, ds = [eT t, .tup (nms names)] ∧ VT names t ∧ P (.bl true) w
section
variable {P : Program} {w : World} {K : PySem.W.Frag} {mg : Str → Option Value} {base : Heap} {T : Addr}
abbrev st_is_integer : Stmt := top 9
abbrev N_is_integer : List Str := ["thing"]
theorem sc_is_integer : FnScope N_is_integer ["thing"] (defScope st_is_integer) := ⟨rfl, rfl, rfl, by decide +kernel, rfl, by decide +kernel, by decide +kernel⟩

theorem ok_is_integer {k : Nat} (bl : Blt mg) (F : DefAt K mg "is_integer" st_is_integer ["thing"]) : Has P w K mg base CX0 "is_integer" ["thing"] (k + 1) (spOf K T S_is_integer) := by
  refine defD F sc_is_integer (fun _ _ _ _ h => h.1) fun f cdv A outer s H E hr => ?_
  have hu := hu_of hr
  have hu64 := hr.units
  have nd := sc_is_integer.nd
  refine ⟨_, (pss_one (ps_ret (pe_and (pe_callB (k_isi (K := K) rfl) rfl bl.isinstance bt_isinstance (pa_cons (pv 0) (pa_cons (pe_bltn (v := .ty "int") rfl bl.int bt_int rfl) pa_nil))) (pe_one (pe_not (pe_callB (k_isi (K := K) rfl) rfl bl.isinstance bt_isinstance (pa_cons (pv 0) (pa_cons (pe_bltn (v := .ty "bool") rfl bl.bool bt_bool rfl) pa_nil)))))))), ?_⟩
  rintro ds w P X ⟨-, i, rfl, hP⟩
  walk_at "w"
  exact hP
abbrev st_is_pair : Stmt := top 12
abbrev N_is_pair : List Str := ["thing"]
theorem sc_is_pair : FnScope N_is_pair ["thing"] (defScope st_is_pair) := ⟨rfl, rfl, rfl, by decide +kernel, rfl, by decide +kernel, by decide +kernel⟩

theorem ok_is_pair {k : Nat} (bl : Blt mg) (F : DefAt K mg "is_pair" st_is_pair ["thing"]) : Has P w K mg base CX0 "is_pair" ["thing"] (k + 1) (spOf K T S_is_pair) := by
  refine defD F sc_is_pair (fun _ _ _ _ h => h.1) fun f cdv A outer s H E hr => ?_
  have hu := hu_of hr
  have hu64 := hr.units
  have nd := sc_is_pair.nd
  refine ⟨_, (pss_one (ps_ret (pe_and (pe_callB (k_isi (K := K) rfl) rfl bl.isinstance bt_isinstance (pa_cons (pv 0) (pa_cons (pe_bltn (v := .ty "tuple") rfl bl.tuple bt_tuple rfl) pa_nil))) (pe_one (pe_cmpR (k_eq (K := K) rfl hu64) (pe_callB (k_len (K := K) rfl) rfl bl.len bt_len (pa_cons (pv 0) pa_nil)) pe_int (nomark _)))))), ?_⟩
  rintro ds w P X ⟨-, a, b, rfl, hP⟩
  walk_at "w"
  exact hP
abbrev st_is_number : Stmt := top 10
abbrev N_is_number : List Str := ["thing", "low", "high"]
theorem sc_is_number : FnScope N_is_number ["thing", "low", "high"] (defScope st_is_number) := ⟨rfl, rfl, rfl, by decide +kernel, rfl, by decide +kernel, by decide +kernel⟩

theorem ok_is_number {k : Nat} (bl : Blt mg) (F : DefAt K mg "is_number" st_is_number ["thing", "low", "high"]) (h_is_integer : Has P w K mg base CX0 "is_integer" ["thing"] k (spOf K T S_is_integer)) : Has P w K mg base CX0 "is_number" ["thing", "low", "high"] (k + 1) (spOf K T S_is_number) := by
  refine defD F sc_is_number (fun _ _ _ _ h => h.1) fun f cdv A outer s H E hr => ?_
  have hu := hu_of hr
  have hu64 := hr.units
  have nd := sc_is_number.nd
  refine ⟨_, (pss_one (ps_ret (pe_and (pe_callH h_is_integer hr rfl pass0 (pa_cons (pv 0) pa_nil)) (pe_one (pe_chain op_leX op_leX (pv 1) (pv 0) (pv 2)))))), ?_⟩
  rintro ds w P X ⟨-, i, a, b, rfl, h1, h2, hP⟩
  walk_at "w"
  refine cs0 ⟨rfl, i, rfl, ?_⟩
  walk_at "w"
  refine rd_le_int_t h1 ?_
  walk_at "w"
  refine rd_le_int_t h2 ?_
  exact hP
abbrev st_is_letter : Stmt := top 14
abbrev N_is_letter : List Str := ["thing", "letters"]
theorem sc_is_letter : FnScope N_is_letter ["thing", "letters"] (defScope st_is_letter) := ⟨rfl, rfl, rfl, by decide +kernel, rfl, by decide +kernel, by decide +kernel⟩

theorem ok_is_letter {k : Nat} (bl : Blt mg) (F : DefAt K mg "is_letter" st_is_letter ["thing", "letters"]) (c_ROUNDS : HasC K mg "ROUNDS" cd_ROUNDS) (h_is_name : Has P w K mg base CX0 "is_name" ["thing"] k (spOf K T S_is_name)) : Has P w K mg base CX0 "is_letter" ["thing", "letters"] (k + 1) (spOf K T S_is_letter) := by
  refine defD F sc_is_letter (fun _ _ _ _ h => h.1) fun f cdv A outer s H E hr => ?_
  have hu := hu_of hr
  have hu64 := hr.units
  have nd := sc_is_letter.nd
  refine ⟨_, (pss_cons (ps_if (pt_cmpR op_isN (pv 1) pe_non (nomark _))
        (pss_one (ps_ret (pe_or (pe_callH h_is_name hr rfl pass0 (pa_cons (pv 0) pa_nil)) (pe_one (pe_and (pe_callB (k_isi (K := K) rfl) rfl bl.isinstance bt_isinstance (pa_cons (pv 0) (pa_cons (pe_bltn (v := .ty "str") rfl bl.str bt_str rfl) pa_nil))) (pe_one (pe_cmpR (k_eq (K := K) rfl hu64) (pv 0) (k_glob (K := K) rfl c_ROUNDS rfl) (nomark _))))))))
        pss_nil)
      (pss_one (ps_ret (pe_and (pe_callB (k_isi (K := K) rfl) rfl bl.isinstance bt_isinstance (pa_cons (pv 0) (pa_cons (pe_bltn (v := .ty "str") rfl bl.str bt_str rfl) pa_nil))) (pe_one (pe_cmpR (k_in (K := K) rfl hu) (pv 0) (pv 1) rfl)))))), ?_⟩
  rintro ds w P X ⟨-, s, names, rfl, hm, hP⟩
  walk_at "w"
  refine rd_isN ?_
  walk_at "w"
  refine rd_in_tup_t rfl hm ?_
  exact hP
end
end Hw
/-! HwC -/
namespace Hw
theorem sign_ok {c : Nat} (h1 : 97 ≤ c) (h2 : c ≤ 122) : (!decide ((⟨#[c]⟩ : Str).cps.toList < ("a" : Str).cps.toList)) = true ∧ (!decide (("z" : Str).cps.toList < (⟨#[c]⟩ : Str).cps.toList)) = true := by
  have e1 : ("a" : Str).cps.toList = [97] := by decide +kernel
  have e2 : ("z" : Str).cps.toList = [122] := by decide +kernel
  rw [e1, e2]
  constructor
  · rw [Bool.not_eq_true', decide_eq_false_iff_not]
    intro h
    rcases List.cons_lt_cons_iff.mp (show [c] < [97] from h) with h | ⟨_, h⟩
    · omega
    · exact absurd h (List.not_lt_nil _)
  · rw [Bool.not_eq_true', decide_eq_false_iff_not]
    intro h
    rcases List.cons_lt_cons_iff.mp (show [122] < [c] from h) with h | ⟨_, h⟩
    · omega
    · exact absurd h (List.not_lt_nil _)
theorem word_pos {s : Str} (h : WordOk s) : ¬ s.cps.toList < ("" : Str).cps.toList ∧ ("" : Str).cps.toList < s.cps.toList := by
  have e : ("" : Str).cps.toList = [] := by decide +kernel
  rw [e]
  refine ⟨List.not_lt_nil _, ?_⟩
  have := h.1
  cases q : s.cps.toList with
  | nil =>
    have l : s.length = s.cps.toList.length := by simp [Str.length]
    rw [q] at l
    rw [l] at this
    exact absurd this (by decide)
  | cons x xs => exact List.nil_lt_cons x xs
section
variable {P : Program} {w : World} {K : PySem.W.Frag} {mg : Str → Option Value} {base : Heap} {T : Addr}
abbrev st_is_name : Stmt := top 11
abbrev N_is_name : List Str := ["thing", "sign"]
theorem sc_is_name : FnScope N_is_name ["thing"] (defScope st_is_name) := ⟨rfl, rfl, rfl, by decide +kernel, rfl, by decide +kernel, by decide +kernel⟩

theorem ok_is_name {k : Nat} (bl : Blt mg) (F : DefAt K mg "is_name" st_is_name ["thing"]) : Has P w K mg base CX0 "is_name" ["thing"] (k + 1) (spOf K T S_is_name) := by
  refine defD F sc_is_name (fun _ _ _ _ h => h.1) fun f cdv A outer s H E hr => ?_
  have hu := hu_of hr
  have hu64 := hr.units
  have nd := sc_is_name.nd
  refine ⟨_, (pss_cons (ps_if (PW.pt (pw_or (pt_not (pt_val (pe_callB (k_isi (K := K) rfl) rfl bl.isinstance bt_isinstance (pa_cons (pv 0) (pa_cons (pe_bltn (v := .ty "str") rfl bl.str bt_str rfl) pa_nil))))) (pw_or1 (pt_not (pt_chain op_leX op_leX pe_int (pe_callB (k_len (K := K) rfl) rfl bl.len bt_len (pa_cons (pv 0) pa_nil)) pe_int)))))
        (pss_one (ps_ret pe_bl))
        pss_nil)
      (pss_one (ps_ret (pe_callB (k_all (K := K) rfl rfl) rfl bl.all bt_all (pa_cons (pe_lc (own := [("sign", 1)]) (g := gName 1) (tt := tYes) rfl nd (k_walk (K := K) rfl (pv 0)) (blkOk_by (N := N_is_name) (sc := defScope st_is_name) (by decide +kernel)) (fun _ _ _ _ _ => pg_name (i := 1) nd rfl (Or.inl rfl)) (fun _ _ _ _ _ => pts_nil) (fun _ _ _ _ _ => (pe_chain op_leX op_leX pe_str (pv 1) pe_str))) pa_nil))))), ?_⟩
  rintro ds w P X ⟨-, s, rfl, hs, hP⟩
  have h1 := hs.1
  have h2 := hs.2.1
  walk_at "w"
  refine rc_len_str (by omega) ?_
  walk_at "w"
  refine rd_le_int_t (by omega) ?_
  walk_at "w"
  refine rd_le_int_t (by omega) ?_
  walk_at "w"
  refine wi_anyS ?_
  walk_at "w"
  refine ⟨s, rfl, ?_, fun _ => trivial, ?_, hP⟩
  · unfold DL.signs; rw [List.length_map, Array.length_toList]; show s.length ≤ _; omega
  · intro x hx
    unfold DL.signs at hx
    obtain ⟨c, hc, rfl⟩ := List.mem_map.mp hx
    obtain ⟨q1, q2⟩ := hs.2.2 c hc
    obtain ⟨e1, e2⟩ := sign_ok q1 q2
    walk_at "w"
    refine rd_le_str ?_
    rw [e1]
    walk_at "w"
    refine rd_le_str ?_
    rw [e2]
    exact ⟨rfl, rfl⟩
abbrev st_sum_of_powers : Stmt := top 17
abbrev N_sum_of_powers : List Str := ["product", "pair"]
theorem sc_sum_of_powers : FnScope N_sum_of_powers ["product"] (defScope st_sum_of_powers) := ⟨rfl, rfl, rfl, by decide +kernel, rfl, by decide +kernel, by decide +kernel⟩

theorem ok_sum_of_powers {k : Nat} (bl : Blt mg) (F : DefAt K mg "sum_of_powers" st_sum_of_powers ["product"]) : Has P w K mg base CX0 "sum_of_powers" ["product"] (k + 1) (spOf K T S_sum_of_powers) := by
  refine defD F sc_sum_of_powers (fun _ _ _ _ h => h.1) fun f cdv A outer s H E hr => ?_
  have hu := hu_of hr
  have hu64 := hr.units
  have nd := sc_sum_of_powers.nd
  refine ⟨_, (pss_one (ps_ret (pe_callB (k_sum (K := K) rfl rfl) rfl bl.sum bt_sum (pa_cons (pe_lc (own := [("pair", 1)]) (g := gName 1) (tt := tYes) rfl nd (k_walk (K := K) rfl (pv 0)) (blkOk_by (N := N_sum_of_powers) (sc := defScope st_sum_of_powers) (by decide +kernel)) (fun _ _ _ _ _ => pg_name (i := 1) nd rfl (Or.inl rfl)) (fun _ _ _ _ _ => pts_nil) (fun _ _ _ _ _ => (pe_ix (k_ix (K := K) rfl hu) (pv 1) pe_int (fun _ _ => rfl)))) pa_nil)))), ?_⟩
  rintro ds w P X ⟨-, p, rfl, hP⟩
  cases p with
  | none =>
    walk_at "w"
    refine we_lcM (fun _ => .int 1) (wi_anyT ?_)
    walk_at "w"
    refine ⟨_, rfl, by simp, fun _ => trivial, ?_, wa_nil (rc_sum (ns := []) rfl hP)⟩
    intro x hx; cases hx
  | some s =>
    walk_at "w"
    refine we_lcM (fun _ => .int 1) (wi_anyT ?_)
    walk_at "w"
    refine ⟨_, rfl, by simp, fun _ => trivial, ?_, wa_nil (rc_sum (ns := [1]) rfl hP)⟩
    intro x hx
    rw [List.mem_singleton] at hx
    subst hx
    walk_at "w"
    exact ⟨rfl, rfl⟩
abbrev st_is_product : Stmt := top 15
abbrev N_is_product : List Str := ["thing", "letters", "last", "pair"]
theorem sc_is_product : FnScope N_is_product ["thing", "letters"] (defScope st_is_product) := ⟨rfl, rfl, rfl, by decide +kernel, rfl, by decide +kernel, by decide +kernel⟩

theorem ok_is_product {k : Nat} (bl : Blt mg) (F : DefAt K mg "is_product" st_is_product ["thing", "letters"]) (h_is_letter : Has P w K mg base CX0 "is_letter" ["thing", "letters"] k (spOf K T S_is_letter)) (h_is_pair : Has P w K mg base CX0 "is_pair" ["thing"] k (spOf K T S_is_pair)) (h_is_integer : Has P w K mg base CX0 "is_integer" ["thing"] k (spOf K T S_is_integer)) : Has P w K mg base CX0 "is_product" ["thing", "letters"] (k + 1) (spOf K T S_is_product) := by
  refine defD F sc_is_product (fun _ _ _ _ h => h.1) fun f cdv A outer s H E hr => ?_
  have hu := hu_of hr
  have hu64 := hr.units
  have nd := sc_is_product.nd
  refine ⟨_, (pss_cons (ps_if (pt_not (pt_val (pe_callB (k_isi (K := K) rfl) rfl bl.isinstance bt_isinstance (pa_cons (pv 0) (pa_cons (pe_bltn (v := .ty "tuple") rfl bl.tuple bt_tuple rfl) pa_nil)))))
        (pss_one (ps_ret pe_bl))
        pss_nil)
      (pss_cons (ps_set (i := 2) nd rfl (Or.inl rfl) pe_str)
      (pss_cons (ps_for PassesOwn.never rfl (k_walk (K := K) rfl (pv 0)) (pg_name (i := 3) nd rfl (Or.inl rfl))
        (pss_cons (ps_if (PW.pt (pw_or (pt_not (pt_val (pe_callH h_is_pair hr rfl pass0 (pa_cons (pv 3) pa_nil)))) (pw_or1 (pt_not (pt_val (pe_callH h_is_letter hr rfl pass0 (pa_cons (pe_ix (k_ix (K := K) rfl hu) (pv 3) pe_int (fun _ _ => rfl)) (pa_cons (pv 1) pa_nil))))))))
          (pss_one (ps_ret pe_bl))
          pss_nil)
        (pss_cons (ps_if (PW.pt (pw_or (pt_cmpR op_leX (pe_ix (k_ix (K := K) rfl hu) (pv 3) pe_int (fun _ _ => rfl)) (pv 2) (nomark _)) (pw_or (pt_not (pt_val (pe_callH h_is_integer hr rfl pass0 (pa_cons (pe_ix (k_ix (K := K) rfl hu) (pv 3) pe_int (fun _ _ => rfl)) pa_nil)))) (pw_or1 (pt_cmpR (k_lt (K := K) rfl hu64) (pe_ix (k_ix (K := K) rfl hu) (pv 3) pe_int (fun _ _ => rfl)) pe_int (nomark _))))))
          (pss_one (ps_ret pe_bl))
          pss_nil)
        (pss_one (ps_set (i := 2) nd rfl (Or.inl rfl) (pe_ix (k_ix (K := K) rfl hu) (pv 3) pe_int (fun _ _ => rfl)))))))
      (pss_one (ps_ret pe_bl))))), ?_⟩
  rintro ds w P X ⟨-, p, names, rfl, hp, hP⟩
  cases p with
  | none =>
    walk_at "w"
    refine wi_anyT ?_
    walk_at "w"
    refine ⟨[], rfl, fun _ => trivial, ?_⟩
    walk_at "w"
    exact hP
  | some s =>
    obtain ⟨hm, hs⟩ := hp
    obtain ⟨e1, e2⟩ := word_pos hs
    walk_at "w"
    refine wi_anyT ?_
    walk_at "w"
    refine ⟨_, rfl, fun _ => trivial, ?_⟩
    walk_at "w"
    refine cs0 ⟨rfl, _, _, rfl, ?_⟩
    walk_at "w"
    refine cs0 ⟨rfl, _, _, rfl, hm, ?_⟩
    walk_at "w"
    refine rd_le_str ?_
    rw [decide_eq_true e2]
    walk_at "w"
    refine cs0 ⟨rfl, _, rfl, ?_⟩
    walk_at "w"
    exact hP
end
end Hw
/-! HwD -/
namespace Hw
theorem py_eP : ∀ p : Prd, isPy (eP p) = true
  | none => rfl
  | some _ => rfl
theorem prd_alike : ∀ p q : Prd, PySem.W.alike (py (eP p)) (py (eP q)) = true
  | none, none => by simp [eP, py, pys, PySem.W.alike, PySem.W.alikeAll]
  | none, some _ => by simp [eP, py, pys, PySem.W.alike, PySem.W.alikeAll]
  | some _, none => by simp [eP, py, pys, PySem.W.alike, PySem.W.alikeAll]
  | some _, some _ => by simp [eP, py, pys, PySem.W.alike, PySem.W.alikeAll]
theorem prd_depth : ∀ p : Prd, (py (eP p)).depth ≤ 60
  | none => by simp [eP, py, pys, PyData.depth, PyData.depthAll]
  | some _ => by simp [eP, py, pys, PyData.depth, PyData.depthAll]
theorem prd_ne : ∀ p : Prd, py (eP p) ≠ .none
  | none => by simp [eP, py]
  | some _ => by simp [eP, py]
theorem str_ne_of_lt {x y : Str} (h : x.cps.toList < y.cps.toList) : ¬ x = y := fun e => by subst e; exact absurd h (List.lt_irrefl _)
theorem prd_lt {p q : Prd} (h : prdLt p q) : PySem.W.dataLt (py (eP p)) (py (eP q)) = true := by
  cases q with
  | none => cases p <;> exact h.elim
  | some y =>
    cases p with
    | none =>
      rw [eP, eP, py, py, pys, pys, PySem.W.dataLt_tuple, PySem.W.keyToksAll, PySem.W.keyToksAll]
      exact lex_true.mpr (.inl rfl)
    | some x =>
      have hlt : x.cps.toList < y.cps.toList := h
      have hne := str_ne_of_lt hlt
      have e1 : PyData.eqv (.tuple [.str x, .int 1]) (.tuple [.str y, .int 1]) = false := by
        simp [PyData.eqv, PyData.eqvAll, hne]
      have e2 : PyData.eqv (.str x) (.str y) = false := by simp [PyData.eqv, hne]
      have ea : PySem.W.alike (.tuple [.str x, .int 1]) (.tuple [.str y, .int 1]) = true := by simp [PySem.W.alike, PySem.W.alikeAll]
      show PySem.W.dataLt (.tuple [.tuple [.str x, .int 1]]) (.tuple [.tuple [.str y, .int 1]]) = true
      rw [PySem.W.dataLt_tuple, PySem.W.dataLt_cons ea, e1, if_neg Bool.false_ne_true, PySem.W.dataLt_pair (by simp [PySem.W.alike]) (by simp [PySem.W.alike]), e2, if_neg Bool.false_ne_true, PySem.W.dataLt_str]
      exact decide_eq_true hlt
/-- products are compared with () -/
theorem prd_eq0 : ∀ p : Prd, PyData.eqv (py (eP p)) (py (.tup [])) = p.isNone
  | none => by simp [eP, py, pys, PyData.eqv, PyData.eqvAll]
  | some _ => by simp [eP, py, pys, PyData.eqv, PyData.eqvAll]
theorem word_strOk {s : Str} (h : WordOk s) : PyData.strOk s = true := by
  unfold PyData.strOk
  rw [Array.all_eq_true_iff_forall_mem]
  intro c hc
  have := (h.2.2 c (by simpa using hc)).2
  simp only [decide_eq_true_eq]
  omega
theorem prd_shaped {names : List Str} : ∀ p : Prd, VP names p → SeqAt.shaped (py (eP p)) = true
  | none, _ => by simp [eP, py, pys, SeqAt.shaped, PyData.depth, PyData.depthAll, PyData.canLay0, PyData.canLayAll0]
  | some _, h => by simp [eP, py, pys, SeqAt.shaped, PyData.depth, PyData.depthAll, PyData.canLay0, PyData.canLayAll0, word_strOk h.2]
theorem nil_shaped : SeqAt.shaped (py (.tup [])) = true := by simp [py, pys, SeqAt.shaped, PyData.depth, PyData.depthAll, PyData.canLay0, PyData.canLayAll0]
def S_is_sum : DSpec := fun ds w P _ => ds.length = 2 ∧ ∃ ts names, ds = [eTs ts, .tup (nms names)] ∧ VTs names ts ∧ P (.bl true) w
def S_is_terms : DSpec := fun ds w P _ => ds.length = 2 ∧ ∃ ts names, ds = [eTs ts, .tup (nms names)] ∧ VTs names ts ∧ P (.bl true) w
def VR (names : List Str) (sets : Bool) : Row → Prop
  | .add x ts => x ∈ names ∧ VTs names ts
  | .lift x t => x ∈ names ∧ VT names t
  | .set x ts => x ∈ names ∧ VTs names ts ∧ sets = true ∧ ∃ t ∈ ts, t.2 ≠ none
def S_is_row_statement : DSpec := fun ds w P _ => ds.length = 3 ∧ ∃ r names sets, ds = [eR r, .tup (nms names), .bl sets] ∧ VR names sets r ∧ P (.bl true) w
theorem deg_le : ∀ p : Prd, prdDeg p ≤ 3
  | none => by show (0 : Int) ≤ 3; omega
  | some _ => by show (1 : Int) ≤ 3; omega
section
variable {P : Program} {w : World} {K : PySem.W.Frag} {mg : Str → Option Value} {base : Heap} {T : Addr}
abbrev st_is_term : Stmt := top 24
abbrev N_is_term : List Str := ["thing", "names"]
theorem sc_is_term : FnScope N_is_term ["thing", "names"] (defScope st_is_term) := ⟨rfl, rfl, rfl, by decide +kernel, rfl, by decide +kernel, by decide +kernel⟩

theorem ok_is_term {k : Nat} (bl : Blt mg) (F : DefAt K mg "is_term" st_is_term ["thing", "names"]) (c_MOST_COEFFICIENT : HasC K mg "MOST_COEFFICIENT" cd_MOST_COEFFICIENT) (h_is_integer : Has P w K mg base CX0 "is_integer" ["thing"] k (spOf K T S_is_integer)) (h_is_pair : Has P w K mg base CX0 "is_pair" ["thing"] k (spOf K T S_is_pair)) (h_sum_of_powers : Has P w K mg base CX0 "sum_of_powers" ["product"] k (spOf K T S_sum_of_powers)) (c_MOST_DEGREE : HasC K mg "MOST_DEGREE" cd_MOST_DEGREE) (h_is_product : Has P w K mg base CX0 "is_product" ["thing", "letters"] k (spOf K T S_is_product)) : Has P w K mg base CX0 "is_term" ["thing", "names"] (k + 1) (spOf K T S_is_term) := by
  refine defD F sc_is_term (fun _ _ _ _ h => h.1) fun f cdv A outer s H E hr => ?_
  have hu := hu_of hr
  have hu64 := hr.units
  have nd := sc_is_term.nd
  refine ⟨_, (pss_cons (ps_if (PW.pt (pw_or (pt_not (pt_val (pe_callH h_is_pair hr rfl pass0 (pa_cons (pv 0) pa_nil)))) (pw_or (pt_not (pt_val (pe_callH h_is_integer hr rfl pass0 (pa_cons (pe_ix (k_ix (K := K) rfl hu) (pv 0) pe_int (fun _ _ => rfl)) pa_nil)))) (pw_or1 (pt_not (pt_chain op_leX op_leX pe_int (pe_ix (k_ix (K := K) rfl hu) (pv 0) pe_int (fun _ _ => rfl)) (k_glob (K := K) rfl c_MOST_COEFFICIENT rfl)))))))
        (pss_one (ps_ret pe_bl))
        pss_nil)
      (pss_one (ps_ret (pe_and (pe_callH h_is_product hr rfl pass0 (pa_cons (pe_ix (k_ix (K := K) rfl hu) (pv 0) pe_int (fun _ _ => rfl)) (pa_cons (pv 1) pa_nil))) (pe_one (pe_cmpR op_leX (pe_callH h_sum_of_powers hr rfl pass0 (pa_cons (pe_ix (k_ix (K := K) rfl hu) (pv 0) pe_int (fun _ _ => rfl)) pa_nil)) (k_glob (K := K) rfl c_MOST_DEGREE rfl) (nomark _))))))), ?_⟩
  rintro ds w P X ⟨-, t, names, rfl, hv, hP⟩
  obtain ⟨h1, h2, h3⟩ := hv
  walk_at "w"
  refine cs0 ⟨rfl, _, _, rfl, ?_⟩
  walk_at "w"
  refine cs0 ⟨rfl, _, rfl, ?_⟩
  walk_at "w"
  refine rd_le_int_t h1 ?_
  walk_at "w"
  refine rd_le_int_t h2 ?_
  walk_at "w"
  refine cs0 ⟨rfl, _, _, rfl, h3, ?_⟩
  walk_at "w"
  refine cs0 ⟨rfl, _, rfl, ?_⟩
  walk_at "w"
  refine rd_le_int_t (deg_le _) ?_
  exact hP
abbrev st_is_sum : Stmt := top 16
abbrev N_is_sum : List Str := ["thing", "letters", "k", "term"]
theorem sc_is_sum : FnScope N_is_sum ["thing", "letters"] (defScope st_is_sum) := ⟨rfl, rfl, rfl, by decide +kernel, rfl, by decide +kernel, by decide +kernel⟩

theorem ok_is_sum {k : Nat} (bl : Blt mg) (F : DefAt K mg "is_sum" st_is_sum ["thing", "letters"]) (h_is_integer : Has P w K mg base CX0 "is_integer" ["thing"] k (spOf K T S_is_integer)) (h_is_pair : Has P w K mg base CX0 "is_pair" ["thing"] k (spOf K T S_is_pair)) (h_is_product : Has P w K mg base CX0 "is_product" ["thing", "letters"] k (spOf K T S_is_product)) : Has P w K mg base CX0 "is_sum" ["thing", "letters"] (k + 1) (spOf K T S_is_sum) := by
  refine defD F sc_is_sum (fun _ _ _ _ h => h.1) fun f cdv A outer s H E hr => ?_
  have hu := hu_of hr
  have hu64 := hr.units
  have nd := sc_is_sum.nd
  refine ⟨_, (pss_cons (ps_if (PW.pt (pw_or (pt_not (pt_val (pe_callB (k_isi (K := K) rfl) rfl bl.isinstance bt_isinstance (pa_cons (pv 0) (pa_cons (pe_bltn (v := .ty "tuple") rfl bl.tuple bt_tuple rfl) pa_nil))))) (pw_or1 (pt_cmpR (k_eq (K := K) rfl hu64) (pe_callB (k_len (K := K) rfl) rfl bl.len bt_len (pa_cons (pv 0) pa_nil)) pe_int (nomark _)))))
        (pss_one (ps_ret pe_bl))
        pss_nil)
      (pss_cons (ps_for PassesOwn.never rfl (k_enum (K := K) rfl rfl bl.enumerate (pa_cons (pv 0) pa_nil)) (k_tup (K := K) rfl rfl (pgs_cons (pg_name (i := 2) nd rfl (Or.inl rfl)) (pgs_cons (pg_name (i := 3) nd rfl (Or.inl rfl)) pgs_nil)))
        (pss_cons (ps_if (PW.pt (pw_or (pt_not (pt_val (pe_callH h_is_pair hr rfl pass0 (pa_cons (pv 3) pa_nil)))) (pw_or (pt_not (pt_val (pe_callH h_is_integer hr rfl pass0 (pa_cons (pe_ix (k_ix (K := K) rfl hu) (pv 3) pe_int (fun _ _ => rfl)) pa_nil)))) (pw_or1 (pt_cmpR (k_lt (K := K) rfl hu64) (pe_ix (k_ix (K := K) rfl hu) (pv 3) pe_int (fun _ _ => rfl)) pe_int (nomark _))))))
          (pss_one (ps_ret pe_bl))
          pss_nil)
        (pss_cons (ps_if (pt_not (pt_val (pe_callH h_is_product hr rfl pass0 (pa_cons (pe_ix (k_ix (K := K) rfl hu) (pv 3) pe_int (fun _ _ => rfl)) (pa_cons (pv 1) pa_nil)))))
          (pss_one (ps_ret pe_bl))
          pss_nil)
        (pss_one (ps_if (PW.pt (pw_and (pt_cmpR op_gt (pv 2) pe_int (nomark _)) (pw_and1 (pt_not (pt_cmpR (k_lt (K := K) rfl hu64) (pe_ix (k_ix (K := K) rfl hu) (pe_ix (k_ix (K := K) rfl hu) (pv 0) (pe_op op_sub (pv 2) pe_int) (fun _ _ => rfl)) pe_int (fun _ _ => rfl)) (pe_ix (k_ix (K := K) rfl hu) (pv 3) pe_int (fun _ _ => rfl)) (nomark _))))))
          (pss_one (ps_ret pe_bl))
          pss_nil)))))
      (pss_one (ps_ret pe_bl)))), ?_⟩
  rintro ds w P X ⟨-, ts, names, rfl, hv, hP⟩
  obtain ⟨h1, h2, h3, h4⟩ := hv
  walk_at "w"
  refine rd_eq_int_f (by cases ts with | nil => exact absurd rfl h1 | cons a b => simp; omega) ?_
  walk_at "w"
  refine wi_enumT ?_
  walk_at "w"
  refine ⟨_, rfl, fun _ => trivial, ?_⟩
  rw [numbered_eq]
  refine turns_ind (A := List Trm × List Trm) (fun s ds rhGr w' => ts = s.1 ++ s.2 ∧ ds = numF s.1.length (s.2.map eT) ∧ (∃ kv tv, rhGr = [some (eTs ts), some (.tup (nms names)), kv, tv]) ∧ w' = w) ?_ ?_ ([], ts) ⟨rfl, rfl, ⟨none, none, rfl⟩, rfl⟩
  · rintro ⟨pre, rest⟩ rhGr w' ⟨he, hd, ⟨kv, tv, rfl⟩, rfl⟩
    walk_at "w"
    exact hP
  · rintro ⟨pre, rest⟩ x xs rhGr w' ⟨he, hd, ⟨kv, tv, rfl⟩, rfl⟩
    cases rest with
    | nil => cases hd
    | cons t rest =>
      obtain ⟨rfl, rfl⟩ := List.cons.inj hd
      have ht : t ∈ ts := by rw [he]; simp
      obtain ⟨v1, v2, v3⟩ := h3 t ht
      have go : ∃ s' : List Trm × List Trm, ts = s'.1 ++ s'.2 ∧ numF (pre.length + 1) (rest.map eT) = numF s'.1.length (s'.2.map eT) ∧ (∃ kv tv, [some (eTs ts), some (.tup (nms names)), some (.int (pre.length : Nat)), some (eT t)] = ([some (eTs ts), some (.tup (nms names)), kv, tv] : Sl)) ∧ w' = w' :=
        ⟨(pre ++ [t], rest), by rw [he]; simp, by simp, ⟨_, _, rfl⟩, rfl⟩
      walk_at "w"
      refine cs0 ⟨rfl, _, _, rfl, ?_⟩
      walk_at "w"
      refine cs0 ⟨rfl, _, rfl, ?_⟩
      walk_at "w"
      refine rd_lt_int_f (by omega) ?_
      walk_at "w"
      refine cs0 ⟨rfl, _, _, rfl, v3, ?_⟩
      walk_at "w"
      refine rd_I0 ?_
      by_cases hp : pre.length = 0
      · rw [decide_eq_false (by show ¬ (0 : Int) < (pre.length : Nat); omega)]
        walk_at "w"
        exact go
      · rw [decide_eq_true (by show (0 : Int) < (pre.length : Nat); omega)]
        obtain ⟨pre', u, rfl⟩ : ∃ p u, pre = p ++ [u] := ⟨pre.dropLast, pre.getLast (by intro q; rw [q] at hp; exact hp rfl), (List.dropLast_concat_getLast _).symm⟩
        have hlt : prdLt u.2 t.2 := by
          rw [he, List.pairwise_append] at h4
          exact h4.2.2 u (by simp) t (by simp)
        walk_at "w"
        have ei : ((pre' ++ [u]).length : Int) - 1 = (pre'.length : Nat) := by simp
        rw [ei]
        refine rd_ix_tup (d := eT u) (by omega) ?_ ?_
        · rw [he, Int.toNat_natCast, List.map_append, List.map_append, List.append_assoc, List.getElem?_append_right (by simp)]
          simp
        walk_at "w"
        refine rd_lt_dat (py_eP _) (py_eP _) (prd_alike _ _) (prd_ne _) (prd_depth _) ?_
        rw [prd_lt hlt]
        walk_at "w"
        exact go
abbrev st_is_terms : Stmt := top 25
abbrev N_is_terms : List Str := ["thing", "names", "term"]
theorem sc_is_terms : FnScope N_is_terms ["thing", "names"] (defScope st_is_terms) := ⟨rfl, rfl, rfl, by decide +kernel, rfl, by decide +kernel, by decide +kernel⟩

theorem ok_is_terms {k : Nat} (bl : Blt mg) (F : DefAt K mg "is_terms" st_is_terms ["thing", "names"]) (c_MOST_TERMS : HasC K mg "MOST_TERMS" cd_MOST_TERMS) (h_is_sum : Has P w K mg base CX0 "is_sum" ["thing", "letters"] k (spOf K T S_is_sum)) (h_is_term : Has P w K mg base CX0 "is_term" ["thing", "names"] k (spOf K T S_is_term)) : Has P w K mg base CX0 "is_terms" ["thing", "names"] (k + 1) (spOf K T S_is_terms) := by
  refine defD F sc_is_terms (fun _ _ _ _ h => h.1) fun f cdv A outer s H E hr => ?_
  have hu := hu_of hr
  have hu64 := hr.units
  have nd := sc_is_terms.nd
  refine ⟨_, (pss_cons (ps_if (PW.pt (pw_or (pt_not (pt_val (pe_callH h_is_sum hr rfl pass0 (pa_cons (pv 0) (pa_cons (pv 1) pa_nil))))) (pw_or1 (pt_cmpR op_gt (pe_callB (k_len (K := K) rfl) rfl bl.len bt_len (pa_cons (pv 0) pa_nil)) (k_glob (K := K) rfl c_MOST_TERMS rfl) (nomark _)))))
        (pss_one (ps_ret pe_bl))
        pss_nil)
      (pss_one (ps_ret (pe_callB (k_all (K := K) rfl rfl) rfl bl.all bt_all (pa_cons (pe_lc (own := [("term", 2)]) (g := gName 2) (tt := tYes) rfl nd (k_walk (K := K) rfl (pv 0)) (blkOk_by (N := N_is_terms) (sc := defScope st_is_terms) (by decide +kernel)) (fun _ _ _ _ _ => pg_name (i := 2) nd rfl (Or.inl rfl)) (fun _ _ _ _ _ => pts_nil) (fun _ _ _ _ _ => (pe_callH h_is_term hr rfl pass0 (pa_cons (pv 2) (pa_cons (pv 1) pa_nil))))) pa_nil))))), ?_⟩
  rintro ds w P X ⟨-, ts, names, rfl, hv, hP⟩
  obtain ⟨h1, h2, h3, h4⟩ := hv
  walk_at "w"
  refine cs0 ⟨rfl, _, _, rfl, ⟨h1, h2, h3, h4⟩, ?_⟩
  walk_at "w"
  refine rd_I0 ?_
  rw [decide_eq_false (by simp; omega)]
  walk_at "w"
  refine wi_anyT ?_
  walk_at "w"
  refine ⟨_, rfl, by simp; omega, fun _ => trivial, ?_, hP⟩
  intro x hx
  obtain ⟨t, ht, rfl⟩ := List.mem_map.mp hx
  walk_at "w"
  exact cs0 ⟨rfl, _, _, rfl, h3 t ht, rfl, rfl⟩
abbrev st_is_row_statement : Stmt := top 26
abbrev N_is_row_statement : List Str := ["thing", "names", "sets", "term"]
theorem sc_is_row_statement : FnScope N_is_row_statement ["thing", "names", "sets"] (defScope st_is_row_statement) := ⟨rfl, rfl, rfl, by decide +kernel, rfl, by decide +kernel, by decide +kernel⟩

theorem ok_is_row_statement {k : Nat} (bl : Blt mg) (F : DefAt K mg "is_row_statement" st_is_row_statement ["thing", "names", "sets"]) (h_is_term : Has P w K mg base CX0 "is_term" ["thing", "names"] k (spOf K T S_is_term)) (h_is_terms : Has P w K mg base CX0 "is_terms" ["thing", "names"] k (spOf K T S_is_terms)) : Has P w K mg base CX0 "is_row_statement" ["thing", "names", "sets"] (k + 1) (spOf K T S_is_row_statement) := by
  refine defD F sc_is_row_statement (fun _ _ _ _ h => h.1) fun f cdv A outer s H E hr => ?_
  have hu := hu_of hr
  have hu64 := hr.units
  have nd := sc_is_row_statement.nd
  refine ⟨_, (pss_cons (ps_if (PW.pt (pw_or (pt_not (pt_val (pe_callB (k_isi (K := K) rfl) rfl bl.isinstance bt_isinstance (pa_cons (pe_ix (k_ix (K := K) rfl hu) (pv 0) pe_int (fun _ _ => rfl)) (pa_cons (pe_bltn (v := .ty "str") rfl bl.str bt_str rfl) pa_nil))))) (pw_or1 (pt_cmpR (k_notIn (K := K) rfl hu) (pe_ix (k_ix (K := K) rfl hu) (pv 0) pe_int (fun _ _ => rfl)) (pv 1) rfl))))
        (pss_one (ps_ret pe_bl))
        pss_nil)
      (pss_cons (ps_if (pt_cmpR (k_eq (K := K) rfl hu64) (pe_ix (k_ix (K := K) rfl hu) (pv 0) pe_int (fun _ _ => rfl)) pe_str (nomark _))
        (pss_one (ps_ret (pe_callH h_is_term hr rfl pass0 (pa_cons (pe_ix (k_ix (K := K) rfl hu) (pv 0) pe_int (fun _ _ => rfl)) (pa_cons (pv 1) pa_nil)))))
        pss_nil)
      (pss_cons (ps_if (pt_not (pt_val (pe_callH h_is_terms hr rfl pass0 (pa_cons (pe_ix (k_ix (K := K) rfl hu) (pv 0) pe_int (fun _ _ => rfl)) (pa_cons (pv 1) pa_nil)))))
        (pss_one (ps_ret pe_bl))
        pss_nil)
      (pss_cons (ps_if (pt_cmpR (k_eq (K := K) rfl hu64) (pe_ix (k_ix (K := K) rfl hu) (pv 0) pe_int (fun _ _ => rfl)) pe_str (nomark _))
        (pss_one (ps_ret pe_bl))
        pss_nil)
      (pss_one (ps_ret (pe_and (pv 2) (pe_one (pe_callB (k_any (K := K) rfl rfl) rfl bl.any bt_any (pa_cons (pe_lc (own := [("term", 3)]) (g := gName 3) (tt := tYes) rfl nd (k_walk (K := K) rfl (pe_ix (k_ix (K := K) rfl hu) (pv 0) pe_int (fun _ _ => rfl))) (blkOk_by (N := N_is_row_statement) (sc := defScope st_is_row_statement) (by decide +kernel)) (fun _ _ _ _ _ => pg_name (i := 3) nd rfl (Or.inl rfl)) (fun _ _ _ _ _ => pts_nil) (fun _ _ _ _ _ => (pe_cmpR (k_ne (K := K) rfl hu64) (pe_ix (k_ix (K := K) rfl hu) (pv 3) pe_int (fun _ _ => rfl)) (pe_tup pa_nil) (nomark _)))) pa_nil)))))))))), ?_⟩
  rintro ds w P X ⟨-, r, names, sets, rfl, hv, hP⟩
  cases r with
  | add x ts =>
    obtain ⟨h1, h2⟩ := hv
    walk_at "w"
    refine rd_notin_tup_f rfl h1 ?_
    walk_at "w"
    refine cs0 ⟨rfl, _, _, rfl, h2, ?_⟩
    walk_at "w"
    exact hP
  | lift x t =>
    obtain ⟨h1, h2⟩ := hv
    walk_at "w"
    refine rd_notin_tup_f rfl h1 ?_
    walk_at "w"
    exact cs0 ⟨rfl, _, _, rfl, h2, hP⟩
  | set x ts =>
    obtain ⟨h1, h2, rfl, h3⟩ := hv
    walk_at "w"
    refine rd_notin_tup_f rfl h1 ?_
    walk_at "w"
    refine cs0 ⟨rfl, _, _, rfl, h2, ?_⟩
    walk_at "w"
    refine we_lcM (fun d => .bl (match d with | .tup [_, .tup []] => false | _ => true)) (wi_anyT ?_)
    walk_at "w"
    refine ⟨_, rfl, ?_, fun _ => trivial, ?_, ?_⟩
    · have := h2.2.1; simp; omega
    · intro y hy
      obtain ⟨t, ht, rfl⟩ := List.mem_map.mp hy
      have hvt := (h2.2.2.1 t ht).2.2
      walk_at "w"
      refine rd_ne_dat (py_eP _) rfl (prd_shaped _ hvt) nil_shaped ?_
      rw [prd_eq0]
      obtain ⟨c, p⟩ := t
      cases p with
      | none => exact ⟨rfl, rfl⟩
      | some s => exact ⟨rfl, rfl⟩
    · refine wa_nil (rc_any (bs := ts.map fun t => t.2.isSome) ?_ ?_)
      · rw [List.map_map, List.map_map]
        refine List.map_congr_left fun t _ => ?_
        obtain ⟨c, p⟩ := t
        cases p <;> rfl
      · have : (ts.map fun t => t.2.isSome).any id = true := by
          obtain ⟨t, ht, hn⟩ := h3
          rw [List.any_map, List.any_eq_true]
          refine ⟨t, ht, ?_⟩
          cases q : t.2 with
          | none => exact absurd q hn
          | some _ => simp [q]
        rw [this]
        exact hP
end
end Hw
/-! HwE -/
namespace Hw
mutual
def dS : Stm → Nat
  | .row _ => 0
  | .loop _ b => dB b + 1
  | .alt _ bs => dBs bs + 1
  | .call _ => 0
def dB : Blk → Nat
  | .nil => 0
  | .cons s b => max (dS s) (dB b)
def dBs : Bls → Nat
  | .nil => 0
  | .cons b bs => max (dB b) (dBs bs)
end
mutual
def VS (names words : List Str) (sets : Bool) : Stm → Prop
  | .row r => VR names sets r
  | .loop x b => x ∈ names ∧ b.len ≤ 40 ∧ VB names words false b
  | .alt _ bs => 2 ≤ bs.len ∧ bs.len ≤ 3 ∧ VBs names words sets bs
  | .call w => w ∈ words
def VB (names words : List Str) (sets : Bool) : Blk → Prop
  | .nil => True
  | .cons s b => VS names words sets s ∧ VB names words sets b
def VBs (names words : List Str) (sets : Bool) : Bls → Prop
  | .nil => True
  | .cons b bs => (b.len ≤ 40 ∧ VB names words sets b) ∧ VBs names words sets bs
end
/-- what holds of the statements of a block -/
theorem eB_mem {Q : Stm → Prop} : ∀ {b : Blk} {x : D}, x ∈ eB b → (∀ s c, b = .cons s c → True) → ∃ s, x = eS s
  | .nil, x, h, _ => by cases h
  | .cons s b, x, h, _ => by
    rcases List.mem_cons.mp (show x ∈ eS s :: eB b from h) with rfl | h
    · exact ⟨s, rfl⟩
    · exact eB_mem (Q := Q) h fun _ _ _ => trivial
theorem VB_mem {names words : List Str} {sets : Bool} {n : Nat} : ∀ {b : Blk} {x : D}, x ∈ eB b → VB names words sets b → dB b < n → ∃ s, x = eS s ∧ VS names words sets s ∧ dS s < n
  | .nil, x, h, _, _ => by cases h
  | .cons s b, x, h, v, d => by
    have v' : VS names words sets s ∧ VB names words sets b := v
    have d' : max (dS s) (dB b) < n := d
    rcases List.mem_cons.mp (show x ∈ eS s :: eB b from h) with rfl | h
    · exact ⟨s, rfl, v'.1, by omega⟩
    · exact VB_mem h v'.2 (by omega)
theorem VBs_mem {names words : List Str} {sets : Bool} {n : Nat} : ∀ {b : Bls} {x : D}, x ∈ eBs b → VBs names words sets b → dBs b < n → ∃ s, x = .tup (eB s) ∧ (s.len ≤ 40 ∧ VB names words sets s) ∧ dB s < n
  | .nil, x, h, _, _ => by cases h
  | .cons s b, x, h, v, d => by
    have v' : (s.len ≤ 40 ∧ VB names words sets s) ∧ VBs names words sets b := v
    have d' : max (dB s) (dBs b) < n := d
    rcases List.mem_cons.mp (show x ∈ .tup (eB s) :: eBs b from h) with rfl | h
    · exact ⟨s, rfl, v'.1, by omega⟩
    · exact VBs_mem h v'.2 (by omega)
def S_is_block (n : Nat) : DSpec := fun ds w P _ => ds.length = 4 ∧ ∃ b names words sets, ds = [.tup (eB b), .tup (nms names), .lst (nms words), .bl sets] ∧ VB names words sets b ∧ dB b < n ∧ b.len ≤ 40 ∧ P (.bl true) w
def S_is_blocks (n : Nat) : DSpec := fun ds w P _ => ds.length = 4 ∧ ∃ b names words sets, ds = [.tup (eBs b), .tup (nms names), .lst (nms words), .bl sets] ∧ VBs names words sets b ∧ 2 ≤ b.len ∧ b.len ≤ 3 ∧ dBs b < n ∧ P (.bl true) w
def S_is_statement (n : Nat) : DSpec := fun ds w P _ => ds.length = 4 ∧ ∃ s names words sets, ds = [eS s, .tup (nms names), .lst (nms words), .bl sets] ∧ VS names words sets s ∧ dS s < n ∧ P (.bl true) w
section
variable {P : Program} {w : World} {K : PySem.W.Frag} {mg : Str → Option Value} {base : Heap} {T : Addr}
abbrev st_is_block : Stmt := top 29
abbrev N_is_block : List Str := ["thing", "names", "words", "sets", "statement"]
theorem sc_is_block : FnScope N_is_block ["thing", "names", "words", "sets"] (defScope st_is_block) := ⟨rfl, rfl, rfl, by decide +kernel, rfl, by decide +kernel, by decide +kernel⟩

theorem ok_is_block {k : Nat} {n : Nat} (bl : Blt mg) (F : DefAt K mg "is_block" st_is_block ["thing", "names", "words", "sets"]) (h_is_statement : Has P w K mg base CX0 "is_statement" ["thing", "names", "words", "sets"] k (spOf K T (S_is_statement n))) : Has P w K mg base CX0 "is_block" ["thing", "names", "words", "sets"] (k + 1) (spOf K T (S_is_block n)) := by
  refine defD F sc_is_block (fun _ _ _ _ h => h.1) fun f cdv A outer s H E hr => ?_
  have hu := hu_of hr
  have hu64 := hr.units
  have nd := sc_is_block.nd
  refine ⟨_, (pss_cons (ps_if (pt_not (pt_val (pe_callB (k_isi (K := K) rfl) rfl bl.isinstance bt_isinstance (pa_cons (pv 0) (pa_cons (pe_bltn (v := .ty "tuple") rfl bl.tuple bt_tuple rfl) pa_nil)))))
        (pss_one (ps_ret pe_bl))
        pss_nil)
      (pss_one (ps_ret (pe_callB (k_all (K := K) rfl rfl) rfl bl.all bt_all (pa_cons (pe_lc (own := [("statement", 4)]) (g := gName 4) (tt := tYes) rfl nd (k_walk (K := K) rfl (pv 0)) (blkOk_by (N := N_is_block) (sc := defScope st_is_block) (by decide +kernel)) (fun _ _ _ _ _ => pg_name (i := 4) nd rfl (Or.inl rfl)) (fun _ _ _ _ _ => pts_nil) (fun _ _ _ _ _ => (pe_callH h_is_statement hr rfl pass0 (pa_cons (pv 4) (pa_cons (pv 1) (pa_cons (pv 2) (pa_cons (pv 3) pa_nil))))))) pa_nil))))), ?_⟩
  rintro ds w P X ⟨-, b, names, words, sets, rfl, hv, hd, hl, hP⟩
  walk_at "w"
  refine wi_anyT ?_
  walk_at "w"
  refine ⟨_, rfl, by rw [eB_len]; omega, fun _ => trivial, ?_, hP⟩
  intro x hx
  obtain ⟨s, rfl, h1, h2⟩ := VB_mem hx hv hd
  walk_at "w"
  exact cs0 ⟨rfl, s, names, words, sets, rfl, h1, h2, rfl, rfl⟩
abbrev st_is_blocks : Stmt := top 27
abbrev N_is_blocks : List Str := ["thing", "names", "words", "sets", "block"]
theorem sc_is_blocks : FnScope N_is_blocks ["thing", "names", "words", "sets"] (defScope st_is_blocks) := ⟨rfl, rfl, rfl, by decide +kernel, rfl, by decide +kernel, by decide +kernel⟩

theorem ok_is_blocks {k : Nat} {n : Nat} (bl : Blt mg) (F : DefAt K mg "is_blocks" st_is_blocks ["thing", "names", "words", "sets"]) (h_is_block : Has P w K mg base CX0 "is_block" ["thing", "names", "words", "sets"] k (spOf K T (S_is_block n))) : Has P w K mg base CX0 "is_blocks" ["thing", "names", "words", "sets"] (k + 1) (spOf K T (S_is_blocks n)) := by
  refine defD F sc_is_blocks (fun _ _ _ _ h => h.1) fun f cdv A outer s H E hr => ?_
  have hu := hu_of hr
  have hu64 := hr.units
  have nd := sc_is_blocks.nd
  refine ⟨_, (pss_cons (ps_if (PW.pt (pw_or (pt_not (pt_val (pe_callB (k_isi (K := K) rfl) rfl bl.isinstance bt_isinstance (pa_cons (pv 0) (pa_cons (pe_bltn (v := .ty "tuple") rfl bl.tuple bt_tuple rfl) pa_nil))))) (pw_or1 (pt_not (pt_chain op_leX op_leX pe_int (pe_callB (k_len (K := K) rfl) rfl bl.len bt_len (pa_cons (pv 0) pa_nil)) pe_int)))))
        (pss_one (ps_ret pe_bl))
        pss_nil)
      (pss_one (ps_ret (pe_callB (k_all (K := K) rfl rfl) rfl bl.all bt_all (pa_cons (pe_lc (own := [("block", 4)]) (g := gName 4) (tt := tYes) rfl nd (k_walk (K := K) rfl (pv 0)) (blkOk_by (N := N_is_blocks) (sc := defScope st_is_blocks) (by decide +kernel)) (fun _ _ _ _ _ => pg_name (i := 4) nd rfl (Or.inl rfl)) (fun _ _ _ _ _ => pts_nil) (fun _ _ _ _ _ => (pe_callH h_is_block hr rfl pass0 (pa_cons (pv 4) (pa_cons (pv 1) (pa_cons (pv 2) (pa_cons (pv 3) pa_nil))))))) pa_nil))))), ?_⟩
  rintro ds w P X ⟨-, b, names, words, sets, rfl, hv, h1, h2, hd, hP⟩
  walk_at "w"
  refine rd_le_int_t (by rw [eBs_len]; omega) ?_
  walk_at "w"
  refine rd_le_int_t (by rw [eBs_len]; omega) ?_
  walk_at "w"
  refine wi_anyT ?_
  walk_at "w"
  refine ⟨_, rfl, by rw [eBs_len]; omega, fun _ => trivial, ?_, hP⟩
  intro x hx
  obtain ⟨s, rfl, h1, h2⟩ := VBs_mem hx hv hd
  walk_at "w"
  exact cs0 ⟨rfl, s, names, words, sets, rfl, h1.2, h2, h1.1, rfl, rfl⟩
abbrev st_is_statement : Stmt := top 28
abbrev N_is_statement : List Str := ["thing", "names", "words", "sets"]
theorem sc_is_statement : FnScope N_is_statement ["thing", "names", "words", "sets"] (defScope st_is_statement) := ⟨rfl, rfl, rfl, by decide +kernel, rfl, by decide +kernel, by decide +kernel⟩

theorem ok_is_statement {k : Nat} {n : Nat} (bl : Blt mg) (F : DefAt K mg "is_statement" st_is_statement ["thing", "names", "words", "sets"]) (c_ROWS : HasC K mg "ROWS" cd_ROWS) (h_is_row_statement : Has P w K mg base CX0 "is_row_statement" ["thing", "names", "sets"] k (spOf K T S_is_row_statement)) (h_is_block : Has P w K mg base CX0 "is_block" ["thing", "names", "words", "sets"] k (spOf K T (S_is_block n))) (h_is_blocks : Has P w K mg base CX0 "is_blocks" ["thing", "names", "words", "sets"] k (spOf K T (S_is_blocks n))) : Has P w K mg base CX0 "is_statement" ["thing", "names", "words", "sets"] (k + 1) (spOf K T (S_is_statement (n + 1))) := by
  refine defD F sc_is_statement (fun _ _ _ _ h => h.1) fun f cdv A outer s H E hr => ?_
  have hu := hu_of hr
  have hu64 := hr.units
  have nd := sc_is_statement.nd
  refine ⟨_, (pss_cons (ps_if (PW.pt (pw_or (pt_not (pt_val (pe_callB (k_isi (K := K) rfl) rfl bl.isinstance bt_isinstance (pa_cons (pv 0) (pa_cons (pe_bltn (v := .ty "tuple") rfl bl.tuple bt_tuple rfl) pa_nil))))) (pw_or (pt_not (pt_chain op_leX op_leX pe_int (pe_callB (k_len (K := K) rfl) rfl bl.len bt_len (pa_cons (pv 0) pa_nil)) pe_int)) (pw_or1 (pt_not (pt_val (pe_callB (k_isi (K := K) rfl) rfl bl.isinstance bt_isinstance (pa_cons (pe_ix (k_ix (K := K) rfl hu) (pv 0) pe_int (fun _ _ => rfl)) (pa_cons (pe_bltn (v := .ty "str") rfl bl.str bt_str rfl) pa_nil)))))))))
        (pss_one (ps_ret pe_bl))
        pss_nil)
      (pss_cons (ps_if (pt_cmpR (k_eq (K := K) rfl hu64) (pe_callB (k_len (K := K) rfl) rfl bl.len bt_len (pa_cons (pv 0) pa_nil)) pe_int (nomark _))
        (pss_cons (ps_if (pt_cmpR (k_in (K := K) rfl hu) (pe_ix (k_ix (K := K) rfl hu) (pv 0) pe_int (fun _ _ => rfl)) (k_glob (K := K) rfl c_ROWS rfl) rfl)
          (pss_one (ps_ret (pe_callH h_is_row_statement hr rfl pass0 (pa_cons (pv 0) (pa_cons (pv 1) (pa_cons (pv 3) pa_nil))))))
          pss_nil)
        (pss_cons (ps_if (PW.pt (pw_or (pt_cmpR (k_ne (K := K) rfl hu64) (pe_ix (k_ix (K := K) rfl hu) (pv 0) pe_int (fun _ _ => rfl)) pe_str (nomark _)) (pw_or (pt_not (pt_val (pe_callB (k_isi (K := K) rfl) rfl bl.isinstance bt_isinstance (pa_cons (pe_ix (k_ix (K := K) rfl hu) (pv 0) pe_int (fun _ _ => rfl)) (pa_cons (pe_bltn (v := .ty "str") rfl bl.str bt_str rfl) pa_nil))))) (pw_or1 (pt_cmpR (k_notIn (K := K) rfl hu) (pe_ix (k_ix (K := K) rfl hu) (pv 0) pe_int (fun _ _ => rfl)) (pv 1) rfl)))))
          (pss_one (ps_ret pe_bl))
          pss_nil)
        (pss_one (ps_ret (pe_callH h_is_block hr rfl pass0 (pa_cons (pe_ix (k_ix (K := K) rfl hu) (pv 0) pe_int (fun _ _ => rfl)) (pa_cons (pv 1) (pa_cons (pv 2) (pa_cons pe_bl pa_nil)))))))))
        pss_nil)
      (pss_cons (ps_if (pt_cmpR (k_eq (K := K) rfl hu64) (pe_ix (k_ix (K := K) rfl hu) (pv 0) pe_int (fun _ _ => rfl)) pe_str (nomark _))
        (pss_one (ps_ret (pe_and (pe_callB (k_isi (K := K) rfl) rfl bl.isinstance bt_isinstance (pa_cons (pe_ix (k_ix (K := K) rfl hu) (pv 0) pe_int (fun _ _ => rfl)) (pa_cons (pe_bltn (v := .ty "str") rfl bl.str bt_str rfl) pa_nil))) (pe_one (pe_cmpR (k_in (K := K) rfl hu) (pe_ix (k_ix (K := K) rfl hu) (pv 0) pe_int (fun _ _ => rfl)) (pv 2) rfl)))))
        pss_nil)
      (pss_cons (ps_if (pt_cmpR (k_in (K := K) rfl hu) (pe_ix (k_ix (K := K) rfl hu) (pv 0) pe_int (fun _ _ => rfl)) (pe_tup (pa_cons pe_str (pa_cons pe_str pa_nil))) rfl)
        (pss_one (ps_ret (pe_callH h_is_blocks hr rfl pass0 (pa_cons (pe_ix (k_ix (K := K) rfl hu) (pv 0) pe_int (fun _ _ => rfl)) (pa_cons (pv 1) (pa_cons (pv 2) (pa_cons (pv 3) pa_nil)))))))
        pss_nil)
      (pss_one (ps_ret pe_bl)))))), ?_⟩
  rintro ds w P X ⟨-, s, names, words, sets, rfl, hv, hd, hP⟩
  cases s with
  | row r =>
    cases r with
    | add x ts =>
      walk_at "w"
      exact cs0 ⟨rfl, .add x ts, names, sets, rfl, hv, hP⟩
    | lift x ts =>
      walk_at "w"
      exact cs0 ⟨rfl, .lift x ts, names, sets, rfl, hv, hP⟩
    | set x ts =>
      walk_at "w"
      exact cs0 ⟨rfl, .set x ts, names, sets, rfl, hv, hP⟩
  | loop x b =>
    obtain ⟨h1, h2, h3⟩ := hv
    have hd' : dB b + 1 < n + 1 := hd
    walk_at "w"
    refine rd_notin_tup_f rfl h1 ?_
    walk_at "w"
    exact cs0 ⟨rfl, b, _, _, _, rfl, h3, by omega, h2, hP⟩
  | alt o bs =>
    obtain ⟨h1, h2, h3⟩ := hv
    have hd' : dBs bs + 1 < n + 1 := hd
    cases o with
    | true =>
      walk_at "w"
      exact cs0 ⟨rfl, bs, _, _, _, rfl, h3, h1, h2, by omega, hP⟩
    | false =>
      walk_at "w"
      exact cs0 ⟨rfl, bs, _, _, _, rfl, h3, h1, h2, by omega, hP⟩
  | call x =>
    walk_at "w"
    refine rd_in_lst rfl ?_
    rw [decide_eq_true (show x ∈ words from hv)]
    exact hP
end
end Hw
/-! HwF -/
namespace Hw
structure Ms where
  a : Int
  b : Int
  c : Int
  d : Int
  e : Int
  f : Int
def eM (m : Ms) : D := .tup [.int m.a, .int m.b, .int m.c, .int m.d, .int m.e, .int m.f]
def imax (i j : Int) : Int := if j > i then j else i
def Ms.add (m p : Ms) : Ms := ⟨m.a + p.a, m.b + p.b, imax m.c p.c, imax m.d p.d, m.e * p.e, imax m.f p.f⟩
def ms0 : Ms := ⟨0, 0, 0, 0, 1, 1⟩
def joinM (ps : List Ms) : Ms := ps.foldl Ms.add ms0
section
variable (beGr : Str → Ms)
mutual
def mS : Stm → Ms
  | .row _ => ⟨1, 1, 0, 0, 1, 1⟩
  | .call w => beGr w
  | .loop _ b => ⟨(joinM (mL b)).a + 1, (joinM (mL b)).b, (joinM (mL b)).c + 1, (joinM (mL b)).d + 1, 1, imax (joinM (mL b)).e (joinM (mL b)).f⟩
  | .alt o bs => ⟨(joinM (mLs bs)).a + 1, (joinM (mLs bs)).b, (joinM (mLs bs)).c + 1, (joinM (mLs bs)).d, if o then (joinM (mLs bs)).e * (if bs.len = 2 then 2 else 6) else ((mLs bs).map Ms.e).sum, (joinM (mLs bs)).f⟩
def mL : Blk → List Ms
  | .nil => []
  | .cons s b => mS s :: mL b
def mLs : Bls → List Ms
  | .nil => []
  | .cons b bs => joinM (mL b) :: mLs bs
end
def Bd (i : Int) : Prop := -(2 ^ 64) < i ∧ i < 2 ^ 64
mutual
/-- the measures of what is called are known, and the numbers of ways are not great -/
def KS (kvs : List (Str × D)) : Stm → Prop
  | .row _ => True
  | .call w => lk kvs w = some (eM (beGr w))
  | .loop _ b => b.len ≤ 40 ∧ KB kvs b
  | .alt _ bs => 2 ≤ bs.len ∧ bs.len ≤ 3 ∧ KBs kvs bs
def KB (kvs : List (Str × D)) : Blk → Prop
  | .nil => True
  | .cons s b => (KS kvs s ∧ Bd (mS beGr s).e) ∧ KB kvs b
def KBs (kvs : List (Str × D)) : Bls → Prop
  | .nil => True
  | .cons b bs => (b.len ≤ 40 ∧ KB kvs b ∧ Bd (joinM (mL beGr b)).e) ∧ KBs kvs bs
end
end
theorem mLs_len (beGr : Str → Ms) : ∀ bs : Bls, (mLs beGr bs).length = bs.len
  | .nil => rfl
  | .cons b bs => by show (mLs beGr bs).length + 1 = bs.len + 1; rw [mLs_len beGr bs]
def S_joined : DSpec := fun ds w P _ => ds.length = 1 ∧ ∃ ps : List Ms, ds = [.lst (ps.map eM)] ∧ (∀ p ∈ ps, Bd p.e) ∧ P (eM (joinM ps)) w
def S_statement_measure (n : Nat) : DSpec := fun ds w P _ => ds.length = 2 ∧ ∃ beGr s p kvs, ds = [eS s, .adr p] ∧ w = [(p, .dct kvs)] ∧ KS beGr kvs s ∧ dS s < n ∧ P (eM (mS beGr s)) w
def S_measure (n : Nat) : DSpec := fun ds w P _ => ds.length = 2 ∧ ∃ beGr b p kvs, ds = [.tup (eB b), .adr p] ∧ w = [(p, .dct kvs)] ∧ KB beGr kvs b ∧ dB b < n ∧ b.len ≤ 40 ∧ P (eM (joinM (mL beGr b))) w
section
variable {P : Program} {w : World} {K : PySem.W.Frag} {mg : Str → Option Value} {base : Heap} {T : Addr}
abbrev st_joined : Stmt := top 30
abbrev N_joined : List Str := ["parts", "statements", "rows", "deep", "loops", "ways", "loop_ways", "part"]
theorem sc_joined : FnScope N_joined ["parts"] (defScope st_joined) := ⟨rfl, rfl, rfl, by decide +kernel, rfl, by decide +kernel, by decide +kernel⟩

theorem ok_joined {k : Nat} (bl : Blt mg) (F : DefAt K mg "joined" st_joined ["parts"]) : Has P w K mg base CX0 "joined" ["parts"] (k + 1) (spOf K T S_joined) := by
  refine defD F sc_joined (fun _ _ _ _ h => h.1) fun f cdv A outer s H E hr => ?_
  have hu := hu_of hr
  have hu64 := hr.units
  have nd := sc_joined.nd
  refine ⟨_, (pss_cons (ps_asg (pe_tup (pa_cons pe_int (pa_cons pe_int (pa_cons pe_int (pa_cons pe_int (pa_cons pe_int (pa_cons pe_int pa_nil))))))) (k_tup (K := K) rfl rfl (pgs_cons (pg_name (i := 1) nd rfl (Or.inl rfl)) (pgs_cons (pg_name (i := 2) nd rfl (Or.inl rfl)) (pgs_cons (pg_name (i := 3) nd rfl (Or.inl rfl)) (pgs_cons (pg_name (i := 4) nd rfl (Or.inl rfl)) (pgs_cons (pg_name (i := 5) nd rfl (Or.inl rfl)) (pgs_cons (pg_name (i := 6) nd rfl (Or.inl rfl)) pgs_nil))))))))
      (pss_cons (ps_for PassesOwn.never rfl (k_walk (K := K) rfl (pv 0)) (pg_name (i := 7) nd rfl (Or.inl rfl))
        (pss_cons (ps_par (i := 1) (j := 2) rfl nd rfl rfl (by decide) rfl rfl (pa_cons (pe_op (k_plus (K := K) rfl) (pv 1) (pe_ix (k_ix (K := K) rfl hu) (pv 7) pe_int (fun _ _ => rfl))) (pa_cons (pe_op (k_plus (K := K) rfl) (pv 2) (pe_ix (k_ix (K := K) rfl hu) (pv 7) pe_int (fun _ _ => rfl))) pa_nil)) rfl)
        (pss_cons (ps_par (i := 3) (j := 4) rfl nd rfl rfl (by decide) rfl rfl (pa_cons (pe_callB (call_max2 rfl) rfl bl.max bt_max (pa_cons (pv 3) (pa_cons (pe_ix (k_ix (K := K) rfl hu) (pv 7) pe_int (fun _ _ => rfl)) pa_nil))) (pa_cons (pe_callB (call_max2 rfl) rfl bl.max bt_max (pa_cons (pv 4) (pa_cons (pe_ix (k_ix (K := K) rfl hu) (pv 7) pe_int (fun _ _ => rfl)) pa_nil))) pa_nil)) rfl)
        (pss_one (ps_par (i := 5) (j := 6) rfl nd rfl rfl (by decide) rfl rfl (pa_cons (pe_op op_mulX (pv 5) (pe_ix (k_ix (K := K) rfl hu) (pv 7) pe_int (fun _ _ => rfl))) (pa_cons (pe_callB (call_max2 rfl) rfl bl.max bt_max (pa_cons (pv 6) (pa_cons (pe_ix (k_ix (K := K) rfl hu) (pv 7) pe_int (fun _ _ => rfl)) pa_nil))) pa_nil)) rfl)))))
      (pss_one (ps_ret (pe_tup (pa_cons (pv 1) (pa_cons (pv 2) (pa_cons (pv 3) (pa_cons (pv 4) (pa_cons (pv 5) (pa_cons (pv 6) pa_nil))))))))))), ?_⟩
  rintro ds w P X ⟨-, ps, rfl, hb, hP⟩
  walk_at "w"
  refine wi_anyL ?_
  walk_at "w"
  refine ⟨_, .inl rfl, fun _ => trivial, ?_⟩
  refine turns_ind (A := Ms × List Ms) (fun s ds rhGr w' => ds = s.2.map eM ∧ (∀ p ∈ s.2, Bd p.e) ∧ joinM ps = s.2.foldl Ms.add s.1 ∧ (∃ pv, rhGr = [some (.lst (ps.map eM)), some (.int s.1.a), some (.int s.1.b), some (.int s.1.c), some (.int s.1.d), some (.int s.1.e), some (.int s.1.f), pv]) ∧ w' = w) ?_ ?_ (ms0, ps) ⟨rfl, hb, rfl, ⟨none, rfl⟩, rfl⟩
  · rintro ⟨m, rest⟩ rhGr w' ⟨hd, hb, hj, ⟨pv, rfl⟩, rfl⟩
    cases rest with
    | cons p rest => cases hd
    | nil =>
      walk_at "w"
      have hj' : joinM ps = m := hj
      rw [hj'] at hP
      exact hP
  · rintro ⟨m, rest⟩ x xs rhGr w' ⟨hd, hb, hj, ⟨pv, rfl⟩, rfl⟩
    cases rest with
    | nil => cases hd
    | cons p rest =>
      obtain ⟨rfl, rfl⟩ := List.cons.inj hd
      have hbp := hb p (by simp)
      walk_at "w"
      refine rd_mul (.inl (.inr hbp)) ?_
      walk_at "w"
      exact ⟨(m.add p, rest), rfl, fun q hq => hb q (List.mem_cons_of_mem _ hq), hj, ⟨_, rfl⟩, rfl⟩
theorem mL_len (beGr : Str → Ms) : ∀ b : Blk, (mL beGr b).length = b.len
  | .nil => rfl
  | .cons s b => by show (mL beGr b).length + 1 = b.len + 1; rw [mL_len beGr b]
theorem KB_get {beGr : Str → Ms} {kvs : List (Str × D)} {n : Nat} : ∀ {b : Blk} {i : Nat} {x : D}, (eB b)[i]? = some x → KB beGr kvs b → dB b < n → ∃ s, x = eS s ∧ KS beGr kvs s ∧ dS s < n ∧ ((mL beGr b).map eM)[i]? = some (eM (mS beGr s))
  | .nil, i, x, h, _, _ => by cases h
  | .cons s b, 0, x, h, v, d => by
    have v' : (KS beGr kvs s ∧ Bd (mS beGr s).e) ∧ KB beGr kvs b := v
    have d' : max (dS s) (dB b) < n := d
    cases h
    exact ⟨s, rfl, v'.1.1, by omega, rfl⟩
  | .cons s b, i + 1, x, h, v, d => by
    have v' : (KS beGr kvs s ∧ Bd (mS beGr s).e) ∧ KB beGr kvs b := v
    have d' : max (dS s) (dB b) < n := d
    exact KB_get (b := b) (i := i) h v'.2 (by omega)
theorem KBs_get {beGr : Str → Ms} {kvs : List (Str × D)} {n : Nat} : ∀ {b : Bls} {i : Nat} {x : D}, (eBs b)[i]? = some x → KBs beGr kvs b → dBs b < n → ∃ s, x = .tup (eB s) ∧ KB beGr kvs s ∧ dB s < n ∧ s.len ≤ 40 ∧ ((mLs beGr b).map eM)[i]? = some (eM (joinM (mL beGr s)))
  | .nil, i, x, h, _, _ => by cases h
  | .cons s b, 0, x, h, v, d => by
    have v' : (s.len ≤ 40 ∧ KB beGr kvs s ∧ Bd (joinM (mL beGr s)).e) ∧ KBs beGr kvs b := v
    have d' : max (dB s) (dBs b) < n := d
    cases h
    exact ⟨s, rfl, v'.1.2.1, by omega, v'.1.1, rfl⟩
  | .cons s b, i + 1, x, h, v, d => by
    have v' : (s.len ≤ 40 ∧ KB beGr kvs s ∧ Bd (joinM (mL beGr s)).e) ∧ KBs beGr kvs b := v
    have d' : max (dB s) (dBs b) < n := d
    exact KBs_get (b := b) (i := i) h v'.2 (by omega)
theorem KB_bd {beGr : Str → Ms} {kvs : List (Str × D)} : ∀ {b : Blk}, KB beGr kvs b → ∀ p ∈ mL beGr b, Bd p.e
  | .nil, _, p, h => by cases h
  | .cons s b, v, p, h => by
    have v' : (KS beGr kvs s ∧ Bd (mS beGr s).e) ∧ KB beGr kvs b := v
    rcases List.mem_cons.mp (show p ∈ mS beGr s :: mL beGr b from h) with rfl | h
    · exact v'.1.2
    · exact KB_bd v'.2 p h
theorem KBs_bd {beGr : Str → Ms} {kvs : List (Str × D)} : ∀ {b : Bls}, KBs beGr kvs b → ∀ p ∈ mLs beGr b, Bd p.e
  | .nil, _, p, h => by cases h
  | .cons s b, v, p, h => by
    have v' : (s.len ≤ 40 ∧ KB beGr kvs s ∧ Bd (joinM (mL beGr s)).e) ∧ KBs beGr kvs b := v
    rcases List.mem_cons.mp (show p ∈ joinM (mL beGr s) :: mLs beGr b from h) with rfl | h
    · exact v'.1.2.2
    · exact KBs_bd v'.2 p h
abbrev st_measure : Stmt := top 32
abbrev N_measure : List Str := ["block", "bodies", "statement"]
theorem sc_measure : FnScope N_measure ["block", "bodies"] (defScope st_measure) := ⟨rfl, rfl, rfl, by decide +kernel, rfl, by decide +kernel, by decide +kernel⟩

theorem ok_measure {k : Nat} {n : Nat} (bl : Blt mg) (F : DefAt K mg "measure" st_measure ["block", "bodies"]) (h_joined : Has P w K mg base CX0 "joined" ["parts"] k (spOf K T S_joined)) (h_statement_measure : Has P w K mg base CX0 "statement_measure" ["statement", "bodies"] k (spOf K T (S_statement_measure n))) : Has P w K mg base CX0 "measure" ["block", "bodies"] (k + 1) (spOf K T (S_measure n)) := by
  refine defD F sc_measure (fun _ _ _ _ h => h.1) fun f cdv A outer s H E hr => ?_
  have hu := hu_of hr
  have hu64 := hr.units
  have nd := sc_measure.nd
  refine ⟨_, (pss_one (ps_ret (pe_callH h_joined hr rfl pass0 (pa_cons (pe_lc (own := [("statement", 2)]) (g := gName 2) (tt := tYes) rfl nd (k_walk (K := K) rfl (pv 0)) (blkOk_by (N := N_measure) (sc := defScope st_measure) (by decide +kernel)) (fun _ _ _ _ _ => pg_name (i := 2) nd rfl (Or.inl rfl)) (fun _ _ _ _ _ => pts_nil) (fun _ _ _ _ _ => (pe_callH h_statement_measure hr rfl pass0 (pa_cons (pv 2) (pa_cons (pv 1) pa_nil))))) pa_nil)))), ?_⟩
  rintro ds w P X ⟨-, beGr, b, p, kvs, rfl, rfl, hv, hd, hl, hP⟩
  walk_at "w"
  refine we_lc (wi_anyT ?_)
  walk_at "w"
  refine ⟨_, rfl, (mL beGr b).map eM, by rw [List.length_map, mL_len, eB_len], by rw [eB_len]; omega, fun _ => trivial, ?_, ?_⟩
  · intro i x hx
    obtain ⟨s, rfl, h1, h2, h3⟩ := KB_get hx hv hd
    walk_at "w"
    exact csW ⟨rfl, beGr, s, p, kvs, rfl, rfl, h1, h2, h3, rfl⟩
  · walk_at "w"
    exact cs0 ⟨rfl, _, rfl, KB_bd hv, hP⟩
abbrev st_statement_measure : Stmt := top 31
abbrev N_statement_measure : List Str := ["statement", "bodies", "word", "inner", "parts", "block", "ways", "part"]
theorem sc_statement_measure : FnScope N_statement_measure ["statement", "bodies"] (defScope st_statement_measure) := ⟨rfl, rfl, rfl, by decide +kernel, rfl, by decide +kernel, by decide +kernel⟩

theorem ok_statement_measure {k : Nat} {n : Nat} (bl : Blt mg) (F : DefAt K mg "statement_measure" st_statement_measure ["statement", "bodies"]) (c_ROWS : HasC K mg "ROWS" cd_ROWS) (h_measure : Has P w K mg base CX0 "measure" ["block", "bodies"] k (spOf K T (S_measure n))) (h_joined : Has P w K mg base CX0 "joined" ["parts"] k (spOf K T S_joined)) : Has P w K mg base CX0 "statement_measure" ["statement", "bodies"] (k + 1) (spOf K T (S_statement_measure (n + 1))) := by
  refine defD F sc_statement_measure (fun _ _ _ _ h => h.1) fun f cdv A outer s H E hr => ?_
  have hu := hu_of hr
  have hu64 := hr.units
  have nd := sc_statement_measure.nd
  refine ⟨_, (pss_cons (ps_set (i := 2) nd rfl (Or.inl rfl) (pe_ix (k_ix (K := K) rfl hu) (pv 0) pe_int (fun _ _ => rfl)))
      (pss_cons (ps_if (pt_cmpR (k_in (K := K) rfl hu) (pv 2) (k_glob (K := K) rfl c_ROWS rfl) rfl)
        (pss_one (ps_ret (pe_tup (pa_cons pe_int (pa_cons pe_int (pa_cons pe_int (pa_cons pe_int (pa_cons pe_int (pa_cons pe_int pa_nil)))))))))
        pss_nil)
      (pss_cons (ps_if (pt_cmpR (k_eq (K := K) rfl hu64) (pv 2) pe_str (nomark _))
        (pss_one (ps_ret (pe_ix (k_ix (K := K) rfl hu) (pv 1) (pe_ix (k_ix (K := K) rfl hu) (pv 0) pe_int (fun _ _ => rfl)) (fun _ _ => rfl))))
        pss_nil)
      (pss_cons (ps_if (pt_cmpR (k_eq (K := K) rfl hu64) (pv 2) pe_str (nomark _))
        (pss_cons (ps_set (i := 3) nd rfl (Or.inl rfl) (pe_callH h_measure hr rfl pass0 (pa_cons (pe_ix (k_ix (K := K) rfl hu) (pv 0) pe_int (fun _ _ => rfl)) (pa_cons (pv 1) pa_nil))))
        (pss_one (ps_ret (pe_tup (pa_cons (pe_op (k_plus (K := K) rfl) (pe_ix (k_ix (K := K) rfl hu) (pv 3) pe_int (fun _ _ => rfl)) pe_int) (pa_cons (pe_ix (k_ix (K := K) rfl hu) (pv 3) pe_int (fun _ _ => rfl)) (pa_cons (pe_op (k_plus (K := K) rfl) (pe_ix (k_ix (K := K) rfl hu) (pv 3) pe_int (fun _ _ => rfl)) pe_int) (pa_cons (pe_op (k_plus (K := K) rfl) (pe_ix (k_ix (K := K) rfl hu) (pv 3) pe_int (fun _ _ => rfl)) pe_int) (pa_cons pe_int (pa_cons (pe_callB (call_max2 rfl) rfl bl.max bt_max (pa_cons (pe_ix (k_ix (K := K) rfl hu) (pv 3) pe_int (fun _ _ => rfl)) (pa_cons (pe_ix (k_ix (K := K) rfl hu) (pv 3) pe_int (fun _ _ => rfl)) pa_nil))) pa_nil))))))))))
        pss_nil)
      (pss_cons (ps_setLc (i := 4) (own := [("block", 5)]) (g := gName 5) (tt := tYes) rfl nd rfl rfl (sw_true rfl rfl rfl (by decide +kernel)) (k_walk (K := K) rfl (pe_ix (k_ix (K := K) rfl hu) (pv 0) pe_int (fun _ _ => rfl))) (blkOk_by (N := N_statement_measure) (sc := defScope st_statement_measure) (by decide +kernel)) (fun _ _ _ _ _ => pg_name (i := 5) nd rfl (Or.inl rfl)) (fun _ _ _ _ _ => pts_nil) (fun _ _ _ _ _ => (pe_callH h_measure hr rfl pass0 (pa_cons (pv 5) (pa_cons (pv 1) pa_nil)))))
      (pss_cons (ps_set (i := 3) nd rfl (Or.inl rfl) (pe_callH h_joined hr rfl pass0 (pa_cons (pv 4) pa_nil)))
      (pss_cons (ps_set (i := 6) nd rfl (Or.inl rfl) (pe_callB (k_sum (K := K) rfl rfl) rfl bl.sum bt_sum (pa_cons (pe_lc (own := [("part", 7)]) (g := gName 7) (tt := tYes) rfl nd (k_walk (K := K) rfl (pv 4)) (blkOk_by (N := N_statement_measure) (sc := defScope st_statement_measure) (by decide +kernel)) (fun _ _ _ _ _ => pg_name (i := 7) nd rfl (Or.inl rfl)) (fun _ _ _ _ _ => pts_nil) (fun _ _ _ _ _ => (pe_ix (k_ix (K := K) rfl hu) (pv 7) pe_int (fun _ _ => rfl)))) pa_nil)))
      (pss_cons (ps_if (pt_cmpR (k_eq (K := K) rfl hu64) (pv 2) pe_str (nomark _))
        (pss_one (ps_set (i := 6) nd rfl (Or.inl rfl) (pe_op op_mulX (pe_ix (k_ix (K := K) rfl hu) (pv 3) pe_int (fun _ _ => rfl)) (pe_ix (k_ix (K := K) rfl hu) (pe_tup (pa_cons pe_int (pa_cons pe_int pa_nil))) (pe_op op_sub (pe_callB (k_len (K := K) rfl) rfl bl.len bt_len (pa_cons (pv 4) pa_nil)) pe_int) (fun _ _ => rfl)))))
        pss_nil)
      (pss_one (ps_ret (pe_tup (pa_cons (pe_op (k_plus (K := K) rfl) (pe_ix (k_ix (K := K) rfl hu) (pv 3) pe_int (fun _ _ => rfl)) pe_int) (pa_cons (pe_ix (k_ix (K := K) rfl hu) (pv 3) pe_int (fun _ _ => rfl)) (pa_cons (pe_op (k_plus (K := K) rfl) (pe_ix (k_ix (K := K) rfl hu) (pv 3) pe_int (fun _ _ => rfl)) pe_int) (pa_cons (pe_ix (k_ix (K := K) rfl hu) (pv 3) pe_int (fun _ _ => rfl)) (pa_cons (pv 6) (pa_cons (pe_ix (k_ix (K := K) rfl hu) (pv 3) pe_int (fun _ _ => rfl)) pa_nil))))))))))))))))), ?_⟩
  rintro ds w P X ⟨-, beGr, s, p, kvs, rfl, rfl, hv, hd, hP⟩
  cases s with
  | row r =>
    cases r with
    | add x ts => walk_at "w"; exact hP
    | lift x ts => walk_at "w"; exact hP
    | set x ts => walk_at "w"; exact hP
  | call x =>
    walk_at "w"
    refine rd_ix_dctO 0 rfl hv ?_
    exact hP
  | loop x b =>
    have hd' : dB b + 1 < n + 1 := hd
    walk_at "w"
    refine csW ⟨rfl, beGr, b, p, kvs, rfl, rfl, hv.2, by omega, hv.1, ?_⟩
    walk_at "w"
    exact hP
  | alt o bs =>
    have hd' : dBs bs + 1 < n + 1 := hd
    obtain ⟨h1, h2, h3⟩ := hv
    cases o with
    | true =>
      walk_at "w"
      refine we_lc (wi_anyT ?_)
      walk_at "w"
      refine ⟨_, rfl, (mLs beGr bs).map eM, by rw [List.length_map, mLs_len, eBs_len], by rw [eBs_len]; omega, fun _ => trivial, ?_, ?_⟩
      · intro i x hx
        obtain ⟨b, rfl, g1, g2, g3, g4⟩ := KBs_get hx h3 (show dBs bs < n by omega)
        walk_at "w"
        exact csW ⟨rfl, beGr, b, p, kvs, rfl, rfl, g1, g2, g3, g4, rfl⟩
      · walk_at "w"
        refine cs0 ⟨rfl, _, rfl, KBs_bd h3, ?_⟩
        walk_at "w"
        refine we_lcM (fun d => match d with | .tup ds => ds.getD 4 .non | _ => .non) (wi_anyL ?_)
        walk_at "w"
        refine ⟨_, .inl rfl, by rw [List.length_map, mLs_len]; omega, fun _ => trivial, ?_, ?_⟩
        · intro x hx
          obtain ⟨m, _, rfl⟩ := List.mem_map.mp hx
          walk_at "w"
          exact ⟨rfl, rfl⟩
        · refine wa_nil (rc_sum (ns := (mLs beGr bs).map Ms.e) (by rw [List.map_map, List.map_map]; rfl) ?_)
          walk_at "w"
          rw [List.length_map, mLs_len]
          have h12 : bs.len = 2 ∨ bs.len = 3 := by omega
          rcases h12 with e | e
          · rw [e]
            refine rd_ix_tup (d := .int 2) (by decide) rfl ?_
            refine rd_mul (.inl (.inr ⟨by decide, by decide⟩)) ?_
            walk_at "w"
            have : mS beGr (.alt true bs) = ⟨(joinM (mLs beGr bs)).a + 1, (joinM (mLs beGr bs)).b, (joinM (mLs beGr bs)).c + 1, (joinM (mLs beGr bs)).d, (joinM (mLs beGr bs)).e * 2, (joinM (mLs beGr bs)).f⟩ := by simp [mS, e]
            rw [this] at hP
            exact hP
          · rw [e]
            refine rd_ix_tup (d := .int 6) (by decide) rfl ?_
            refine rd_mul (.inl (.inr ⟨by decide, by decide⟩)) ?_
            walk_at "w"
            have : mS beGr (.alt true bs) = ⟨(joinM (mLs beGr bs)).a + 1, (joinM (mLs beGr bs)).b, (joinM (mLs beGr bs)).c + 1, (joinM (mLs beGr bs)).d, (joinM (mLs beGr bs)).e * 6, (joinM (mLs beGr bs)).f⟩ := by simp [mS, e]
            rw [this] at hP
            exact hP
    | false =>
      walk_at "w"
      refine we_lc (wi_anyT ?_)
      walk_at "w"
      refine ⟨_, rfl, (mLs beGr bs).map eM, by rw [List.length_map, mLs_len, eBs_len], by rw [eBs_len]; omega, fun _ => trivial, ?_, ?_⟩
      · intro i x hx
        obtain ⟨b, rfl, g1, g2, g3, g4⟩ := KBs_get hx h3 (show dBs bs < n by omega)
        walk_at "w"
        exact csW ⟨rfl, beGr, b, p, kvs, rfl, rfl, g1, g2, g3, g4, rfl⟩
      · walk_at "w"
        refine cs0 ⟨rfl, _, rfl, KBs_bd h3, ?_⟩
        walk_at "w"
        refine we_lcM (fun d => match d with | .tup ds => ds.getD 4 .non | _ => .non) (wi_anyL ?_)
        walk_at "w"
        refine ⟨_, .inl rfl, by rw [List.length_map, mLs_len]; omega, fun _ => trivial, ?_, ?_⟩
        · intro x hx
          obtain ⟨m, _, rfl⟩ := List.mem_map.mp hx
          walk_at "w"
          exact ⟨rfl, rfl⟩
        · refine wa_nil (rc_sum (ns := (mLs beGr bs).map Ms.e) (by rw [List.map_map, List.map_map]; rfl) ?_)
          walk_at "w"
          exact hP
end
end Hw
/-! HwT -/
namespace Hw
structure Dc where
  cs : List Int
  idx : Nat
  big : Int
  st : Int
  cnt : Int
def eDc (d : Dc) : List D := [.lst (d.cs.map D.int), .int d.idx, .int d.big, .int d.st, .int d.cnt]
structure DcOk (d : Dc) : Prop where
  cs : ∀ c ∈ d.cs, 0 ≤ c
  big : 0 ≤ d.big
  st0 : 0 ≤ d.st
  st1 : d.st < 2147483647
def dw (p : Addr) (d : Dc) : Own := [(p, .lst (eDc d))]
def S_law_dice : DSpec := fun ds w P _ => ds.length = 1 ∧ ∃ is : List Int, ds = [.sq (is.map D.int)] ∧ w = [] ∧ ∀ p d, DcOk d → P (.adr p) (dw p d)
def S_law_draw : DSpec := fun ds w P _ => ds.length = 2 ∧ ∃ (p : Addr) (d : Dc) (m : Nat), ds = [.adr p, .int m] ∧ w = dw p d ∧ DcOk d ∧ 0 < m ∧ m < 1000000 ∧ ∀ (r : Nat) d', r < m → DcOk d' → P (.int r) (dw p d')
theorem bd_st {x : Int} (h0 : 0 ≤ x) (h1 : x < 2147483647) : -(2 ^ 64) < x ∧ x < 2 ^ 64 := ⟨by omega, by omega⟩
section
variable {P : Program} {w : World} {K : PySem.W.Frag} {mg : Str → Option Value} {base : Heap} {T : Addr}
abbrev st_law_dice : Stmt := top 71
abbrev N_law_dice : List Str := ["_law_script", "_law_cell"]
theorem sc_law_dice : FnScope N_law_dice ["_law_script"] (defScope st_law_dice) := ⟨rfl, rfl, rfl, by decide +kernel, rfl, by decide +kernel, by decide +kernel⟩

theorem ok_law_dice {k : Nat} (bl : Blt mg) (F : DefAt K mg "_law_dice" st_law_dice ["_law_script"]) : Has P w K mg base CX0 "_law_dice" ["_law_script"] (k + 1) (spOf K T S_law_dice) := by
  refine defD F sc_law_dice (fun _ _ _ _ h => h.1) fun f cdv A outer s H E hr => ?_
  have hu := hu_of hr
  have hu64 := hr.units
  have nd := sc_law_dice.nd
  refine ⟨_, (pss_one (ps_ret (pe_lst (pa_cons (pe_lc (own := [("_law_cell", 1)]) (g := gName 1) (tt := tYes) rfl nd (k_walk (K := K) rfl (pe_slice (k_slL (K := K) rfl) (pv 0) po_none (po_some pe_int))) (blkOk_by (N := N_law_dice) (sc := defScope st_law_dice) (by decide +kernel)) (fun _ _ _ _ _ => pg_name (i := 1) nd rfl (Or.inl rfl)) (fun _ _ _ _ _ => pts_nil) (fun _ _ _ _ _ => (pe_callB call_abs rfl bl.abs bt_abs (pa_cons (pe_callTy call_int1 rfl bl.int bt_int (pa_cons (pv 1) pa_nil)) pa_nil)))) (pa_cons pe_int (pa_cons pe_int (pa_cons pe_int (pa_cons pe_int pa_nil)))))))), ?_⟩
  rintro ds w P X ⟨-, is, rfl, rfl, hP⟩
  refine ws_ret (we_lstO (wa_cons (we_lcM (fun x => match x with | .int i => .int (if i < 0 then -i else i) | _ => .non) (wi_anyL (we_slL ?_)))))
  walk_at "w"
  refine ⟨_, .inr rfl, wo_none (wo_some ?_)⟩
  walk_at "w"
  refine ⟨63, rfl, ?_⟩
  have ec : DL.cutD (is.map D.int) none (some 63) = ((is.take 63).map D.int) := by
    unfold DL.cutD
    rw [HT.sIx_none, show (some (63 : Int)) = some ((63 : Nat) : Int) from rfl, HT.sIx_nat, List.drop_zero, List.length_map, Nat.sub_zero]
    rw [List.map_take]
    by_cases h : 63 ≤ is.length
    · rw [Nat.min_eq_left h]
    · rw [Nat.min_eq_right (by omega), List.take_of_length_le (by simp), List.take_of_length_le (by simp; omega)]
  rw [ec]
  refine ⟨_, .inl rfl, by rw [List.length_map, List.length_take]; omega, fun _ => trivial, ?_, ?_⟩
  · intro x hx
    obtain ⟨i, hi, rfl⟩ := List.mem_map.mp hx
    walk_at "w"
    exact rc_abs ⟨rfl, rfl⟩
  · walk_at "w"
    intro p
    have e1 : ((is.take 63).map D.int).map (fun x => match x with | .int i => D.int (if i < 0 then -i else i) | _ => .non) = ((is.take 63).map fun i => if i < 0 then -i else i).map D.int := by rw [List.map_map, List.map_map]; rfl
    rw [e1]
    refine hP p ⟨(is.take 63).map fun i => if i < 0 then -i else i, 0, 0, 1, 0⟩ ⟨fun c hc => ?_, Int.le_refl _, show (0 : Int) ≤ 1 by decide, show (1 : Int) < 2147483647 by decide⟩
    obtain ⟨i, _, rfl⟩ := List.mem_map.mp hc
    split <;> omega
abbrev st_law_draw : Stmt := top 72
abbrev N_law_draw : List Str := ["_law_dice_here", "_law_many", "_law_cell", "_law_drawn", "_law_number"]
theorem sc_law_draw : FnScope N_law_draw ["_law_dice_here", "_law_many"] (defScope st_law_draw) := ⟨rfl, rfl, rfl, by decide +kernel, rfl, by decide +kernel, by decide +kernel⟩

theorem ok_law_draw {k : Nat} (bl : Blt mg) (F : DefAt K mg "_law_draw" st_law_draw ["_law_dice_here", "_law_many"]) : Has P w K mg base CX0 "_law_draw" ["_law_dice_here", "_law_many"] (k + 1) (spOf K T S_law_draw) := by
  refine defD F sc_law_draw (fun _ _ _ _ h => h.1) fun f cdv A outer s H E hr => ?_
  have hu := hu_of hr
  have hu64 := hr.units
  have nd := sc_law_draw.nd
  refine ⟨_, (pss_cons (ps_if (PW.pt (pw_and (pt_cmpR (k_eq (K := K) rfl hu64) (pe_ix (k_ix (K := K) rfl hu) (pv 0) pe_int (fun _ _ => rfl)) pe_int (nomark _)) (pw_and1 (pt_cmpR (k_lt (K := K) rfl hu64) (pe_ix (k_ix (K := K) rfl hu) (pv 0) pe_int (fun _ _ => rfl)) (pe_callB (k_len (K := K) rfl) rfl bl.len bt_len (pa_cons (pe_ix (k_ix (K := K) rfl hu) (pv 0) pe_int (fun _ _ => rfl)) pa_nil)) (nomark _)))))
        (pss_cons (ps_set (i := 2) nd rfl (Or.inl rfl) (pe_ix (k_ix (K := K) rfl hu) (pe_ix (k_ix (K := K) rfl hu) (pv 0) pe_int (fun _ _ => rfl)) (pe_ix (k_ix (K := K) rfl hu) (pv 0) pe_int (fun _ _ => rfl)) (fun _ _ => rfl)))
        (pss_cons (ps_asg (pe_op (k_plus (K := K) rfl) (pe_ix (k_ix (K := K) rfl hu) (pv 0) pe_int (fun _ _ => rfl)) pe_int) (pg_sub (pv 0) pe_int (set_X hu)))
        (pss_one (ps_if (pt_cmpR op_ge (pv 2) (pe_op op_pow pe_int pe_int) (nomark _))
          (pss_one (ps_asg (pv 2) (pg_sub (pv 0) pe_int (set_X hu))))
          (pss_one (ps_asg (pe_op op_mod (pe_callTy call_int1 rfl bl.int bt_int (pa_cons (pe_op (k_plus (K := K) rfl) (pe_op (k_plus (K := K) rfl) (pe_op op_mulX (pe_ix (k_ix (K := K) rfl hu) (pv 0) pe_int (fun _ _ => rfl)) pe_int) (pe_op op_mulX (pv 2) pe_int)) (pe_ix (k_ix (K := K) rfl hu) (pv 0) pe_int (fun _ _ => rfl))) pa_nil)) pe_int) (pg_sub (pv 0) pe_int (set_X hu))))))))
        pss_nil)
      (pss_cons (ps_if (pt_cmpR op_gt (pe_ix (k_ix (K := K) rfl hu) (pv 0) pe_int (fun _ _ => rfl)) pe_int (nomark _))
        (pss_cons (ps_set (i := 3) nd rfl (Or.inl rfl) (pe_op op_mod (pe_callTy call_int1 rfl bl.int bt_int (pa_cons (pe_ix (k_ix (K := K) rfl hu) (pv 0) pe_int (fun _ _ => rfl)) pa_nil)) (pv 1)))
        (pss_cons (ps_asg (pe_op op_fdiv (pe_ix (k_ix (K := K) rfl hu) (pv 0) pe_int (fun _ _ => rfl)) (pv 1)) (pg_sub (pv 0) pe_int (set_X hu)))
        (pss_one (ps_ret (pv 3)))))
        pss_nil)
      (pss_cons (ps_asg (pe_op (k_plus (K := K) rfl) (pe_ix (k_ix (K := K) rfl hu) (pv 0) pe_int (fun _ _ => rfl)) pe_int) (pg_sub (pv 0) pe_int (set_X hu)))
      (pss_cons (ps_asg (pe_op op_mod (pe_callTy call_int1 rfl bl.int bt_int (pa_cons (pe_op (k_plus (K := K) rfl) (pe_op (k_plus (K := K) rfl) (pe_op op_mulX (pe_ix (k_ix (K := K) rfl hu) (pv 0) pe_int (fun _ _ => rfl)) pe_int) (pe_op op_mulX (pe_ix (k_ix (K := K) rfl hu) (pv 0) pe_int (fun _ _ => rfl)) pe_int)) pe_int) pa_nil)) pe_int) (pg_sub (pv 0) pe_int (set_X hu)))
      (pss_cons (ps_set (i := 4) nd rfl (Or.inl rfl) (pe_op op_mod (pe_callTy call_int1 rfl bl.int bt_int (pa_cons (pe_op op_mulX (pe_ix (k_ix (K := K) rfl hu) (pv 0) pe_int (fun _ _ => rfl)) (pe_op (k_plus (K := K) rfl) (pe_op op_fdiv (pe_ix (k_ix (K := K) rfl hu) (pv 0) pe_int (fun _ _ => rfl)) pe_int) pe_int)) pa_nil)) pe_int))
      (pss_cons (ps_set (i := 4) nd rfl (Or.inl rfl) (pe_op op_mod (pe_callTy call_int1 rfl bl.int bt_int (pa_cons (pe_op op_mulX (pv 4) (pe_op (k_plus (K := K) rfl) (pe_op op_fdiv (pv 4) pe_int) pe_int)) pa_nil)) pe_int))
      (pss_one (ps_ret (pe_op op_mod (pe_callTy call_int1 rfl bl.int bt_int (pa_cons (pe_op op_fdiv (pv 4) pe_int) pa_nil)) (pv 1)))))))))), ?_⟩
  rintro ds w P X ⟨-, p, d, m, rfl, rfl, hd, hm0, hm1, hP⟩
  obtain ⟨cs, idx, big, st, cnt⟩ := d
  obtain ⟨h1, h2, h3, h4⟩ := hd
  refine ws_seq (WS.imp (PO := fun o => ∃ idx big st v2, o = .nx [some (.adr p), some (.int m), v2, none, none] (dw p ⟨cs, idx, big, st, cnt⟩) ∧ 0 ≤ big ∧ 0 ≤ st ∧ st < 2147483647) ?_ ?_)
  · walk_at "w"
    by_cases hb : big = 0
    · refine rd_eq_int_t hb ?_
      walk_at "w"
      by_cases hi : idx < cs.length
      · refine rd_lt_int_t (by show ((idx : Nat) : Int) < ((cs.map D.int).length : Nat); rw [List.length_map]; omega) ?_
        walk_at "w"
        have hc := h1 cs[idx] (List.getElem_mem hi)
        refine rd_ix_lst (d := .int cs[idx]) (by omega) (by rw [Int.toNat_natCast, List.getElem?_map, List.getElem?_eq_getElem hi]; rfl) ?_
        walk_at "w"
        refine wg_subL ?_
        walk_at "w"
        refine ⟨p, rfl, ?_⟩
        walk_at "w"
        refine ⟨1, rfl, 0, _, rfl, Nat.le_of_ble_eq_true rfl, ?_⟩
        walk_at "w"
        refine rd_pow ⟨by decide, by decide, by decide⟩ ?_
        by_cases hc2 : (10 : Int) ^ (18 : Int).toNat ≤ cs[idx]
        · refine rd_ge_t hc2 ?_
          walk_at "w"
          refine wg_subL ?_
          walk_at "w"
          refine ⟨p, rfl, ?_⟩
          walk_at "w"
          refine ⟨2, rfl, 0, _, rfl, Nat.le_of_ble_eq_true rfl, ?_⟩
          exact ⟨idx + 1, cs[idx], st, _, rfl, hc, h3, h4⟩
        · refine rd_ge_f hc2 ?_
          walk_at "w"
          refine rd_mul (.inl (.inr ⟨by decide, by decide⟩)) ?_
          walk_at "w"
          refine rd_mul (.inl (.inr ⟨by decide, by decide⟩)) ?_
          walk_at "w"
          refine rd_mod (by decide) ?_
          refine wg_subL ?_
          walk_at "w"
          refine ⟨p, rfl, ?_⟩
          walk_at "w"
          refine ⟨3, rfl, 0, _, rfl, Nat.le_of_ble_eq_true rfl, ?_⟩
          exact ⟨idx + 1, big, _, _, rfl, h2, Int.emod_nonneg _ (by decide), Int.emod_lt_of_pos _ (by decide)⟩
      · refine rd_lt_int_f (by show ¬ ((idx : Nat) : Int) < ((cs.map D.int).length : Nat); rw [List.length_map]; omega) ?_
        walk_at "w"
        exact ⟨idx, big, st, none, rfl, h2, h3, h4⟩
    · refine rd_eq_int_f hb ?_
      walk_at "w"
      exact ⟨idx, big, st, none, rfl, h2, h3, h4⟩
  · rintro o ⟨idx, big, st, v2, rfl, h2, h3, h4⟩
    walk_at "w"
    by_cases hb : (0 : Int) < big
    · refine rd_gt_t hb ?_
      walk_at "w"
      refine rd_mod (by omega) ?_
      walk_at "w"
      refine rd_div ⟨by omega, by omega⟩ ?_
      refine wg_subL ?_
      walk_at "w"
      refine ⟨p, rfl, ?_⟩
      walk_at "w"
      refine ⟨2, rfl, 0, _, rfl, Nat.le_of_ble_eq_true rfl, ?_⟩
      walk_at "w"
      have e0 := Int.emod_nonneg big (show ((m : Nat) : Int) ≠ 0 by omega)
      have e1 := Int.emod_lt_of_pos big (show (0 : Int) < (m : Nat) by omega)
      have := hP (big % (m : Nat)).toNat ⟨cs, idx, big / (m : Nat), st, cnt⟩ (by omega) ⟨h1, Int.ediv_nonneg h2 (by omega), h3, h4⟩
      rw [Int.toNat_of_nonneg e0] at this
      exact this
    · refine rd_gt_f hb ?_
      walk_at "w"
      refine wg_subL ?_
      walk_at "w"
      refine ⟨p, rfl, ?_⟩
      walk_at "w"
      refine ⟨4, rfl, 0, _, rfl, Nat.le_of_ble_eq_true rfl, ?_⟩
      walk_at "w"
      refine rd_mul (.inl (.inr ⟨by decide, by decide⟩)) ?_
      walk_at "w"
      refine rd_mul (.inl (.inr ⟨by decide, by decide⟩)) ?_
      walk_at "w"
      refine rd_mod (by decide) ?_
      refine wg_subL ?_
      walk_at "w"
      refine ⟨p, rfl, ?_⟩
      walk_at "w"
      refine ⟨3, rfl, 0, _, rfl, Nat.le_of_ble_eq_true rfl, ?_⟩
      have s0 := Int.emod_nonneg (st * 48271 + (cnt + 1) * 7919 + 1) (show (2147483647 : Int) ≠ 0 by decide)
      have s1 := Int.emod_lt_of_pos (st * 48271 + (cnt + 1) * 7919 + 1) (show (0 : Int) < 2147483647 by decide)
      generalize hst : (st * 48271 + (cnt + 1) * 7919 + 1) % 2147483647 = st2 at s0 s1
      refine WS.own (w' := dw p ⟨cs, idx, big, st2, cnt + 1⟩) (by rw [← hst]; rfl) ?_
      walk_at "w"
      refine rd_div ⟨by decide, by decide⟩ ?_
      walk_at "w"
      refine rd_mul (.inl (.inl (bd_st s0 s1))) ?_
      walk_at "w"
      refine rd_mod (by decide) ?_
      generalize hn1 : st2 * (st2 / 1009 + 69623) % 2147483399 = n1
      have n0 : 0 ≤ n1 := by rw [← hn1]; exact Int.emod_nonneg _ (by decide)
      have n2 : n1 < 2147483399 := by rw [← hn1]; exact Int.emod_lt_of_pos _ (by decide)
      walk_at "w"
      refine rd_div ⟨by decide, by decide⟩ ?_
      walk_at "w"
      refine rd_mul (.inl (.inl ⟨by omega, by omega⟩)) ?_
      walk_at "w"
      refine rd_mod (by decide) ?_
      walk_at "w"
      refine rd_div ⟨by decide, by decide⟩ ?_
      walk_at "w"
      refine rd_mod (by omega) ?_
      generalize n1 * (n1 / 2003 + 40693) % 2147483563 / 16 = q
      have e0 := Int.emod_nonneg q (show ((m : Nat) : Int) ≠ 0 by omega)
      have e1 := Int.emod_lt_of_pos q (show (0 : Int) < (m : Nat) by omega)
      have := hP (q % (m : Nat)).toNat ⟨cs, idx, big, st2, cnt + 1⟩ (by omega) ⟨h1, h2, s0, s1⟩
      rw [Int.toNat_of_nonneg e0] at this
      exact this
end
end Hw
/-! HwX -/
namespace Hw
def Fw2 : Nat → Int
  | 0 => 1
  | 1 => 2
  | 2 => 4
  | _ => 24
theorem Fw_pos : ∀ t, 1 ≤ Fw2 t
  | 0 => by decide
  | 1 => by decide
  | 2 => by decide
  | _ + 3 => by show (1 : Int) ≤ 24; decide
theorem Fw_le : ∀ t, Fw2 t ≤ 24
  | 0 => by decide
  | 1 => by decide
  | 2 => by decide
  | _ + 3 => by show (24 : Int) ≤ 24; decide
theorem Fw_mono {a b : Nat} (h : a ≤ b) (hb : b ≤ 3) : Fw2 a ≤ Fw2 b := by
  have : ∀ b : Fin 4, ∀ a : Fin 4, a.val ≤ b.val → Fw2 a.val ≤ Fw2 b.val := by decide
  exact this ⟨b, by omega⟩ ⟨a, by omega⟩ h
theorem Fw_mul {a b : Nat} (h : a + b ≤ 3) : Fw2 a * Fw2 b ≤ Fw2 (a + b) := by
  have : ∀ a : Fin 4, ∀ b : Fin 4, a.val + b.val ≤ 3 → Fw2 a.val * Fw2 b.val ≤ Fw2 (a.val + b.val) := by decide
  exact this ⟨a, by omega⟩ ⟨b, by omega⟩ h
theorem Fw_two {t : Nat} (h : t + 1 ≤ 3) : 2 * Fw2 t ≤ Fw2 (t + 1) := by
  have : ∀ t : Fin 3, 2 * Fw2 t.val ≤ Fw2 (t.val + 1) := by decide
  exact this ⟨t, by omega⟩
/-- an entry: where it stands, its word, how often it may still be called -/
structure Ent where
  a : Addr
  w : Str
  c : Nat
structure Gs where
  d : Dc
  r0 : Nat
  r1 : Nat
  r2 : Nat
  es : List Ent
structure Cw where
  names : List Str
  words : List Str
  beGr : Str → Ms
  kvs : List (Str × D)
  q : Str → Nat
  dm : Int
def sumE (g : Ent → Int) (es : List Ent) : Int := (es.map fun e => e.c * g e).sum
def rowP (x : Cw) (s : Gs) : Int := s.r0 + sumE (fun e => (x.beGr e.w).b) s.es
def aP (x : Cw) (s : Gs) : Int := s.r0 + s.r1 + s.r2 + sumE (fun e => (x.beGr e.w).a) s.es
def sumQ (q : Str → Nat) : List Ent → Nat
  | [] => 0
  | e :: es => e.c * q e.w + sumQ q es
def tP (x : Cw) (s : Gs) : Nat := s.r1 + sumQ x.q s.es
structure EntOk (x : Cw) (en : Ent) : Prop where
  w : en.w ∈ x.words
  k : lk x.kvs en.w = some (eM (x.beGr en.w))
  a : 0 ≤ (x.beGr en.w).a
  b : 0 ≤ (x.beGr en.w).b
  c0 : 0 ≤ (x.beGr en.w).c
  c : (x.beGr en.w).c ≤ x.dm
  d : 0 ≤ (x.beGr en.w).d
  e0 : 1 ≤ (x.beGr en.w).e
  e : (x.beGr en.w).e ≤ Fw2 (x.q en.w)
  f0 : 1 ≤ (x.beGr en.w).f
  f : (x.beGr en.w).f ≤ 24
structure Ac (x : Cw) (deep loops : Nat) (s s' : Gs) (m : Ms) : Prop where
  b0 : 0 ≤ m.b
  b : m.b + rowP x s' ≤ rowP x s
  a0 : 0 ≤ m.a
  a : m.a + aP x s' ≤ aP x s
  c0 : 0 ≤ m.c
  c : m.c ≤ 3 - deep + x.dm
  d0 : 0 ≤ m.d
  d : m.d ≤ 2 - loops
  e0 : 1 ≤ m.e
  e : m.e * Fw2 (tP x s') ≤ Fw2 (tP x s)
  f0 : 1 ≤ m.f
  f : m.f ≤ 24
  t : tP x s' ≤ tP x s
theorem Ac.nil {x : Cw} {deep loops : Nat} {s : Gs} (h1 : deep ≤ 3) (h2 : loops ≤ 2) (h3 : 0 ≤ x.dm) : Ac x deep loops s s ms0 :=
  ⟨Int.le_refl _, by show 0 + _ ≤ _; omega, Int.le_refl _, by show 0 + _ ≤ _; omega, Int.le_refl _, by show (0 : Int) ≤ _; omega, Int.le_refl _, by show (0 : Int) ≤ _; omega, Int.le_refl _, by show 1 * _ ≤ _; rw [Int.one_mul]; exact Int.le_refl _, Int.le_refl _, by show (1 : Int) ≤ 24; decide, Nat.le_refl _⟩
theorem imax_le {i j k : Int} (h1 : i ≤ k) (h2 : j ≤ k) : imax i j ≤ k := by unfold imax; split <;> assumption
theorem le_imax {i j k : Int} (h1 : k ≤ i) : k ≤ imax i j := by unfold imax; split <;> omega
theorem Ac.e24 {x : Cw} {deep loops : Nat} {s s' : Gs} {m : Ms} (h : Ac x deep loops s s' m) : m.e ≤ 24 := by
  have h1 := h.e
  have h2 := Fw_le (tP x s)
  have h3 := Fw_pos (tP x s')
  have h4 := h.e0
  have : m.e * 1 ≤ m.e * Fw2 (tP x s') := Int.mul_le_mul_of_nonneg_left h3 (by omega)
  omega
theorem Ac.bd {x : Cw} {deep loops : Nat} {s s' : Gs} {m : Ms} (h : Ac x deep loops s s' m) : Bd m.e := by
  have := h.e24
  have := h.e0
  exact ⟨by omega, by omega⟩
theorem Ac.add {x : Cw} {deep loops : Nat} {s s1 s2 : Gs} {m p : Ms} (h : Ac x deep loops s s1 m) (g : Ac x deep loops s1 s2 p) : Ac x deep loops s s2 (m.add p) where
  b0 := by have := h.b0; have := g.b0; show 0 ≤ m.b + p.b; omega
  b := by have := h.b; have := g.b; show m.b + p.b + _ ≤ _; omega
  a0 := by have := h.a0; have := g.a0; show 0 ≤ m.a + p.a; omega
  a := by have := h.a; have := g.a; show m.a + p.a + _ ≤ _; omega
  c0 := le_imax h.c0
  c := imax_le h.c g.c
  d0 := le_imax h.d0
  d := imax_le h.d g.d
  e0 := by
    have h1 := h.e0
    have h2 := g.e0
    show 1 ≤ m.e * p.e
    exact Int.mul_pos (show (0 : Int) < m.e by omega) (show (0 : Int) < p.e by omega)
  e := by
    have h1 := h.e0
    show m.e * p.e * _ ≤ _
    rw [Int.mul_assoc]
    exact Int.le_trans (Int.mul_le_mul_of_nonneg_left g.e (by omega)) h.e
  f0 := le_imax h.f0
  f := imax_le h.f g.f
  t := Nat.le_trans g.t h.t
theorem joinM_snoc (ps : List Ms) (p : Ms) : joinM (ps ++ [p]) = (joinM ps).add p := by unfold joinM; rw [List.foldl_append]; rfl
/-- the product of the numbers of ways -/
def prodE : List Ms → Int
  | [] => 1
  | p :: ps => p.e * prodE ps
theorem foldl_e : ∀ (ps : List Ms) (m : Ms), (ps.foldl Ms.add m).e = m.e * prodE ps
  | [], m => by show m.e = m.e * 1; omega
  | p :: ps, m => by
    show (ps.foldl Ms.add (m.add p)).e = _
    rw [foldl_e ps]
    show m.e * p.e * prodE ps = m.e * (p.e * prodE ps)
    rw [Int.mul_assoc]
theorem joinM_e (ps : List Ms) : (joinM ps).e = prodE ps := by unfold joinM; rw [foldl_e]; show 1 * _ = _; rw [Int.one_mul]
theorem prodE_pos : ∀ {ps : List Ms}, (∀ p ∈ ps, 1 ≤ p.e) → 1 ≤ prodE ps
  | [], _ => Int.le_refl _
  | p :: ps, h => by
    have h1 := h p (by simp)
    have h2 := prodE_pos (ps := ps) fun q hq => h q (List.mem_cons_of_mem _ hq)
    exact Int.mul_pos (show (0 : Int) < p.e by omega) (show (0 : Int) < prodE ps by omega)
theorem le_mulr {a b : Int} (ha : 0 ≤ a) (hb : 1 ≤ b) : a ≤ a * b := by
  have := Int.mul_le_mul_of_nonneg_left hb ha
  rwa [Int.mul_one] at this
theorem sumE_le : ∀ {ps : List Ms}, (∀ p ∈ ps, 1 ≤ p.e) → (ps.map Ms.e).sum ≤ ps.length * prodE ps
  | [], _ => Int.le_refl _
  | p :: ps, h => by
    have h1 := h p (by simp)
    have h2 := prodE_pos (ps := ps) fun q hq => h q (List.mem_cons_of_mem _ hq)
    have h3 := sumE_le (ps := ps) fun q hq => h q (List.mem_cons_of_mem _ hq)
    have h4 : p.e ≤ p.e * prodE ps := le_mulr (by omega) h2
    have h5 : prodE ps ≤ prodE ps * p.e := le_mulr (by omega) h1
    have h6 : (ps.length : Int) * prodE ps ≤ (ps.length : Int) * (prodE ps * p.e) := Int.mul_le_mul_of_nonneg_left h5 (by omega)
    show p.e + (ps.map Ms.e).sum ≤ ((ps.length + 1 : Nat) : Int) * (p.e * prodE ps)
    rw [show ((ps.length + 1 : Nat) : Int) = (ps.length : Int) + 1 by omega, Int.add_mul, Int.one_mul, Int.mul_comm p.e]
    rw [Int.mul_comm p.e] at h4
    omega
theorem sum_posE : ∀ {ps : List Ms}, ps ≠ [] → (∀ p ∈ ps, 1 ≤ p.e) → 1 ≤ (ps.map Ms.e).sum
  | [], h, _ => absurd rfl h
  | [p], _, h => by have := h p (by simp); show 1 ≤ p.e + 0; omega
  | p :: q :: ps, _, h => by
    have h1 := h p (by simp)
    have h2 := sum_posE (ps := q :: ps) (by simp) fun r hr => h r (List.mem_cons_of_mem _ hr)
    show 1 ≤ p.e + ((q :: ps).map Ms.e).sum
    omega
theorem Ac.row {x : Cw} {deep loops : Nat} {s : Gs} (d' : Dc) (h0 : 0 < s.r0) (h1 : deep ≤ 3) (h2 : loops ≤ 2) (h3 : 0 ≤ x.dm) : Ac x deep loops s { s with r0 := s.r0 - 1, d := d' } ⟨1, 1, 0, 0, 1, 1⟩ where
  b0 := by decide
  b := by show (1 : Int) + (((s.r0 - 1 : Nat) : Int) + sumE _ s.es) ≤ (s.r0 : Int) + sumE _ s.es; omega
  a0 := by decide
  a := by show (1 : Int) + (((s.r0 - 1 : Nat) : Int) + s.r1 + s.r2 + sumE _ s.es) ≤ (s.r0 : Int) + s.r1 + s.r2 + sumE _ s.es; omega
  c0 := by decide
  c := by show (0 : Int) ≤ _; omega
  d0 := by decide
  d := by show (0 : Int) ≤ _; omega
  e0 := by decide
  e := by show 1 * Fw2 (tP x s) ≤ _; rw [Int.one_mul]; exact Int.le_refl _
  f0 := by decide
  f := by show (1 : Int) ≤ 24; decide
  t := Nat.le_refl _
theorem Ac.loop {x : Cw} {deep loops : Nat} {s s' : Gs} {m : Ms} (d' : Dc) (h : Ac x (deep + 1) (loops + 1) { s with r2 := s.r2 - 1, d := d' } s' m) (h0 : 0 < s.r2) (ht : tP x s ≤ 3) : Ac x deep loops s s' ⟨m.a + 1, m.b, m.c + 1, m.d + 1, 1, imax m.e m.f⟩ where
  b0 := h.b0
  b := h.b
  a0 := by have := h.a0; show 0 ≤ m.a + 1; omega
  a := by
    have h1 : m.a + aP x s' ≤ (s.r0 : Int) + s.r1 + ((s.r2 - 1 : Nat) : Int) + sumE _ s.es := h.a
    show m.a + 1 + aP x s' ≤ (s.r0 : Int) + s.r1 + s.r2 + sumE _ s.es
    omega
  c0 := by have := h.c0; show 0 ≤ m.c + 1; omega
  c := by have := h.c; show m.c + 1 ≤ _; omega
  d0 := by have := h.d0; show 0 ≤ m.d + 1; omega
  d := by have := h.d; show m.d + 1 ≤ _; omega
  e0 := Int.le_refl _
  e := by show 1 * _ ≤ _; rw [Int.one_mul]; exact Fw_mono h.t ht
  f0 := le_imax h.e0
  f := imax_le h.e24 h.f
  t := h.t
theorem Ac.alt {x : Cw} {deep loops : Nat} {s s' : Gs} {ps : List Ms} (o : Bool) (d' : Dc) (h : Ac x (deep + 1) loops { s with r1 := s.r1 - 1, d := d' } s' (joinM ps)) (h0 : 0 < s.r1) (ht : tP x s ≤ 3) (hp : ∀ p ∈ ps, 1 ≤ p.e) (hl : ps.length = 2 ∨ (ps.length = 3 ∧ s.r1 = 3)) :
    Ac x deep loops s s' ⟨(joinM ps).a + 1, (joinM ps).b, (joinM ps).c + 1, (joinM ps).d, if o then (joinM ps).e * (if ps.length = 2 then 2 else 6) else (ps.map Ms.e).sum, (joinM ps).f⟩ := by
  have he := joinM_e ps
  have hpp := prodE_pos hp
  have hsl := sumE_le hp
  have hsp := sum_posE (ps := ps) (by rintro rfl; simp at hl) hp
  have hts : tP x s = tP x { s with r1 := s.r1 - 1, d := d' } + 1 := by show s.r1 + sumQ x.q s.es = s.r1 - 1 + sumQ x.q s.es + 1; omega
  have hE := h.e
  have hFp := Fw_pos (tP x s')
  generalize hT1 : tP x { s with r1 := s.r1 - 1, d := d' } = T1 at hts hE
  have key : ∀ E : Int, 1 ≤ E → (∃ N : Int, E ≤ N * prodE ps ∧ N * Fw2 T1 ≤ Fw2 (tP x s) ∧ 0 ≤ N) → E * Fw2 (tP x s') ≤ Fw2 (tP x s) := by
    rintro E h1 ⟨N, h2, h3, h4⟩
    have g1 : E * Fw2 (tP x s') ≤ N * prodE ps * Fw2 (tP x s') := Int.mul_le_mul_of_nonneg_right h2 (by omega)
    rw [Int.mul_assoc] at g1
    have g2 : N * (prodE ps * Fw2 (tP x s')) ≤ N * Fw2 T1 := Int.mul_le_mul_of_nonneg_left (by rw [← he]; exact hE) h4
    omega
  have hN : ∃ N : Int, (N = if ps.length = 2 then 2 else 6) ∧ (ps.length : Int) ≤ N ∧ N * Fw2 T1 ≤ Fw2 (tP x s) := by
    rcases hl with h2 | ⟨h3, h4⟩
    · refine ⟨2, by rw [if_pos h2], by omega, ?_⟩
      rw [hts]
      exact Fw_two (by omega)
    · refine ⟨6, by rw [if_neg (by omega)], by omega, ?_⟩
      have hs : s.r1 ≤ tP x s := by unfold tP; omega
      have hT : tP x s = 3 := by omega
      have hT2 : T1 = 2 := by omega
      rw [hT, hT2]
      decide
  obtain ⟨N, hN1, hN2, hN3⟩ := hN
  rw [← hN1]
  have hNl : 1 ≤ N := by rcases hl with h2 | ⟨h3, _⟩ <;> omega
  have hE1 : 1 ≤ (if o then (joinM ps).e * N else (ps.map Ms.e).sum) := by
    cases o with
    | true =>
      simp only [if_true]
      rw [he]
      exact Int.mul_pos (show (0 : Int) < prodE ps by omega) (show (0 : Int) < N by omega)
    | false => simpa using hsp
  refine ⟨h.b0, h.b, ?_, ?_, ?_, ?_, h.d0, h.d, hE1, ?_, h.f0, h.f, ?_⟩
  · have := h.a0; show 0 ≤ (joinM ps).a + 1; omega
  · have h1 : (joinM ps).a + aP x s' ≤ (s.r0 : Int) + ((s.r1 - 1 : Nat) : Int) + s.r2 + sumE _ s.es := h.a
    show (joinM ps).a + 1 + aP x s' ≤ (s.r0 : Int) + s.r1 + s.r2 + sumE _ s.es
    omega
  · have := h.c0; show 0 ≤ (joinM ps).c + 1; omega
  · have := h.c; show (joinM ps).c + 1 ≤ _; omega
  · refine key _ hE1 ⟨N, ?_, hN3, by omega⟩
    cases o with
    | true => simp only [if_true]; rw [he, Int.mul_comm]; exact Int.le_refl _
    | false =>
      simp only [Bool.false_eq_true, if_false]
      exact Int.le_trans hsl (Int.mul_le_mul_of_nonneg_right hN2 (by omega))
  · have := h.t
    rw [hT1] at this
    omega
theorem sumE_set {g : Ent → Int} (hg : ∀ (en : Ent) (c : Nat), g { en with c := c } = g en) : ∀ {es : List Ent} {i : Nat} {en : Ent}, es[i]? = some en → 0 < en.c → sumE g (es.set i { en with c := en.c - 1 }) + g en = sumE g es
  | [], i, en, h, _ => by simp at h
  | e :: es, 0, en, h, h0 => by
    have h' : e = en := by simpa using h
    subst h'
    show ((e.c - 1 : Nat) : Int) * g { e with c := e.c - 1 } + sumE g es + g e = (e.c : Int) * g e + sumE g es
    rw [hg, show ((e.c - 1 : Nat) : Int) = (e.c : Int) - 1 by omega, Int.sub_mul, Int.one_mul]
    omega
  | e :: es, i + 1, en, h, h0 => by
    have := sumE_set hg (es := es) (i := i) (by simpa using h) h0
    show (e.c : Int) * g e + sumE g (es.set i _) + g en = (e.c : Int) * g e + sumE g es
    omega
theorem sumQ_set {q : Str → Nat} : ∀ {es : List Ent} {i : Nat} {en : Ent}, es[i]? = some en → 0 < en.c → sumQ q (es.set i { en with c := en.c - 1 }) + q en.w = sumQ q es
  | [], i, en, h, _ => by simp at h
  | e :: es, 0, en, h, h0 => by
    have h' : e = en := by simpa using h
    subst h'
    show (e.c - 1) * q e.w + sumQ q es + q e.w = e.c * q e.w + sumQ q es
    obtain ⟨c, hc⟩ : ∃ c, e.c = c + 1 := ⟨e.c - 1, by omega⟩
    rw [hc, Nat.add_sub_cancel, Nat.succ_mul]
    omega
  | e :: es, i + 1, en, h, h0 => by
    have := sumQ_set (q := q) (es := es) (i := i) (by simpa using h) h0
    show e.c * q e.w + sumQ q (es.set i _) + q en.w = e.c * q e.w + sumQ q es
    omega
theorem Ac.call {x : Cw} {deep loops : Nat} {s : Gs} {i : Nat} {en : Ent} (d' : Dc) (hi : s.es[i]? = some en) (h0 : 0 < en.c) (ok : EntOk x en) (h1 : deep ≤ 3) (h2 : (loops : Int) + (x.beGr en.w).d ≤ 2) (ht : tP x s ≤ 3) :
    Ac x deep loops s { s with es := s.es.set i { en with c := en.c - 1 }, d := d' } (x.beGr en.w) := by
  have s1 := sumE_set (g := fun e => (x.beGr e.w).b) (fun _ _ => rfl) hi h0
  have s2 := sumE_set (g := fun e => (x.beGr e.w).a) (fun _ _ => rfl) hi h0
  have s3 := sumQ_set (q := x.q) hi h0
  have hc := ok.c
  have hs : tP x s = x.q en.w + tP x { s with es := s.es.set i { en with c := en.c - 1 }, d := d' } := by
    show s.r1 + sumQ x.q s.es = x.q en.w + (s.r1 + sumQ x.q (s.es.set i { en with c := en.c - 1 }))
    omega
  refine ⟨ok.b, ?_, ok.a, ?_, ok.c0, by omega, ok.d, by omega, ok.e0, ?_, ok.f0, ok.f, by omega⟩
  · show (x.beGr en.w).b + ((s.r0 : Int) + sumE _ (s.es.set i { en with c := en.c - 1 })) ≤ (s.r0 : Int) + sumE _ s.es
    omega
  · show (x.beGr en.w).a + ((s.r0 : Int) + s.r1 + s.r2 + sumE _ (s.es.set i { en with c := en.c - 1 })) ≤ (s.r0 : Int) + s.r1 + s.r2 + sumE _ s.es
    omega
  · generalize tP x { s with es := s.es.set i { en with c := en.c - 1 }, d := d' } = T2 at hs
    have hp := Fw_pos T2
    have g1 : (x.beGr en.w).e * Fw2 T2 ≤ Fw2 (x.q en.w) * Fw2 T2 := Int.mul_le_mul_of_nonneg_right ok.e (by omega)
    have g2 := Fw_mul (a := x.q en.w) (b := T2) (by omega)
    rw [hs]
    omega
end Hw
/-! HwG -/
namespace Hw
inductive Wd where
  | n0 | n1 (w1 : Str) (b1 : Blk) | n2 (w1 : Str) (b1 : Blk) (w0 : Str) (b0 : Blk)
def Wd.kvs : Wd → List (Str × D)
  | .n0 => []
  | .n1 w1 b1 => [(w1, .tup (eB b1))]
  | .n2 w1 b1 w0 b0 => [(w1, .tup (eB b1)), (w0, .tup (eB b0))]
/-- the words, ascending -/
def Wd.words : Wd → List Str
  | .n0 => []
  | .n1 w1 _ => [w1]
  | .n2 w1 _ w0 _ => [w0, w1]
def beGr0 : Str → Ms := fun _ => ms0
def beGr1 (w1 : Str) (b1 : Blk) : Str → Ms := fun w => if w = w1 then joinM (mL beGr0 b1) else ms0
def Wd.beGr : Wd → Str → Ms
  | .n0 => beGr0
  | .n1 w1 b1 => beGr1 w1 b1
  | .n2 w1 b1 w0 b0 => fun w => if w = w0 then joinM (mL (beGr1 w1 b1) b0) else beGr1 w1 b1 w
/-- the measures as a dict -/
def Wd.ms : Wd → List (Str × D)
  | .n0 => []
  | .n1 w1 b1 => [(w1, eM (joinM (mL beGr0 b1)))]
  | .n2 w1 b1 w0 b0 => [(w1, eM (joinM (mL beGr0 b1))), (w0, eM (joinM (mL (beGr1 w1 b1) b0)))]
def strLt (a b : Str) : Prop := a.cps.toList < b.cps.toList
/-- the bodies can be measured -/
def Wd.K (n : Nat) : Wd → Prop
  | .n0 => True
  | .n1 _ b1 => KB beGr0 [] b1 ∧ dB b1 < n ∧ b1.len ≤ 40
  | .n2 w1 b1 w0 b0 => strLt w0 w1 ∧ (KB beGr0 [] b1 ∧ dB b1 < n ∧ b1.len ≤ 40) ∧ KB (beGr1 w1 b1) [(w1, eM (joinM (mL beGr0 b1)))] b0 ∧ dB b0 < n ∧ b0.len ≤ 40
theorem strLt_ne {a b : Str} (h : strLt a b) : ¬ a = b := fun e => by subst e; exact (List.lt_irrefl _ h)
theorem sorted_one {x : Str} {ys : List Str} (p : ys.Perm [x]) : ys = [x] := List.perm_singleton.mp p
theorem sorted_two {x y : Str} {ys : List Str} (p : ys.Perm [x, y]) (hs : sortedS ys = true) (h : strLt y x) : ys = [y, x] := by
  match ys, p, hs with
  | [], p, _ => exact absurd p.length_eq (by simp)
  | [_], p, _ => exact absurd p.length_eq (by simp)
  | _ :: _ :: _ :: _, p, _ => exact absurd p.length_eq (by simp)
  | [a, b], p, hs =>
    have ha : a ∈ [x, y] := p.mem_iff.mp (by simp)
    have hb : b ∈ [x, y] := p.mem_iff.mp (by simp)
    have hx : x ∈ [a, b] := p.mem_iff.mpr (by simp)
    have hy : y ∈ [a, b] := p.mem_iff.mpr (by simp)
    have ne := strLt_ne h
    simp only [List.mem_cons, List.not_mem_nil, or_false] at ha hb hx hy
    rcases ha with rfl | rfl
    · rcases hb with rfl | rfl
      · rcases hy with e | e <;> exact absurd e ne
      · exfalso
        have h2 : ltCps b.cps.toList a.cps.toList = true := by rw [ltCps_eq]; exact decide_eq_true h
        have h3 : (!ltCps b.cps.toList a.cps.toList && true) = true := hs
        rw [h2] at h3
        cases h3
    · rcases hb with rfl | rfl
      · rfl
      · rcases hx with e | e <;> exact absurd e.symm ne
abbrev cd_MOST_WORDS : D := .int 4
abbrev cd_MOST_STATEMENTS : D := .int 40
abbrev cd_MOST_ROWS : D := .int 12
abbrev cd_MOST_DEEP : D := .int 8
abbrev cd_MOST_LOOPS : D := .int 2
abbrev cd_MOST_WAYS : D := .int 24
abbrev cd_MOST_NAMES : D := .int 4
def S_body_measures (n : Nat) : DSpec := fun ds w P _ => ds.length = 1 ∧ ∃ W : Wd, ds = [.dct W.kvs] ∧ w = [] ∧ W.K n ∧ ∀ p, P (.adr p) [(p, .dct W.ms)]
section
variable {P : Program} {w : World} {K : PySem.W.Frag} {mg : Str → Option Value} {base : Heap} {T : Addr}
abbrev st_body_measures : Stmt := top 33
abbrev N_body_measures : List Str := ["bodies", "told", "word"]
theorem sc_body_measures : FnScope N_body_measures ["bodies"] (defScope st_body_measures) := ⟨rfl, rfl, rfl, by decide +kernel, rfl, by decide +kernel, by decide +kernel⟩

theorem ok_body_measures {k : Nat} {n : Nat} (bl : Blt mg) (F : DefAt K mg "body_measures" st_body_measures ["bodies"]) (h_measure : Has P w K mg base CX0 "measure" ["block", "bodies"] k (spOf K T (S_measure n))) : Has P w K mg base CX0 "body_measures" ["bodies"] (k + 1) (spOf K T (S_body_measures n)) := by
  refine defD F sc_body_measures (fun _ _ _ _ h => h.1) fun f cdv A outer s H E hr => ?_
  have hu := hu_of hr
  have hu64 := hr.units
  have nd := sc_body_measures.nd
  refine ⟨_, (pss_cons (ps_set (i := 1) nd rfl (Or.inl rfl) pe_dnewK)
      (pss_cons (ps_for PassesOwn.never rfl (k_rev (K := K) rfl rfl bl.reversed (pa_cons (pe_callB (k_srtS (K := K) rfl rfl) rfl bl.sorted bt_sorted (pa_cons (pv 0) pa_nil)) pa_nil)) (pg_name (i := 2) nd rfl (Or.inl rfl))
        (pss_one (ps_asg (pe_callH h_measure hr rfl pass0 (pa_cons (pe_ix (k_ix (K := K) rfl hu) (pv 0) (pv 2) (fun _ _ => rfl)) (pa_cons (pv 1) pa_nil))) (pg_sub (pv 1) (pv 2) (set_X hu)))))
      (pss_one (ps_ret (pv 1))))), ?_⟩
  rintro ds w P X ⟨-, W, rfl, rfl, hW, hP⟩
  walk_at "w"
  intro p
  walk_at "w"
  refine wi_rev ?_
  walk_at "w"
  cases W with
  | n0 =>
    refine rc_sortS_dct (by simp [Wd.kvs]) fun ys pp hs => ?_
    obtain rfl := List.Perm.eq_nil pp
    refine wa_nil ⟨_, rfl, fun _ => trivial, turns_nil ?_⟩
    walk_at "w"
    exact hP p
  | n1 w1 b1 =>
    obtain ⟨h1, h2, h3⟩ := hW
    refine rc_sortS_dct (by simp [Wd.kvs]) fun ys pp hs => ?_
    obtain rfl := sorted_one pp
    refine wa_nil ⟨_, rfl, fun _ => trivial, ?_⟩
    show Turns _ _ _ _ [D.str w1] _ _
    walk_at "w"
    refine rd_ix_dct (d := .tup (eB b1)) (by simp [Wd.kvs, lk]) ?_
    walk_at "w"
    refine csW ⟨rfl, beGr0, b1, p, [], rfl, rfl, h1, h2, h3, ?_⟩
    refine wg_subD ?_
    walk_at "w"
    refine ⟨p, rfl, ?_⟩
    walk_at "w"
    refine ⟨w1, rfl, 0, [], rfl, .nil, by decide, ?_⟩
    walk_at "w"
    exact hP p
  | n2 w1 b1 w0 b0 =>
    obtain ⟨hlt, ⟨h1, h2, h3⟩, h4, h5, h6⟩ := hW
    have hne : ¬ w0 = w1 := strLt_ne hlt
    refine rc_sortS_dct (by simp [Wd.kvs]) fun ys pp hs => ?_
    obtain rfl := sorted_two (x := w1) (y := w0) pp hs hlt
    refine wa_nil ⟨_, rfl, fun _ => trivial, ?_⟩
    show Turns _ _ _ _ [D.str w1, D.str w0] _ _
    walk_at "w"
    refine rd_ix_dct (d := .tup (eB b1)) (by simp [Wd.kvs, lk]) ?_
    walk_at "w"
    refine csW ⟨rfl, beGr0, b1, p, [], rfl, rfl, h1, h2, h3, ?_⟩
    refine wg_subD ?_
    walk_at "w"
    refine ⟨p, rfl, ?_⟩
    walk_at "w"
    refine ⟨w1, rfl, 0, [], rfl, .nil, by decide, ?_⟩
    walk_at "w"
    refine rd_ix_dct (d := .tup (eB b0)) (by simp [Wd.kvs, lk, Ne.symm hne]) ?_
    walk_at "w"
    refine csW ⟨rfl, beGr1 w1 b1, b0, p, [(w1, eM (joinM (mL beGr0 b1)))], rfl, rfl, h4, h5, h6, ?_⟩
    refine wg_subD ?_
    walk_at "w"
    refine ⟨p, rfl, ?_⟩
    walk_at "w"
    refine ⟨w0, rfl, 0, _, rfl, by simp [putD], by simp [putD], ?_⟩
    walk_at "w"
    have := hP p
    rw [show (Wd.n2 w1 b1 w0 b0).ms = putD [(w1, eM (joinM (mL beGr0 b1)))] w0 (eM (joinM (mL (beGr1 w1 b1) b0))) by simp [Wd.ms, putD, Ne.symm hne]] at this
    exact this
end
end Hw
/-! HwU -/
namespace Hw
def Low (s : Str) : Prop := ∀ c ∈ s.cps.toList, 97 ≤ c ∧ c ≤ 122
theorem low_app {a b : Str} (ha : Low a) (hb : Low b) : Low (a ++ b) := fun c hc => by
  have e : (a ++ b).cps.toList = a.cps.toList ++ b.cps.toList := by show (a.cps ++ b.cps).toList = _; simp
  rw [e] at hc
  rcases List.mem_append.mp hc with h | h
  · exact ha c h
  · exact hb c h
theorem len_app (a b : Str) : (a ++ b).length = a.length + b.length := by show (a.cps ++ b.cps).size = _; rw [Array.size_append]; rfl
theorem low_one {c : Nat} (h1 : 97 ≤ c) (h2 : c ≤ 122) : Low ⟨#[c]⟩ := fun d hd => by
  have : d = c := by simpa using hd
  omega
theorem low_cut {s : Str} (h : Low s) (lo hi : Option Int) : Low (cutS s lo hi) := fun c hc => by
  unfold cutS at hc
  exact h c (List.mem_of_mem_drop (List.mem_of_mem_take (by simpa using hc)))
theorem len_cut (s : Str) (lo hi : Option Int) : (cutS s lo hi).length ≤ HT.sIx s.length s.length hi - HT.sIx s.length 0 lo := by
  show ((_ : List Nat).toArray).size ≤ _
  rw [List.size_toArray, List.length_take]
  omega
theorem len_cutR (s : Str) (lo : Option Int) : (cutS s lo none).length ≤ s.length - HT.sIx s.length 0 lo := len_cut s lo none
theorem az_at {r : Nat} (h : r < 26) : ("abcdefghijklmnopqrstuvwxyz" : Str).cps.toList[r]? = some (97 + r) := by
  have : ∀ r : Fin 26, ("abcdefghijklmnopqrstuvwxyz" : Str).cps.toList[r.val]? = some (97 + r.val) := by decide +kernel
  exact this ⟨r, h⟩
def S_law_word : DSpec := fun ds w P _ => ds.length = 2 ∧ ∃ (p : Addr) (d : Dc), ds = [.adr p, .int 8] ∧ w = dw p d ∧ DcOk d ∧ ∀ (s : Str) d', WordOk s → DcOk d' → P (.str s) (dw p d')
section
variable {P : Program} {w : World} {K : PySem.W.Frag} {mg : Str → Option Value} {base : Heap} {T : Addr}
abbrev st_law_word : Stmt := top 73
abbrev N_law_word : List Str := ["_law_dice_here", "_law_most", "_law_letters", "_law_word_here", "_law_k"]
theorem sc_law_word : FnScope N_law_word ["_law_dice_here", "_law_most"] (defScope st_law_word) := ⟨rfl, rfl, rfl, by decide +kernel, rfl, by decide +kernel, by decide +kernel⟩

theorem ok_law_word {k : Nat} (bl : Blt mg) (F : DefAt K mg "_law_word" st_law_word ["_law_dice_here", "_law_most"]) (h__law_draw : Has P w K mg base CX0 "_law_draw" ["_law_dice_here", "_law_many"] k (spOf K T S_law_draw)) : Has P w K mg base CX0 "_law_word" ["_law_dice_here", "_law_most"] (k + 1) (spOf K T S_law_word) := by
  refine defD F sc_law_word (fun _ _ _ _ h => h.1) fun f cdv A outer s H E hr => ?_
  have hu := hu_of hr
  have hu64 := hr.units
  have nd := sc_law_word.nd
  refine ⟨_, (pss_cons (ps_set (i := 2) nd rfl (Or.inl rfl) pe_str)
      (pss_cons (ps_set (i := 3) nd rfl (Or.inl rfl) pe_str)
      (pss_cons (ps_for PassesOwn.never rfl (pi_range1 rfl bl.range (pa_cons (pe_op (k_plus (K := K) rfl) pe_int (pe_callH h__law_draw hr rfl pass0 (pa_cons (pv 0) (pa_cons (pv 1) pa_nil)))) pa_nil)) (pg_name (i := 4) nd rfl (Or.inl rfl))
        (pss_one (ps_set (i := 3) nd rfl (Or.inl rfl) (pe_op (k_plus (K := K) rfl) (pv 3) (pe_ix (k_ix (K := K) rfl hu) (pv 2) (pe_callH h__law_draw hr rfl pass0 (pa_cons (pv 0) (pa_cons pe_int pa_nil))) (fun _ _ => rfl))))))
      (pss_one (ps_ret (pv 3)))))), ?_⟩
  rintro ds w P X ⟨-, p, d, rfl, rfl, hd, hP⟩
  walk_at "w"
  refine wi_rng1 ?_
  walk_at "w"
  refine csW ⟨rfl, p, d, 8, rfl, rfl, hd, by decide, by decide, fun r d1 hr hd1 => ?_⟩
  walk_at "w"
  refine ⟨_, rfl, by omega, by omega, fun _ => trivial, ?_⟩
  have hn : ((1 : Int) + (r : Nat)).toNat = r + 1 := by omega
  rw [hn]
  have hl : (iterN (r + 1)).length = r + 1 := iterN_len _
  refine turns_ind (A := Str × Dc) (fun z ds rhGr w' => ds.length + z.1.length = r + 1 ∧ Low z.1 ∧ DcOk z.2 ∧ (∃ v4, rhGr = [some (.adr p), some (.int 8), some (.str "abcdefghijklmnopqrstuvwxyz"), some (.str z.1), v4]) ∧ w' = dw p z.2) ?_ ?_ ("", d1) ⟨hl, fun c hc => (by cases hc), hd1, ⟨none, rfl⟩, rfl⟩
  · rintro ⟨s, d2⟩ rhGr w' ⟨h1, h2, h3, ⟨v4, rfl⟩, rfl⟩
    walk_at "w"
    have h1' : 0 + s.length = r + 1 := h1
    exact hP s d2 ⟨by omega, by omega, h2⟩ h3
  · rintro ⟨s, d2⟩ x xs rhGr w' ⟨h1, h2, h3, ⟨v4, rfl⟩, rfl⟩
    have h1' : xs.length + 1 + s.length = r + 1 := h1
    walk_at "w"
    refine csW ⟨rfl, p, d2, 26, rfl, rfl, h3, by decide, by decide, fun j d3 hj hd3 => ?_⟩
    refine rd_ix_str (c := 97 + j) (Nat.le_of_ble_eq_true rfl) (by omega) (by rw [Int.toNat_natCast]; exact az_at hj) ?_
    refine rd_plus_str (by show s.length + 1 ≤ 100000; omega) ?_
    refine ⟨(s ++ ⟨#[97 + j]⟩, d3), ?_, low_app h2 (low_one (by omega) (by omega)), hd3, ⟨_, rfl⟩, rfl⟩
    show xs.length + (s ++ (⟨#[97 + j]⟩ : Str)).length = r + 1
    rw [len_app]
    show xs.length + (s.length + 1) = r + 1
    omega
end
end Hw
/-! HwV -/
namespace Hw
theorem sub_len {alGr : Type} [DecidableEq alGr] : ∀ {l1 l2 : List alGr}, l1.Nodup → (∀ x ∈ l1, x ∈ l2) → l1.length ≤ l2.length
  | [], _, _, _ => Nat.zero_le _
  | x :: l1, l2, nd, h => by
    rw [List.nodup_cons] at nd
    have hx := h x (by simp)
    have := sub_len (l1 := l1) (l2 := l2.erase x) nd.2 fun y hy => (List.mem_erase_of_ne (by intro e; subst e; exact nd.1 hy)).mpr (h y (List.mem_cons_of_mem _ hy))
    rw [List.length_erase_of_mem hx] at this
    have := List.length_pos_of_mem hx
    rw [List.length_cons]
    omega
def lastC (s : Str) : Option Nat := s.cps.toList.getLast?
theorem no_many {names : List Str} (h : names.length ≤ 3) (hc : ∀ c ∈ ([97, 98, 99, 100, 101, 102, 103, 104] : List Nat), ∃ y ∈ names, lastC y = some c) : False := by
  have := sub_len (l1 := ([97, 98, 99, 100, 101, 102, 103, 104] : List Nat).map some) (l2 := names.map lastC) (by decide) fun x hx => by
    obtain ⟨c, hc1, rfl⟩ := List.mem_map.mp hx
    obtain ⟨y, hy, e⟩ := hc c hc1
    exact List.mem_map.mpr ⟨y, hy, e⟩
  simp at this
  omega
theorem str_eq {a b : Str} (h : a.cps.toList = b.cps.toList) : a = b := by
  cases a; cases b
  simp only [Str.mk.injEq]
  exact Array.toList_inj.mp h
theorem rising_le : ∀ (r : List Str) (x : Str), risingS x r = true → (∀ y ∈ r, x.cps.toList ≤ y.cps.toList) ∧ r.Pairwise fun a b => a.cps.toList ≤ b.cps.toList
  | [], x, _ => ⟨fun y h => (by cases h), .nil⟩
  | y :: r, x, h => by
    have h' : (!ltCps y.cps.toList x.cps.toList && risingS y r) = true := h
    rw [Bool.and_eq_true, ltCps_eq] at h'
    have hxy : x.cps.toList ≤ y.cps.toList := by simpa using h'.1
    obtain ⟨h1, h2⟩ := rising_le r y h'.2
    refine ⟨fun z hz => ?_, List.pairwise_cons.mpr ⟨h1, h2⟩⟩
    rcases List.mem_cons.mp hz with rfl | hz
    · exact hxy
    · exact List.le_trans hxy (h1 z hz)
theorem sorted_strict {ys : List Str} (h : sortedS ys = true) (nd : ys.Nodup) : ys.Pairwise strLt := by
  have h1 : ys.Pairwise fun a b => a.cps.toList ≤ b.cps.toList := by
    cases ys with
    | nil => exact .nil
    | cons x r =>
      obtain ⟨h1, h2⟩ := rising_le r x h
      exact List.pairwise_cons.mpr ⟨h1, h2⟩
  refine (h1.and nd).imp fun {a b} ⟨p, q⟩ => ?_
  unfold strLt
  by_cases hab : a.cps.toList < b.cps.toList
  · exact hab
  · exact absurd (str_eq (List.le_antisymm p hab)) q
def S_law_names : DSpec := fun ds w P _ => ds.length = 2 ∧ ∃ (p : Addr) (d : Dc) (m : Nat), ds = [.adr p, .int m] ∧ w = dw p d ∧ DcOk d ∧ 1 ≤ m ∧ m ≤ 4 ∧ ∀ (names : List Str) d', names.length = m → (∀ s ∈ names, WordOk s) → names.Pairwise strLt → DcOk d' → P (.lst (nms names)) (dw p d')
section
variable {P : Program} {w : World} {K : PySem.W.Frag} {mg : Str → Option Value} {base : Heap} {T : Addr}
abbrev st_law_names : Stmt := top 74
abbrev N_law_names : List Str := ["_law_dice_here", "_law_many", "_law_alike", "_law_base", "_law_names_here", "_law_k", "_law_word_here", "_law_at", "_law_sign"]
theorem sc_law_names : FnScope N_law_names ["_law_dice_here", "_law_many"] (defScope st_law_names) := ⟨rfl, rfl, rfl, by decide +kernel, rfl, by decide +kernel, by decide +kernel⟩

theorem ok_law_names {k : Nat} (bl : Blt mg) (F : DefAt K mg "_law_names" st_law_names ["_law_dice_here", "_law_many"]) (h__law_draw : Has P w K mg base CX0 "_law_draw" ["_law_dice_here", "_law_many"] k (spOf K T S_law_draw)) (h__law_word : Has P w K mg base CX0 "_law_word" ["_law_dice_here", "_law_most"] k (spOf K T S_law_word)) : Has P w K mg base CX0 "_law_names" ["_law_dice_here", "_law_many"] (k + 1) (spOf K T S_law_names) := by
  refine defD F sc_law_names (fun _ _ _ _ h => h.1) fun f cdv A outer s H E hr => ?_
  have hu := hu_of hr
  have hu64 := hr.units
  have nd := sc_law_names.nd
  refine ⟨_, (pss_cons (ps_set (i := 2) nd rfl (Or.inl rfl) (pe_callH h__law_draw hr rfl pass0 (pa_cons (pv 0) (pa_cons pe_int pa_nil))))
      (pss_cons (ps_set (i := 3) nd rfl (Or.inl rfl) (pe_callH h__law_word hr rfl pass0 (pa_cons (pv 0) (pa_cons pe_int pa_nil))))
      (pss_cons (ps_set (i := 4) nd rfl (Or.inl rfl) (pe_lst pa_nil))
      (pss_cons (ps_for PassesOwn.never rfl (pi_range1 rfl bl.range (pa_cons (pv 1) pa_nil)) (pg_name (i := 5) nd rfl (Or.inl rfl))
        (pss_cons (ps_set (i := 6) nd rfl (Or.inl rfl) (pe_callH h__law_word hr rfl pass0 (pa_cons (pv 0) (pa_cons pe_int pa_nil))))
        (pss_cons (ps_if (pt_cmpR (k_eq (K := K) rfl hu64) (pv 2) pe_int (nomark _))
          (pss_cons (ps_set (i := 7) nd rfl (Or.inl rfl) (pe_callH h__law_draw hr rfl pass0 (pa_cons (pv 0) (pa_cons (pe_callB (k_len (K := K) rfl) rfl bl.len bt_len (pa_cons (pv 3) pa_nil)) pa_nil))))
          (pss_one (ps_set (i := 6) nd rfl (Or.inl rfl) (pe_op (k_plus (K := K) rfl) (pe_op (k_plus (K := K) rfl) (pe_slice sl_str (pv 3) po_none (po_some (pv 7))) (pe_ix (k_ix (K := K) rfl hu) (pv 6) pe_int (fun _ _ => rfl))) (pe_slice sl_str (pv 3) (po_some (pe_op (k_plus (K := K) rfl) (pv 7) pe_int)) po_none)))))
          pss_nil)
        (pss_cons (ps_for PassesOwn.never rfl (k_walk (K := K) rfl pe_str) (pg_name (i := 8) nd rfl (Or.inl rfl))
          (pss_one (ps_if (pt_cmpR (k_in (K := K) rfl hu) (pv 6) (pv 4) rfl)
            (pss_one (ps_set (i := 6) nd rfl (Or.inl rfl) (pe_op (k_plus (K := K) rfl) (pe_slice sl_str (pv 6) po_none (po_some pe_int)) (pv 8))))
            pss_nil)))
        (pss_one (ps_expr (pe_bm PySem.F.plainAttrs_list PySem.F.slot_list_append PySem.F.type_list_append mt_append (pv 4) (pa_cons (pv 6) pa_nil))))))))
      (pss_one (ps_ret (pe_callB (k_srtS (K := K) rfl rfl) rfl bl.sorted bt_sorted (pa_cons (pv 4) pa_nil)))))))), ?_⟩
  rintro ds w P X ⟨-, p, d, m, rfl, rfl, hd, hm1, hm4, hP⟩
  walk_at "w"
  refine csW ⟨rfl, p, d, 2, rfl, rfl, hd, by decide, by decide, fun a d1 ha hd1 => ?_⟩
  walk_at "w"
  refine csW ⟨rfl, p, d1, rfl, rfl, hd1, fun bs d2 hbs hd2 => ?_⟩
  refine ws_seq (ws_asg (we_lstO ?_))
  walk_at "w"
  intro q
  walk_at "w"
  refine wi_rng1 ?_
  walk_at "w"
  refine ⟨_, rfl, by omega, by omega, fun _ => trivial, ?_⟩
  rw [Int.toNat_natCast]
  have hl : (iterN m).length = m := iterN_len _
  refine turns_ind (A := List Str × Dc) (fun z ds rhGr w' => ds.length + z.1.length = m ∧ z.1.Nodup ∧ (∀ s ∈ z.1, WordOk s) ∧ DcOk z.2 ∧ (∃ v5 v6 v7 v8, rhGr = [some (.adr p), some (.int m), some (.int a), some (.str bs), some (.adr q), v5, v6, v7, v8]) ∧ w' = [(p, .lst (eDc z.2)), (q, .lst (nms z.1))]) ?_ ?_ ([], d2) ⟨hl, .nil, fun _ h => (by cases h), hd2, ⟨none, none, none, none, rfl⟩, rfl⟩
  · rintro ⟨names, d3⟩ rhGr w' ⟨h1, h2, h3, h4, ⟨v5, v6, v7, v8, rfl⟩, rfl⟩
    have h1' : 0 + names.length = m := h1
    refine ws_ret (we_trim ?_)
    walk_at "w"
    refine rc_sortSO (ks := names) 1 rfl (by omega) fun ys pp hs => ?_
    exact ⟨[(p, .lst (eDc d3))], _, rfl, hP ys d3 (by rw [pp.length_eq]; omega) (fun s hs => h3 s (pp.mem_iff.mp hs)) (sorted_strict hs (pp.nodup_iff.mpr h2)) h4⟩
  · rintro ⟨names, d3⟩ x xs rhGr w' ⟨h1, h2, h3, h4, ⟨v5, v6, v7, v8, rfl⟩, rfl⟩
    have h1' : xs.length + 1 + names.length = m := h1
    walk_at "w"
    refine cpF (mine := [(p, .lst (eDc d3))]) rfl ⟨rfl, p, d3, rfl, rfl, h4, fun s d4 hs hd4 => ?_⟩
    refine ws_seq (WS.imp (PO := fun o => ∃ s d v5 v7 v8, o = .nx [some (.adr p), some (.int m), some (.int a), some (.str bs), some (.adr q), v5, some (.str s), v7, v8] [(p, .lst (eDc d)), (q, .lst (nms names))] ∧ WordOk s ∧ DcOk d) ?_ ?_)
    · walk_at "w"
      by_cases ha1 : ((a : Nat) : Int) = 1
      · refine rd_eq_int_t ha1 ?_
        walk_at "w"
        refine rc_len_str (by have := hbs.2.1; omega) ?_
        walk_at "w"
        refine cpF (mine := [(p, .lst (eDc d4))]) rfl ⟨rfl, p, d4, bs.length, rfl, rfl, hd4, by have := hbs.1; omega, by have := hbs.2.1; omega, fun i d5 hi hd5 => ?_⟩
        walk_at "w"
        refine we_slS ?_
        walk_at "w"
        refine ⟨_, rfl, by have := hbs.2.1; omega, wo_none (wo_some ?_)⟩
        walk_at "w"
        refine ⟨_, rfl, ?_⟩
        walk_at "w"
        have hs0 : 0 < s.cps.toList.length := by have := hs.1; show 0 < s.cps.toList.length; rw [Array.length_toList]; exact this
        refine rd_ix_str (c := s.cps.toList[0]) (by have := hs.2.1; omega) (by decide) (by simp [hs0]) ?_
        have hc0 := hs.2.2 _ (List.getElem_mem hs0)
        have l1 : (cutS bs none (some (i : Int))).length ≤ i := by
          have := len_cut bs none (some (i : Int))
          rw [HT.sIx_none, HT.sIx_nat] at this
          omega
        refine rd_plus_str (by show _ + 1 ≤ _; have := hbs.2.1; omega) ?_
        refine we_slS ?_
        walk_at "w"
        refine ⟨_, rfl, by have := hbs.2.1; omega, wo_some ?_⟩
        walk_at "w"
        refine ⟨_, rfl, wo_none ?_⟩
        have l2 : (cutS bs (some ((i : Int) + 1)) none).length ≤ bs.length - (i + 1) := by
          have := len_cutR bs (some (((i + 1 : Nat)) : Int))
          rw [HT.sIx_nat] at this
          rw [show ((i : Int) + 1) = ((i + 1 : Nat) : Int) by omega]
          omega
        have l3 : (cutS bs none (some (i : Int)) ++ (⟨#[s.cps.toList[0]]⟩ : Str)).length = (cutS bs none (some (i : Int))).length + 1 := len_app _ _
        refine rd_plus_str (by rw [l3]; have := hbs.2.1; omega) ?_
        refine ⟨_, d5, _, _, _, rfl, ⟨?_, ?_, ?_⟩, hd5⟩
        · rw [len_app, l3]; omega
        · rw [len_app, l3]; have := hbs.2.1; omega
        · exact low_app (low_app (low_cut hbs.2.2 _ _) (low_one hc0.1 hc0.2)) (low_cut hbs.2.2 _ _)
      · refine rd_eq_int_f ha1 ?_
        walk_at "w"
        exact ⟨s, d4, _, _, _, rfl, hs, hd4⟩
    · rintro o ⟨s, d5, v5, v7, v8, rfl, hs, hd5⟩
      refine ws_seq (WS.imp (PO := fun o => ∃ s v8, o = .nx [some (.adr p), some (.int m), some (.int a), some (.str bs), some (.adr q), v5, some (.str s), v7, v8] [(p, .lst (eDc d5)), (q, .lst (nms names))] ∧ WordOk s ∧ s ∉ names) ?_ ?_)
      · refine ws_forU (wi_anyS ?_)
        walk_at "w"
        refine ⟨_, rfl, fun _ => trivial, ?_⟩
        rw [show DL.signs "abcdefgh" = ([97, 98, 99, 100, 101, 102, 103, 104] : List Nat).map fun c => D.str ⟨#[c]⟩ from by unfold DL.signs; rw [show ("abcdefgh" : Str).cps.toList = [97, 98, 99, 100, 101, 102, 103, 104] from by decide +kernel]]
        refine turns_ind (A := Str × List Nat × List Nat) (fun z ds rhGr w' => ds = z.2.2.map (fun c => D.str ⟨#[c]⟩) ∧ z.2.1 ++ z.2.2 = [97, 98, 99, 100, 101, 102, 103, 104] ∧ WordOk z.1 ∧ (z.1 ∉ names ∨ ∀ c ∈ z.2.1, ∃ y ∈ names, lastC y = some c) ∧ (∃ v8, rhGr = [some (.adr p), some (.int m), some (.int a), some (.str bs), some (.adr q), v5, some (.str z.1), v7, v8]) ∧ w' = [(p, .lst (eDc d5)), (q, .lst (nms names))]) ?_ ?_ (s, [], [97, 98, 99, 100, 101, 102, 103, 104]) ⟨rfl, rfl, hs, .inr fun c h => (by cases h), ⟨_, rfl⟩, rfl⟩
        · rintro ⟨s, done, rest⟩ rhGr w' ⟨g1, g2, g3, g4, ⟨v8, rfl⟩, rfl⟩
          cases rest with
          | cons c rest => cases g1
          | nil =>
            refine ⟨s, v8, rfl, g3, ?_⟩
            rcases g4 with g4 | g4
            · exact g4
            · rw [List.append_nil] at g2
              have g2' : done = [97, 98, 99, 100, 101, 102, 103, 104] := g2
              exact (no_many (names := names) (by omega) (by rw [← g2']; exact g4)).elim
        · rintro ⟨s, done, rest⟩ x xs' rhGr w' ⟨g1, g2, g3, g4, ⟨v8, rfl⟩, rfl⟩
          cases rest with
          | nil => cases g1
          | cons c rest =>
            obtain ⟨rfl, rfl⟩ := List.cons.inj g1
            have g2' : (done ++ [c]) ++ rest = [97, 98, 99, 100, 101, 102, 103, 104] := by rw [List.append_assoc]; exact g2
            have hcm : c ∈ ([97, 98, 99, 100, 101, 102, 103, 104] : List Nat) := by rw [← g2]; simp
            have hc1 : 97 ≤ c ∧ c ≤ 122 := by
              have : ∀ c ∈ ([97, 98, 99, 100, 101, 102, 103, 104] : List Nat), 97 ≤ c ∧ c ≤ 122 := by decide
              exact this c hcm
            walk_at "w"
            refine rd_in_lstO (ks := names) 1 rfl ?_
            by_cases hin : s ∈ names
            · rw [decide_eq_true hin]
              walk_at "w"
              refine we_slS ?_
              walk_at "w"
              refine ⟨_, rfl, by have := g3.2.1; show s.length ≤ _; have h9 : s.length ≤ 8 := this; omega, wo_none (wo_some ?_)⟩
              walk_at "w"
              refine ⟨7, rfl, ?_⟩
              walk_at "w"
              have l1 : (cutS s none (some (7 : Int))).length ≤ 7 := by
                have := len_cut s none (some ((7 : Nat) : Int))
                rw [HT.sIx_none, HT.sIx_nat] at this
                have e7 : (some (7 : Int)) = some ((7 : Nat) : Int) := rfl
                rw [e7]
                omega
              refine rd_plus_str (by show (cutS s none (some (7 : Int))).length + 1 ≤ 100000; omega) ?_
              have l2 : (cutS s none (some (7 : Int)) ++ (⟨#[c]⟩ : Str)).length = (cutS s none (some (7 : Int))).length + 1 := len_app _ _
              have lst : lastC (cutS s none (some (7 : Int)) ++ (⟨#[c]⟩ : Str)) = some c := by
                show ((cutS s none (some (7 : Int))).cps ++ #[c]).toList.getLast? = some c
                simp
              refine ⟨(cutS s none (some (7 : Int)) ++ ⟨#[c]⟩, done ++ [c], rest), rfl, g2', ⟨by rw [l2]; omega, by rw [l2]; omega, low_app (low_cut g3.2.2 _ _) (low_one hc1.1 hc1.2)⟩, ?_, ⟨_, rfl⟩, rfl⟩
              by_cases hin2 : (cutS s none (some (7 : Int)) ++ (⟨#[c]⟩ : Str)) ∈ names
              · refine .inr fun b hb => ?_
                rcases List.mem_append.mp hb with hb | hb
                · rcases g4 with g4 | g4
                  · exact absurd hin g4
                  · exact g4 b hb
                · have : b = c := by simpa using hb
                  subst this
                  exact ⟨_, hin2, lst⟩
              · exact .inl hin2
            · rw [decide_eq_false hin]
              walk_at "w"
              exact ⟨(s, done ++ [c], rest), rfl, g2', g3, .inl hin, ⟨_, rfl⟩, rfl⟩
      · rintro o ⟨s, v8, rfl, hs, hni⟩
        walk_at "w"
        refine we_append ?_
        walk_at "w"
        refine ⟨q, rfl, ⟨1, _, rfl⟩, ?_⟩
        walk_at "w"
        have hl9 : (nms names).length = names.length := List.length_map ..
        refine ⟨1, _, rfl, by rw [hl9]; omega, (names ++ [s], d5), ?_, ?_, ?_, hd5, ⟨_, _, _, _, rfl⟩, ?_⟩
        · show xs.length + (names ++ [s]).length = m
          rw [List.length_append]
          show xs.length + (names.length + 1) = m
          omega
        · exact List.nodup_append.mpr ⟨h2, by simp, fun y hy z hz e => by
            have : z = s := by simpa using hz
            subst this; subst e
            exact hni hy⟩
        · intro y hy
          rcases List.mem_append.mp hy with hy | hy
          · exact h3 y hy
          · have : y = s := by simpa using hy
            subst this; exact hs
        · show [(p, D.lst (eDc d5)), (q, D.lst (nms names ++ [.str s]))] = [(p, D.lst (eDc d5)), (q, D.lst (nms (names ++ [s])))]
          unfold nms
          rw [List.map_append]; rfl
end
end Hw
/-! HwW -/
namespace Hw
def NmsOk (names : List Str) : Prop := 1 ≤ names.length ∧ names.length ≤ 4 ∧ ∀ s ∈ names, WordOk s
def S_law_product : DSpec := fun ds w P _ => ds.length = 3 ∧ ∃ (p : Addr) (d : Dc) (names : List Str), ds = [.adr p, .lst (nms names), .int 1] ∧ w = dw p d ∧ DcOk d ∧ NmsOk names ∧ ∀ (q : Prd) d', VP names q → DcOk d' → P (eP q) (dw p d')
/-- what a sum is -/
def SumOk (names : List Str) (ts : List Trm) : Prop := ts ≠ [] ∧ ts.length ≤ 3 ∧ (∀ t ∈ ts, 1 ≤ t.1 ∧ t.1 ≤ 3 ∧ VP names t.2) ∧ ts.Pairwise fun a b => prdLt a.2 b.2
def S_law_sum : DSpec := fun ds w P _ => ds.length = 5 ∧ ∃ (p : Addr) (d : Dc) (names : List Str), ds = [.adr p, .lst (nms names), .int 3, .int 1, .int 3] ∧ w = dw p d ∧ DcOk d ∧ NmsOk names ∧ ∀ (ts : List Trm) d', SumOk names ts → DcOk d' → P (eTs ts) (dw p d')
def S_law_row : DSpec := fun ds w P _ => ds.length = 4 ∧ ∃ (p : Addr) (d : Dc) (names : List Str) (sets : Bool), ds = [.adr p, .lst (nms names), .bl sets, .lst [.int 3, .int 1]] ∧ w = dw p d ∧ DcOk d ∧ NmsOk names ∧ ∀ (r : Row) d', VR names sets r → DcOk d' → P (eR r) (dw p d')
theorem nms_at {names : List Str} {i : Nat} (h : i < names.length) : (nms names)[((i : Nat) : Int).toNat]? = some (.str names[i]) := by
  rw [Int.toNat_natCast]
  simp [nms, h]
section
variable {P : Program} {w : World} {K : PySem.W.Frag} {mg : Str → Option Value} {base : Heap} {T : Addr}
abbrev st_law_product : Stmt := top 75
abbrev N_law_product : List Str := ["_law_dice_here", "_law_names_here", "_law_most", "_law_powers", "_law_k", "_law_name"]
theorem sc_law_product : FnScope N_law_product ["_law_dice_here", "_law_names_here", "_law_most"] (defScope st_law_product) := ⟨rfl, rfl, rfl, by decide +kernel, rfl, by decide +kernel, by decide +kernel⟩

theorem ok_law_product {k : Nat} (bl : Blt mg) (F : DefAt K mg "_law_product" st_law_product ["_law_dice_here", "_law_names_here", "_law_most"]) (h__law_draw : Has P w K mg base CX0 "_law_draw" ["_law_dice_here", "_law_many"] k (spOf K T S_law_draw)) : Has P w K mg base CX0 "_law_product" ["_law_dice_here", "_law_names_here", "_law_most"] (k + 1) (spOf K T S_law_product) := by
  refine defD F sc_law_product (fun _ _ _ _ h => h.1) fun f cdv A outer s H E hr => ?_
  have hu := hu_of hr
  have hu64 := hr.units
  have nd := sc_law_product.nd
  refine ⟨_, (pss_cons (ps_set (i := 3) nd rfl (Or.inr rfl) pe_dnewK)
      (pss_cons (ps_for PassesOwn.never rfl (pi_range1 rfl bl.range (pa_cons (pe_callH h__law_draw hr rfl pass0 (pa_cons (pv 0) (pa_cons (pe_op (k_plus (K := K) rfl) (pv 2) pe_int) pa_nil))) pa_nil)) (pg_name (i := 4) nd rfl (Or.inl rfl))
        (pss_cons (ps_set (i := 5) nd rfl (Or.inl rfl) (pe_ix (k_ix (K := K) rfl hu) (pv 1) (pe_callH h__law_draw hr rfl pass0 (pa_cons (pv 0) (pa_cons (pe_callB (k_len (K := K) rfl) rfl bl.len bt_len (pa_cons (pv 1) pa_nil)) pa_nil))) (fun _ _ => rfl)))
        (pss_one (ps_asg (pe_op (k_plus (K := K) rfl) (pe_dget2 hu (pv 3) (pv 5) pe_int ⟨rfl, rfl, rfl, rfl⟩) pe_int) (pg_sub (pv 3) (pv 5) (set_X hu))))))
      (pss_one (ps_ret (pe_callTy (k_tuple (K := K) rfl) rfl bl.tuple bt_tuple (pa_cons (pe_lc (own := [("_law_name", 5)]) (g := gName 5) (tt := tYes) rfl nd (k_walk (K := K) rfl (pe_callB (k_srtS (K := K) rfl rfl) rfl bl.sorted bt_sorted (pa_cons (pv 3) pa_nil))) (blkOk_by (N := N_law_product) (sc := defScope st_law_product) (by decide +kernel)) (fun _ _ _ _ _ => pg_name (i := 5) nd rfl (Or.inl rfl)) (fun _ _ _ _ _ => pts_nil) (fun _ _ _ _ _ => (pe_tup (pa_cons (pv 5) (pa_cons (pe_ix (k_ix (K := K) rfl hu) (pv 3) (pv 5) (fun _ _ => rfl)) pa_nil))))) pa_nil)))))), ?_⟩
  rintro ds w P X ⟨-, p, d, names, rfl, rfl, hd, ⟨hn1, hn4, hnw⟩, hP⟩
  have hl : (nms names).length = names.length := List.length_map ..
  walk_at "w"
  intro q
  walk_at "w"
  refine wi_rng1 ?_
  walk_at "w"
  refine cpF (mine := dw p d) rfl ⟨rfl, p, d, 2, rfl, rfl, hd, by decide, by decide, fun r d1 hr hd1 => ?_⟩
  walk_at "w"
  refine ⟨_, rfl, by omega, by omega, fun _ => trivial, ?_⟩
  rw [Int.toNat_natCast]
  have hr2 : r = 0 ∨ r = 1 := by omega
  rcases hr2 with rfl | rfl
  · refine turns_nil ?_
    refine ws_ret (we_trim ?_)
    refine we_cb (wa_cons (we_lcM (fun x => x) (wi_anyL ?_)))
    walk_at "w"
    refine rc_sortS_dctO (kvs := []) 1 rfl (by decide) fun ys pp hs => ?_
    obtain rfl := List.Perm.eq_nil pp
    refine ⟨[], .inl rfl, by decide, fun _ => trivial, fun x hx => (by cases hx), ?_⟩
    walk_at "w"
    refine rc_tuple ?_
    exact ⟨dw p d1, _, rfl, hP none d1 trivial hd1⟩
  · show Turns _ _ _ _ [D.int ((0 : Nat) : Int)] _ _
    walk_at "w"
    rw [hl]
    refine cpF (mine := dw p d1) rfl ⟨rfl, p, d1, names.length, rfl, rfl, hd1, by omega, by omega, fun i d2 hi hd2 => ?_⟩
    refine rd_ix_lst (by omega) (nms_at hi) ?_
    walk_at "w"
    refine we_get ?_
    walk_at "w"
    refine ⟨q, rfl, ⟨1, _, rfl⟩, ?_⟩
    walk_at "w"
    refine ⟨_, rfl, ?_⟩
    walk_at "w"
    refine ⟨1, [], rfl, ?_⟩
    walk_at "w"
    refine wg_subD ?_
    walk_at "w"
    refine ⟨q, rfl, ?_⟩
    walk_at "w"
    refine ⟨names[i], rfl, 1, [], rfl, .nil, by decide, ?_⟩
    refine turns_nil (ws_ret (we_trim ?_))
    refine we_cb (wa_cons (we_lcM (fun x => .tup [x, .int 1]) (wi_anyL ?_)))
    walk_at "w"
    refine rc_sortS_dctO (kvs := [(names[i], .int 1)]) 1 rfl (Nat.le_of_ble_eq_true rfl) fun ys pp hs => ?_
    obtain rfl := sorted_one pp
    refine ⟨[.str names[i]], .inl rfl, (Nat.le_of_ble_eq_true rfl), fun _ => trivial, fun x hx => ?_, ?_⟩
    · obtain rfl : x = .str names[i] := by simpa using hx
      walk_at "w"
      refine rd_ix_dctO (kvs := [(names[i], .int 1)]) (d := .int 1) 1 rfl (by simp [lk]) ?_
      walk_at "w"
      exact ⟨rfl, rfl⟩
    · walk_at "w"
      refine rc_tuple ?_
      have hm := List.getElem_mem hi
      exact ⟨dw p d2, _, rfl, hP (some names[i]) d2 ⟨hm, hnw _ hm⟩ hd2⟩
theorem SumOk.vts {names : List Str} {ts : List Trm} (h : SumOk names ts) : VTs names ts := ⟨h.1, h.2.1, fun t ht => ⟨(h.2.2.1 t ht).1, by have := (h.2.2.1 t ht).2.1; omega, (h.2.2.1 t ht).2.2⟩, h.2.2.2⟩
theorem strOk_word {x : Str} (h : WordOk x) : PyData.strOk x = true := by
  obtain ⟨h1, h2, h3⟩ := h
  unfold PyData.strOk
  rw [Array.all_eq_true_iff_forall_mem]
  intro c hc
  have := h3 c (Array.mem_toList_iff.mpr hc)
  simp only [decide_eq_true_eq]
  omega
theorem shaped_eP {names : List Str} {q : Prd} (h : VP names q) : SeqAt.shaped (py (eP q)) = true := by
  cases q with
  | none => decide +kernel
  | some x => simp [eP, py, pys, SeqAt.shaped, PyData.canLay0, PyData.canLayAll0, strOk_word h.2, PyData.depth, PyData.depthAll]
theorem eqv_none (q : Prd) : PyData.eqv (py (eP q)) (py (.tup [])) = decide (q = none) := by
  cases q with
  | none => decide +kernel
  | some x => simp [eP, py, pys, PyData.eqv, PyData.eqvAll]
abbrev st_law_row : Stmt := top 77
abbrev N_law_row : List Str := ["_law_dice_here", "_law_names_here", "_law_sets", "_law_top", "_law_name", "_law_other", "_law_kind", "_law_terms"]
theorem sc_law_row : FnScope N_law_row ["_law_dice_here", "_law_names_here", "_law_sets", "_law_top"] (defScope st_law_row) := ⟨rfl, rfl, rfl, by decide +kernel, rfl, by decide +kernel, by decide +kernel⟩

theorem ok_law_row {k : Nat} (bl : Blt mg) (F : DefAt K mg "_law_row" st_law_row ["_law_dice_here", "_law_names_here", "_law_sets", "_law_top"]) (h__law_draw : Has P w K mg base CX0 "_law_draw" ["_law_dice_here", "_law_many"] k (spOf K T S_law_draw)) (h__law_sum : Has P w K mg base CX0 "_law_sum" ["_law_dice_here", "_law_names_here", "_law_terms", "_law_most", "_law_top"] k (spOf K T S_law_sum)) (h__law_product : Has P w K mg base CX0 "_law_product" ["_law_dice_here", "_law_names_here", "_law_most"] k (spOf K T S_law_product)) : Has P w K mg base CX0 "_law_row" ["_law_dice_here", "_law_names_here", "_law_sets", "_law_top"] (k + 1) (spOf K T S_law_row) := by
  refine defD F sc_law_row (fun _ _ _ _ h => h.1) fun f cdv A outer s H E hr => ?_
  have hu := hu_of hr
  have hu64 := hr.units
  have nd := sc_law_row.nd
  refine ⟨_, (pss_cons (ps_set (i := 4) nd rfl (Or.inl rfl) (pe_ix (k_ix (K := K) rfl hu) (pv 1) (pe_callH h__law_draw hr rfl pass0 (pa_cons (pv 0) (pa_cons (pe_callB (k_len (K := K) rfl) rfl bl.len bt_len (pa_cons (pv 1) pa_nil)) pa_nil))) (fun _ _ => rfl)))
      (pss_cons (ps_set (i := 5) nd rfl (Or.inl rfl) (pe_ix (k_ix (K := K) rfl hu) (pv 1) (pe_callH h__law_draw hr rfl pass0 (pa_cons (pv 0) (pa_cons (pe_callB (k_len (K := K) rfl) rfl bl.len bt_len (pa_cons (pv 1) pa_nil)) pa_nil))) (fun _ _ => rfl)))
      (pss_cons (ps_set (i := 6) nd rfl (Or.inl rfl) (pe_callH h__law_draw hr rfl pass0 (pa_cons (pv 0) (pa_cons pe_int pa_nil))))
      (pss_cons (ps_if (PW.pt (pw_and (pt_cmpR (k_eq (K := K) rfl hu64) (pv 6) pe_int (nomark _)) (pw_and1 (pt_val (pv 2)))))
        (pss_cons (ps_set (i := 7) nd rfl (Or.inl rfl) (pe_callH h__law_sum hr rfl pass0 (pa_cons (pv 0) (pa_cons (pv 1) (pa_cons pe_int (pa_cons (pe_ix (k_ix (K := K) rfl hu) (pv 3) pe_int (fun _ _ => rfl)) (pa_cons (pe_ix (k_ix (K := K) rfl hu) (pv 3) pe_int (fun _ _ => rfl)) pa_nil)))))))
        (pss_cons (ps_if (PW.pt (pw_and (pt_cmpR (k_eq (K := K) rfl hu64) (pe_callB (k_len (K := K) rfl) rfl bl.len bt_len (pa_cons (pv 7) pa_nil)) pe_int (nomark _)) (pw_and1 (pt_cmpR (k_eq (K := K) rfl hu64) (pe_ix (k_ix (K := K) rfl hu) (pe_ix (k_ix (K := K) rfl hu) (pv 7) pe_int (fun _ _ => rfl)) pe_int (fun _ _ => rfl)) (pe_tup pa_nil) (nomark _)))))
          (pss_one (ps_set (i := 7) nd rfl (Or.inl rfl) (pe_tup (pa_cons (pe_tup (pa_cons (pe_ix (k_ix (K := K) rfl hu) (pe_ix (k_ix (K := K) rfl hu) (pv 7) pe_int (fun _ _ => rfl)) pe_int (fun _ _ => rfl)) (pa_cons (pe_tup (pa_cons (pe_tup (pa_cons (pv 5) (pa_cons pe_int pa_nil))) pa_nil)) pa_nil))) pa_nil))))
          pss_nil)
        (pss_one (ps_ret (pe_tup (pa_cons pe_str (pa_cons (pv 4) (pa_cons (pv 7) pa_nil))))))))
        pss_nil)
      (pss_cons (ps_if (PW.pt (pw_or (pt_cmpR (k_eq (K := K) rfl hu64) (pv 6) pe_int (nomark _)) (pw_or1 (pt_cmpR (k_eq (K := K) rfl hu64) (pv 6) pe_int (nomark _)))))
        (pss_one (ps_ret (pe_tup (pa_cons pe_str (pa_cons (pv 4) (pa_cons (pe_tup (pa_cons (pe_op (k_plus (K := K) rfl) pe_int (pe_callH h__law_draw hr rfl pass0 (pa_cons (pv 0) (pa_cons (pe_ix (k_ix (K := K) rfl hu) (pv 3) pe_int (fun _ _ => rfl)) pa_nil)))) (pa_cons (pe_callH h__law_product hr rfl pass0 (pa_cons (pv 0) (pa_cons (pv 1) (pa_cons (pe_ix (k_ix (K := K) rfl hu) (pv 3) pe_int (fun _ _ => rfl)) pa_nil)))) pa_nil))) pa_nil))))))
        pss_nil)
      (pss_one (ps_ret (pe_tup (pa_cons pe_str (pa_cons (pv 4) (pa_cons (pe_callH h__law_sum hr rfl pass0 (pa_cons (pv 0) (pa_cons (pv 1) (pa_cons pe_int (pa_cons (pe_ix (k_ix (K := K) rfl hu) (pv 3) pe_int (fun _ _ => rfl)) (pa_cons (pe_ix (k_ix (K := K) rfl hu) (pv 3) pe_int (fun _ _ => rfl)) pa_nil)))))) pa_nil))))))))))), ?_⟩
  rintro ds w P X ⟨-, p, d, names, sets, rfl, rfl, hd, ⟨hn1, hn4, hnw⟩, hP⟩
  have hl : (nms names).length = names.length := List.length_map ..
  walk_at "w"
  rw [hl]
  refine csW ⟨rfl, p, d, names.length, rfl, rfl, hd, by omega, by omega, fun i d1 hi hd1 => ?_⟩
  refine rd_ix_lst (by omega) (nms_at hi) ?_
  walk_at "w"
  rw [hl]
  refine csW ⟨rfl, p, d1, names.length, rfl, rfl, hd1, by omega, by omega, fun j d2 hj hd2 => ?_⟩
  refine rd_ix_lst (by omega) (nms_at hj) ?_
  walk_at "w"
  refine csW ⟨rfl, p, d2, 5, rfl, rfl, hd2, by decide, by decide, fun k d3 hk hd3 => ?_⟩
  have hmi := List.getElem_mem hi
  have hmj := List.getElem_mem hj
  have hk5 : k = 0 ∨ k = 1 ∨ k = 2 ∨ k = 3 ∨ k = 4 := by omega
  rcases hk5 with rfl | rfl | rfl | rfl | rfl
  · cases sets with
    | false =>
      walk_at "w"
      refine csW ⟨rfl, p, d3, names, rfl, rfl, hd3, ⟨hn1, hn4, hnw⟩, fun ts d4 hts hd4 => ?_⟩
      walk_at "w"
      exact hP (.add names[i] ts) d4 ⟨hmi, hts.vts⟩ hd4
    | true =>
      walk_at "w"
      refine csW ⟨rfl, p, d3, names, rfl, rfl, hd3, ⟨hn1, hn4, hnw⟩, fun ts d4 hts hd4 => ?_⟩
      walk_at "w"
      have hv := hts.vts
      obtain ⟨g1, g2, g3, g4⟩ := hts
      match ts, hv, g1, g2, g3, g4 with
      | [], _, g1, _, _, _ => exact absurd rfl g1
      | [t], hv, g1, g2, g3, g4 =>
        refine rd_eq_int_t rfl ?_
        walk_at "w"
        refine rd_eq_dat (by cases t.2 <;> rfl) rfl (shaped_eP (names := names) (g3 t (by simp)).2.2) rfl ?_
        rw [eqv_none]
        by_cases hq : t.2 = none
        · rw [decide_eq_true hq]
          walk_at "w"
          refine hP (.set names[i] [(t.1, some names[j])]) d4 ⟨hmi, ⟨by simp, Nat.le_of_ble_eq_true rfl, fun t' ht' => ?_, by simp⟩, rfl, ⟨_, List.mem_singleton.mpr rfl, fun e => by cases e⟩⟩ hd4
          obtain rfl : t' = (t.1, some names[j]) := by simpa using ht'
          have := g3 t (by simp)
          exact ⟨this.1, by show t.1 ≤ 9; omega, hmj, hnw _ hmj⟩
        · rw [decide_eq_false hq]
          walk_at "w"
          exact hP (.set names[i] [t]) d4 ⟨hmi, hv, rfl, ⟨t, by simp, hq⟩⟩ hd4
      | a :: b :: ts, hv, g1, g2, g3, g4 =>
        refine rd_eq_int_f (by rw [List.length_map, List.length_cons, List.length_cons]; omega) ?_
        walk_at "w"
        have hab := (List.pairwise_cons.mp g4).1 b (by simp)
        refine hP (.set names[i] (a :: b :: ts)) d4 ⟨hmi, hv, rfl, ⟨b, by simp, fun e => ?_⟩⟩ hd4
        rw [e] at hab
        cases h : a.2 <;> rw [h] at hab <;> exact hab
  · walk_at "w"
    refine csW ⟨rfl, p, d3, 3, rfl, rfl, hd3, by decide, by decide, fun c d4 hc hd4 => ?_⟩
    walk_at "w"
    refine csW ⟨rfl, p, d4, names, rfl, rfl, hd4, ⟨hn1, hn4, hnw⟩, fun q d5 hq hd5 => ?_⟩
    walk_at "w"
    exact hP (.lift names[i] (1 + (c : Nat), q)) d5 ⟨hmi, by show (1 : Int) ≤ 1 + (c : Nat); omega, by show (1 : Int) + (c : Nat) ≤ 9; omega, hq⟩ hd5
  · walk_at "w"
    refine csW ⟨rfl, p, d3, 3, rfl, rfl, hd3, by decide, by decide, fun c d4 hc hd4 => ?_⟩
    walk_at "w"
    refine csW ⟨rfl, p, d4, names, rfl, rfl, hd4, ⟨hn1, hn4, hnw⟩, fun q d5 hq hd5 => ?_⟩
    walk_at "w"
    exact hP (.lift names[i] (1 + (c : Nat), q)) d5 ⟨hmi, by show (1 : Int) ≤ 1 + (c : Nat); omega, by show (1 : Int) + (c : Nat) ≤ 9; omega, hq⟩ hd5
  · walk_at "w"
    refine csW ⟨rfl, p, d3, names, rfl, rfl, hd3, ⟨hn1, hn4, hnw⟩, fun ts d4 hts hd4 => ?_⟩
    walk_at "w"
    exact hP (.add names[i] ts) d4 ⟨hmi, hts.vts⟩ hd4
  · walk_at "w"
    refine csW ⟨rfl, p, d3, names, rfl, rfl, hd3, ⟨hn1, hn4, hnw⟩, fun ts d4 hts hd4 => ?_⟩
    walk_at "w"
    exact hP (.add names[i] ts) d4 ⟨hmi, hts.vts⟩ hd4
end
end Hw
/-! HwY -/
namespace Hw
def gw (p rp lp : Addr) (x : Cw) (s : Gs) : Own := [(p, .lst (eDc s.d)), (rp, .lst [.int s.r0, .int s.r1, .int s.r2]), (lp, .lst (s.es.map fun e => .adr e.a))] ++ s.es.map fun e => (e.a, .lst [.str e.w, .int e.c, .int (x.beGr e.w).d])
structure GsOk (x : Cw) (s : Gs) : Prop where
  d : DcOk s.d
  es : ∀ en ∈ s.es, EntOk x en
  t : tP x s ≤ 3
structure Gn (x : Cw) (deep loops n : Nat) : Prop where
  nm : NmsOk x.names
  dp : deep + n = 4
  d3 : deep ≤ 3
  l2 : loops ≤ 2
  dm : 0 ≤ x.dm
/-- what a drawn block is -/
structure GB (x : Cw) (deep loops most : Nat) (sets : Bool) (s s' : Gs) (b : Blk) : Prop where
  v : VB x.names x.words sets b
  k : KB x.beGr x.kvs b
  d : dB b ≤ 3 - deep
  l : b.len ≤ most
  ac : Ac x deep loops s s' (joinM (mL x.beGr b))
  ok : GsOk x s'
structure GS (x : Cw) (deep loops : Nat) (sets : Bool) (s s' : Gs) (st : Stm) : Prop where
  v : VS x.names x.words sets st
  k : KS x.beGr x.kvs st
  d : dS st ≤ 3 - deep
  ac : Ac x deep loops s s' (mS x.beGr st)
  ok : GsOk x s'
def gargs (p rp lp : Addr) (x : Cw) (deep loops : Nat) (sets : Bool) : List D := [.adr p, .lst (nms x.names), .adr lp, .adr rp, .int deep, .int loops, .bl sets, .lst [.int 3, .int 1]]
def S_law_block (n : Nat) : DSpec := fun ds w P _ => ds.length = 9 ∧ ∃ (x : Cw) (p rp lp : Addr) (s : Gs) (deep loops most : Nat) (sets : Bool), ds = gargs p rp lp x deep loops sets ++ [.int most] ∧ w = gw p rp lp x s ∧ Gn x deep loops n ∧ GsOk x s ∧ most ≤ 4 ∧
  ∀ b s', GB x deep loops most sets s s' b → P (.tup (eB b)) (gw p rp lp x s')
def S_law_statement (n : Nat) : DSpec := fun ds w P _ => ds.length = 8 ∧ ∃ (x : Cw) (p rp lp : Addr) (s : Gs) (deep loops : Nat) (sets : Bool), ds = gargs p rp lp x deep loops sets ∧ w = gw p rp lp x s ∧ Gn x deep loops n ∧ GsOk x s ∧
  (∀ s', Ac x deep loops s s' ms0 → GsOk x s' → P .non (gw p rp lp x s')) ∧ ∀ st s', GS x deep loops sets s s' st → P (eS st) (gw p rp lp x s')
theorem Ac.dl {x : Cw} {deep loops : Nat} {s s' : Gs} {d' : Dc} {m : Ms} (h : Ac x deep loops { s with d := d' } s' m) : Ac x deep loops s s' m := ⟨h.b0, h.b, h.a0, h.a, h.c0, h.c, h.d0, h.d, h.e0, h.e, h.f0, h.f, h.t⟩
theorem eS_non : ∀ st : Stm, isNonD (eS st) = false
  | .row (.add _ _) => rfl
  | .row (.lift _ _) => rfl
  | .row (.set _ _) => rfl
  | .loop _ _ => rfl
  | .alt _ _ => rfl
  | .call _ => rfl
theorem mL_app (beGr : Str → Ms) : ∀ a b : Blk, mL beGr (a.app b) = mL beGr a ++ mL beGr b
  | .nil, _ => rfl
  | .cons s a, b => by show mS beGr s :: mL beGr (a.app b) = mS beGr s :: (mL beGr a ++ mL beGr b); rw [mL_app beGr a b]
theorem VB_app {names words : List Str} {sets : Bool} : ∀ a b : Blk, VB names words sets (a.app b) ↔ VB names words sets a ∧ VB names words sets b
  | .nil, b => by simp [Blk.app, VB]
  | .cons s a, b => by
    have := VB_app (names := names) (words := words) (sets := sets) a b
    show VB names words sets (.cons s (a.app b)) ↔ _
    simp only [VB, this, and_assoc]
theorem KB_app {beGr : Str → Ms} {kvs : List (Str × D)} : ∀ a b : Blk, KB beGr kvs (a.app b) ↔ KB beGr kvs a ∧ KB beGr kvs b
  | .nil, b => by simp [Blk.app, KB]
  | .cons s a, b => by
    have := KB_app (beGr := beGr) (kvs := kvs) a b
    show KB beGr kvs (.cons s (a.app b)) ↔ _
    simp only [KB, this, and_assoc]
theorem dB_app : ∀ a b : Blk, dB (a.app b) = max (dB a) (dB b)
  | .nil, b => by simp [Blk.app, dB]
  | .cons s a, b => by
    have := dB_app a b
    show dB (.cons s (a.app b)) = _
    simp only [dB, this]
    omega
theorem len_app2 : ∀ a b : Blk, (a.app b).len = a.len + b.len
  | .nil, b => by simp [Blk.app, Blk.len]
  | .cons s a, b => by
    have := len_app2 a b
    show (a.app b).len + 1 = a.len + 1 + b.len
    omega
theorem GB.snoc {x : Cw} {deep loops most : Nat} {sets : Bool} {s s1 s2 : Gs} {b : Blk} {st : Stm} (h : GB x deep loops most sets s s1 b) (g : GS x deep loops sets s1 s2 st) : GB x deep loops (most + 1) sets s s2 (b.app (.cons st .nil)) where
  v := (VB_app _ _).mpr ⟨h.v, by simp only [VB]; exact ⟨g.v, trivial⟩⟩
  k := (KB_app _ _).mpr ⟨h.k, by simp only [KB]; exact ⟨⟨g.k, g.ac.bd⟩, trivial⟩⟩
  d := by
    have h1 := h.d
    have h2 := g.d
    rw [dB_app]
    simp only [dB]
    omega
  l := by rw [len_app2]; have := h.l; show b.len + 1 ≤ _; omega
  ac := by
    have e : mL x.beGr (b.app (.cons st .nil)) = mL x.beGr b ++ [mS x.beGr st] := by rw [mL_app]; rfl
    rw [e, joinM_snoc]
    exact h.ac.add g.ac
  ok := g.ok
theorem GB.pass {x : Cw} {deep loops most : Nat} {sets : Bool} {s s1 s2 : Gs} {b : Blk} (h : GB x deep loops most sets s s1 b) (g : Ac x deep loops s1 s2 ms0) (ok : GsOk x s2) : GB x deep loops (most + 1) sets s s2 b where
  v := h.v
  k := h.k
  d := h.d
  l := by have := h.l; omega
  ac := by
    have := h.ac.add g
    have e : (joinM (mL x.beGr b)).add ms0 = joinM (mL x.beGr b) := by
      have h1 := h.ac.c0
      have h2 := h.ac.d0
      have h3 := h.ac.f0
      generalize joinM (mL x.beGr b) = m at h1 h2 h3
      obtain ⟨a, b, c, d, e, f⟩ := m
      simp only [Ms.add, ms0, Ms.mk.injEq]
      refine ⟨by omega, by omega, ?_, ?_, by omega, ?_⟩
      · unfold imax; rw [if_neg (by show ¬ (0 : Int) > c; have : 0 ≤ c := h1; omega)]
      · unfold imax; rw [if_neg (by show ¬ (0 : Int) > d; have : 0 ≤ d := h2; omega)]
      · unfold imax; rw [if_neg (by show ¬ (1 : Int) > f; have : 1 ≤ f := h3; omega)]
    rw [e] at this
    exact this
  ok := ok
theorem own_last (w : Own) (e : Addr × D) : (w ++ [e])[w.length]? = some e := by rw [List.getElem?_append_right (Nat.le_refl _), Nat.sub_self]; rfl
theorem own_last_set (w : Own) (e e' : Addr × D) : (w ++ [e]).set w.length e' = w ++ [e'] := by rw [List.set_append_right _ _ (Nat.le_refl _), Nat.sub_self]; rfl
section
variable {P : Program} {w : World} {K : PySem.W.Frag} {mg : Str → Option Value} {base : Heap} {T : Addr}
abbrev st_law_block : Stmt := top 79
abbrev N_law_block : List Str := ["_law_dice_here", "_law_names_here", "_law_words", "_law_room", "_law_deep", "_law_loops_here", "_law_sets", "_law_top", "_law_most", "_law_block_here", "_law_k", "_law_statement_here"]
theorem sc_law_block : FnScope N_law_block ["_law_dice_here", "_law_names_here", "_law_words", "_law_room", "_law_deep", "_law_loops_here", "_law_sets", "_law_top", "_law_most"] (defScope st_law_block) := ⟨rfl, rfl, rfl, by decide +kernel, rfl, by decide +kernel, by decide +kernel⟩

theorem ok_law_block {k : Nat} {n : Nat} (bl : Blt mg) (F : DefAt K mg "_law_block" st_law_block ["_law_dice_here", "_law_names_here", "_law_words", "_law_room", "_law_deep", "_law_loops_here", "_law_sets", "_law_top", "_law_most"]) (h__law_draw : Has P w K mg base CX0 "_law_draw" ["_law_dice_here", "_law_many"] k (spOf K T S_law_draw)) (h__law_statement : Has P w K mg base CX0 "_law_statement" ["_law_dice_here", "_law_names_here", "_law_words", "_law_room", "_law_deep", "_law_loops_here", "_law_sets", "_law_top"] k (spOf K T (S_law_statement n))) : Has P w K mg base CX0 "_law_block" ["_law_dice_here", "_law_names_here", "_law_words", "_law_room", "_law_deep", "_law_loops_here", "_law_sets", "_law_top", "_law_most"] (k + 1) (spOf K T (S_law_block n)) := by
  refine defD F sc_law_block (fun _ _ _ _ h => h.1) fun f cdv A outer s H E hr => ?_
  have hu := hu_of hr
  have hu64 := hr.units
  have nd := sc_law_block.nd
  refine ⟨_, (pss_cons (ps_set (i := 9) nd rfl (Or.inl rfl) (pe_lst pa_nil))
      (pss_cons (ps_for PassesOwn.never rfl (pi_range1 rfl bl.range (pa_cons (pe_callH h__law_draw hr rfl pass0 (pa_cons (pv 0) (pa_cons (pe_op (k_plus (K := K) rfl) (pv 8) pe_int) pa_nil))) pa_nil)) (pg_name (i := 10) nd rfl (Or.inl rfl))
        (pss_cons (ps_set (i := 11) nd rfl (Or.inl rfl) (pe_callH h__law_statement hr rfl pass0 (pa_cons (pv 0) (pa_cons (pv 1) (pa_cons (pv 2) (pa_cons (pv 3) (pa_cons (pv 4) (pa_cons (pv 5) (pa_cons (pv 6) (pa_cons (pv 7) pa_nil))))))))))
        (pss_one (ps_if (pt_cmpR op_notN (pv 11) pe_non (nomark _))
          (pss_one (ps_expr (pe_bm PySem.F.plainAttrs_list PySem.F.slot_list_append PySem.F.type_list_append mt_append (pv 9) (pa_cons (pv 11) pa_nil))))
          pss_nil))))
      (pss_one (ps_ret (pe_callTy (k_tuple (K := K) rfl) rfl bl.tuple bt_tuple (pa_cons (pv 9) pa_nil)))))), ?_⟩
  rintro ds w P X ⟨-, x, p, rp, lp, s, deep, loops, most, sets, rfl, rfl, hG, hs, hm, hP⟩
  refine ws_seq (ws_asg (we_lstO ?_))
  walk_at "w"
  intro q
  refine ws_seq (ws_forU (wi_rng1 ?_))
  walk_at "w"
  refine cpF (mine := dw p s.d) rfl ⟨rfl, p, s.d, most + 1, rfl, rfl, hs.d, by omega, by omega, fun r d1 hr hd1 => ?_⟩
  walk_at "w"
  refine ⟨_, rfl, by omega, by omega, fun _ => trivial, ?_⟩
  rw [Int.toNat_natCast]
  have hl : (iterN r).length = r := iterN_len _
  refine turns_ind (A := Gs × Blk) (fun z ds rhGr w' => (∃ m, ds.length + m = r ∧ GB x deep loops m sets { s with d := d1 } z.1 z.2) ∧ (∃ v10 v11, rhGr = (gargs p rp lp x deep loops sets).map some ++ [some (.int most), some (.adr q), v10, v11]) ∧ w' = gw p rp lp x z.1 ++ [(q, .lst (eB z.2))]) ?_ ?_ ({ s with d := d1 }, .nil) ⟨⟨0, by rw [hl, Nat.add_zero], by simp only [VB], by simp only [KB], Nat.zero_le _, Nat.le_refl _, Ac.nil hG.d3 hG.l2 hG.dm, hd1, hs.es, hs.t⟩, ⟨none, none, rfl⟩, rfl⟩
  · rintro ⟨s1, b⟩ rhGr w' ⟨⟨m, h1, h2⟩, ⟨v10, v11, rfl⟩, rfl⟩
    have h1' : 0 + m = r := h1
    refine ws_ret (we_trim ?_)
    walk_at "w"
    refine rc_tupleO (gw p rp lp x s1).length (own_last _ _) ?_
    refine ⟨gw p rp lp x s1, _, rfl, hP b s1 ⟨h2.v, h2.k, h2.d, by have hbl : b.len ≤ m := h2.l; omega, h2.ac.dl, h2.ok⟩⟩
  · rintro ⟨s1, b⟩ y ys rhGr w' ⟨⟨m, h1, h2⟩, ⟨v10, v11, rfl⟩, rfl⟩
    have h1' : ys.length + 1 + m = r := h1
    walk_at "w"
    refine cpF (mine := gw p rp lp x s1) rfl ⟨rfl, x, p, rp, lp, s1, deep, loops, sets, rfl, rfl, hG, h2.ok, fun s2 a ok => ?_, fun st s2 g => ?_⟩
    · walk_at "w"
      refine rd_notN ?_
      walk_at "w"
      exact ⟨(s2, b), ⟨m + 1, by show ys.length + (m + 1) = r; omega, h2.pass a ok⟩, ⟨_, _, rfl⟩, rfl⟩
    · walk_at "w"
      refine rd_notN ?_
      rw [eS_non]
      walk_at "w"
      refine we_append ?_
      walk_at "w"
      refine ⟨q, rfl, ⟨(gw p rp lp x s2).length, _, own_last _ _⟩, ?_⟩
      walk_at "w"
      refine ⟨(gw p rp lp x s2).length, _, own_last _ _, by rw [eB_len]; have hbl : b.len ≤ m := h2.l; show b.len < _; omega, ?_⟩
      rw [own_last_set]
      exact ⟨(s2, b.app (.cons st .nil)), ⟨m + 1, by show ys.length + (m + 1) = r; omega, h2.snoc g⟩, ⟨_, _, rfl⟩, by rw [eB_app]; rfl⟩
end
end Hw
/-! HwZ -/
namespace Hw
def toBls : List Blk → Bls
  | [] => .nil
  | b :: bs => .cons b (toBls bs)
theorem eBs_to : ∀ bs : List Blk, eBs (toBls bs) = bs.map fun b => D.tup (eB b)
  | [] => rfl
  | b :: bs => by show D.tup (eB b) :: eBs (toBls bs) = _; rw [eBs_to bs]; rfl
theorem len_to : ∀ bs : List Blk, (toBls bs).len = bs.length
  | [] => rfl
  | b :: bs => by show (toBls bs).len + 1 = _; rw [len_to bs]; rfl
theorem mLs_to (beGr : Str → Ms) : ∀ bs : List Blk, mLs beGr (toBls bs) = bs.map fun b => joinM (mL beGr b)
  | [] => rfl
  | b :: bs => by show joinM (mL beGr b) :: mLs beGr (toBls bs) = _; rw [mLs_to beGr bs]; rfl
theorem VBs_to {names words : List Str} {sets : Bool} : ∀ bs : List Blk, (∀ b ∈ bs, b.len ≤ 40 ∧ VB names words sets b) → VBs names words sets (toBls bs)
  | [], _ => by simp only [toBls, VBs]
  | b :: bs, h => by
    simp only [toBls, VBs]
    exact ⟨h b (by simp), VBs_to bs fun c hc => h c (List.mem_cons_of_mem _ hc)⟩
theorem KBs_to {beGr : Str → Ms} {kvs : List (Str × D)} : ∀ bs : List Blk, (∀ b ∈ bs, b.len ≤ 40 ∧ KB beGr kvs b ∧ Bd (joinM (mL beGr b)).e) → KBs beGr kvs (toBls bs)
  | [], _ => by simp only [toBls, KBs]
  | b :: bs, h => by
    simp only [toBls, KBs]
    exact ⟨h b (by simp), KBs_to bs fun c hc => h c (List.mem_cons_of_mem _ hc)⟩
theorem dBs_to {n : Nat} : ∀ bs : List Blk, (∀ b ∈ bs, dB b ≤ n) → dBs (toBls bs) ≤ n
  | [], _ => Nat.zero_le _
  | b :: bs, h => by
    simp only [toBls, dBs]
    have := h b (by simp)
    have := dBs_to bs fun c hc => h c (List.mem_cons_of_mem _ hc)
    omega
theorem gw_r2 {p rp lp : Addr} {x : Cw} {s : Gs} (h : 0 < s.r2) : (gw p rp lp x s).set 1 (rp, .lst [.int s.r0, .int s.r1, .int ((s.r2 : Int) - 1)]) = gw p rp lp x { s with r2 := s.r2 - 1 } := by
  rw [show (s.r2 : Int) - 1 = ((s.r2 - 1 : Nat) : Int) by omega]; rfl
theorem gw_r1 {p rp lp : Addr} {x : Cw} {s : Gs} (h : 0 < s.r1) : (gw p rp lp x s).set 1 (rp, .lst [.int s.r0, .int ((s.r1 : Int) - 1), .int s.r2]) = gw p rp lp x { s with r1 := s.r1 - 1 } := by
  rw [show (s.r1 : Int) - 1 = ((s.r1 - 1 : Nat) : Int) by omega]; rfl
theorem gw_r0 {p rp lp : Addr} {x : Cw} {s : Gs} (h : 0 < s.r0) : (gw p rp lp x s).set 1 (rp, .lst [.int ((s.r0 : Int) - 1), .int s.r1, .int s.r2]) = gw p rp lp x { s with r0 := s.r0 - 1 } := by
  rw [show (s.r0 : Int) - 1 = ((s.r0 - 1 : Nat) : Int) by omega]; rfl
theorem map_set {alGr beGr : Type} (f : alGr → beGr) : ∀ (l : List alGr) (i : Nat) (a : alGr), (l.set i a).map f = (l.map f).set i (f a)
  | [], _, _ => rfl
  | _ :: _, 0, _ => rfl
  | x :: l, i + 1, a => by show f x :: (l.set i a).map f = f x :: (l.map f).set i (f a); rw [map_set f l i a]
theorem set_self {alGr : Type} : ∀ {l : List alGr} {i : Nat} {a : alGr}, l[i]? = some a → l.set i a = l
  | [], _, _, h => by simp at h
  | x :: l, 0, a, h => by simp at h; subst h; rfl
  | x :: l, i + 1, a, h => by show x :: l.set i a = x :: l; rw [set_self (by simpa using h)]
theorem gw_e {p rp lp : Addr} {x : Cw} {s : Gs} {i : Nat} {en : Ent} (hi : s.es[i]? = some en) (h : 0 < en.c) : (gw p rp lp x s).set (3 + i) (en.a, .lst [.str en.w, .int ((en.c : Int) - 1), .int (x.beGr en.w).d]) = gw p rp lp x { s with es := s.es.set i { en with c := en.c - 1 } } := by
  rw [show (en.c : Int) - 1 = ((en.c - 1 : Nat) : Int) by omega, Nat.add_comm]
  show _ :: _ :: _ :: (s.es.map _).set i _ = _ :: _ :: _ :: ((s.es.set i _).map _)
  have e1 : (s.es.map fun e => D.adr e.a).set i (.adr en.a) = s.es.map fun e => D.adr e.a := set_self (by rw [List.getElem?_map, hi]; rfl)
  rw [map_set]
  show _ :: _ :: (lp, D.lst _) :: _ = _ :: _ :: (lp, D.lst ((s.es.map fun e => D.adr e.a).set i (.adr en.a))) :: _
  rw [e1]
  show _ :: _ :: _ :: (s.es.map _).set i _ = _ :: _ :: _ :: ((s.es.set i _).map _)
  rw [map_set]
theorem gw_at {p rp lp : Addr} {x : Cw} {s : Gs} {i : Nat} {en : Ent} (hi : s.es[i]? = some en) : (gw p rp lp x s)[3 + i]? = some (en.a, .lst [.str en.w, .int en.c, .int (x.beGr en.w).d]) := by
  rw [Nat.add_comm]
  show (s.es.map _)[i]? = _
  rw [List.getElem?_map, hi]; rfl
section
variable {P : Program} {w : World} {K : PySem.W.Frag} {mg : Str → Option Value} {base : Heap} {T : Addr}
abbrev st_law_statement : Stmt := top 78
abbrev N_law_statement : List Str := ["_law_dice_here", "_law_names_here", "_law_words", "_law_room", "_law_deep", "_law_loops_here", "_law_sets", "_law_top", "_law_kind", "_law_name", "_law_many", "_law_blocks", "_law_k", "_law_entry"]
theorem sc_law_statement : FnScope N_law_statement ["_law_dice_here", "_law_names_here", "_law_words", "_law_room", "_law_deep", "_law_loops_here", "_law_sets", "_law_top"] (defScope st_law_statement) := ⟨rfl, rfl, rfl, by decide +kernel, rfl, by decide +kernel, by decide +kernel⟩

theorem ok_law_statement {k : Nat} {n : Nat} (bl : Blt mg) (F : DefAt K mg "_law_statement" st_law_statement ["_law_dice_here", "_law_names_here", "_law_words", "_law_room", "_law_deep", "_law_loops_here", "_law_sets", "_law_top"]) (h__law_draw : Has P w K mg base CX0 "_law_draw" ["_law_dice_here", "_law_many"] k (spOf K T S_law_draw)) (h__law_block : Has P w K mg base CX0 "_law_block" ["_law_dice_here", "_law_names_here", "_law_words", "_law_room", "_law_deep", "_law_loops_here", "_law_sets", "_law_top", "_law_most"] k (spOf K T (S_law_block n))) (h__law_row : Has P w K mg base CX0 "_law_row" ["_law_dice_here", "_law_names_here", "_law_sets", "_law_top"] k (spOf K T S_law_row)) : Has P w K mg base CX0 "_law_statement" ["_law_dice_here", "_law_names_here", "_law_words", "_law_room", "_law_deep", "_law_loops_here", "_law_sets", "_law_top"] (k + 1) (spOf K T (S_law_statement (n + 1))) := by
  refine defD F sc_law_statement (fun _ _ _ _ h => h.1) fun f cdv A outer s H E hr => ?_
  have hu := hu_of hr
  have hu64 := hr.units
  have nd := sc_law_statement.nd
  refine ⟨_, (pss_cons (ps_set (i := 8) nd rfl (Or.inl rfl) (pe_callH h__law_draw hr rfl pass0 (pa_cons (pv 0) (pa_cons pe_int pa_nil))))
      (pss_cons (ps_set (i := 9) nd rfl (Or.inl rfl) (pe_ix (k_ix (K := K) rfl hu) (pv 1) (pe_callH h__law_draw hr rfl pass0 (pa_cons (pv 0) (pa_cons (pe_callB (k_len (K := K) rfl) rfl bl.len bt_len (pa_cons (pv 1) pa_nil)) pa_nil))) (fun _ _ => rfl)))
      (pss_cons (ps_if (PW.pt (pw_and (pt_cmpR op_leX (pv 8) pe_int (nomark _)) (pw_and (pt_cmpR (k_lt (K := K) rfl hu64) (pv 4) pe_int (nomark _)) (pw_and (pt_cmpR (k_lt (K := K) rfl hu64) (pv 5) pe_int (nomark _)) (pw_and1 (pt_cmpR op_gt (pe_ix (k_ix (K := K) rfl hu) (pv 3) pe_int (fun _ _ => rfl)) pe_int (nomark _)))))))
        (pss_cons (ps_asg (pe_op op_sub (pe_ix (k_ix (K := K) rfl hu) (pv 3) pe_int (fun _ _ => rfl)) pe_int) (pg_sub (pv 3) pe_int (set_X hu)))
        (pss_one (ps_ret (pe_tup (pa_cons pe_str (pa_cons (pv 9) (pa_cons (pe_callH h__law_block hr rfl pass0 (pa_cons (pv 0) (pa_cons (pv 1) (pa_cons (pv 2) (pa_cons (pv 3) (pa_cons (pe_op (k_plus (K := K) rfl) (pv 4) pe_int) (pa_cons (pe_op (k_plus (K := K) rfl) (pv 5) pe_int) (pa_cons pe_bl (pa_cons (pv 7) (pa_cons pe_int pa_nil)))))))))) pa_nil)))))))
        pss_nil)
      (pss_cons (ps_if (PW.pt (pw_and (pt_chain op_leX op_leX pe_int (pv 8) pe_int) (pw_and (pt_cmpR (k_lt (K := K) rfl hu64) (pv 4) pe_int (nomark _)) (pw_and1 (pt_cmpR op_gt (pe_ix (k_ix (K := K) rfl hu) (pv 3) pe_int (fun _ _ => rfl)) pe_int (nomark _))))))
        (pss_cons (ps_set (i := 10) nd rfl (Or.inl rfl) pe_int)
        (pss_cons (ps_if (pt_cmpR (k_eq (K := K) rfl hu64) (pe_ix (k_ix (K := K) rfl hu) (pv 3) pe_int (fun _ _ => rfl)) pe_int (nomark _))
          (pss_one (ps_set (i := 10) nd rfl (Or.inl rfl) (pe_op (k_plus (K := K) rfl) pe_int (pe_callH h__law_draw hr rfl pass0 (pa_cons (pv 0) (pa_cons pe_int pa_nil))))))
          pss_nil)
        (pss_cons (ps_asg (pe_op op_sub (pe_ix (k_ix (K := K) rfl hu) (pv 3) pe_int (fun _ _ => rfl)) pe_int) (pg_sub (pv 3) pe_int (set_X hu)))
        (pss_cons (ps_set (i := 11) nd rfl (Or.inl rfl) (pe_lst pa_nil))
        (pss_cons (ps_for PassesOwn.never rfl (pi_range1 rfl bl.range (pa_cons (pv 10) pa_nil)) (pg_name (i := 12) nd rfl (Or.inl rfl))
          (pss_one (ps_expr (pe_bm PySem.F.plainAttrs_list PySem.F.slot_list_append PySem.F.type_list_append mt_append (pv 11) (pa_cons (pe_callH h__law_block hr rfl pass0 (pa_cons (pv 0) (pa_cons (pv 1) (pa_cons (pv 2) (pa_cons (pv 3) (pa_cons (pe_op (k_plus (K := K) rfl) (pv 4) pe_int) (pa_cons (pv 5) (pa_cons (pv 6) (pa_cons (pv 7) (pa_cons pe_int pa_nil)))))))))) pa_nil)))))
        (pss_one (ps_ret (pe_tup (pa_cons (pe_ix (k_ix (K := K) rfl hu) (pe_lst (pa_cons pe_str (pa_cons pe_str pa_nil))) (pe_callH h__law_draw hr rfl pass0 (pa_cons (pv 0) (pa_cons pe_int pa_nil))) (fun _ _ => rfl)) (pa_cons (pe_callTy (k_tuple (K := K) rfl) rfl bl.tuple bt_tuple (pa_cons (pv 11) pa_nil)) pa_nil))))))))))
        pss_nil)
      (pss_cons (ps_if (pt_cmpR (k_eq (K := K) rfl hu64) (pv 8) pe_int (nomark _))
        (pss_one (ps_for PassesOwn.never rfl (k_walk (K := K) rfl (pv 2)) (pg_name (i := 13) nd rfl (Or.inl rfl))
          (pss_one (ps_if (PW.pt (pw_and (pt_cmpR op_gt (pe_ix (k_ix (K := K) rfl hu) (pv 13) pe_int (fun _ _ => rfl)) pe_int (nomark _)) (pw_and1 (pt_cmpR op_leX (pe_op (k_plus (K := K) rfl) (pv 5) (pe_ix (k_ix (K := K) rfl hu) (pv 13) pe_int (fun _ _ => rfl))) pe_int (nomark _)))))
            (pss_cons (ps_asg (pe_op op_sub (pe_ix (k_ix (K := K) rfl hu) (pv 13) pe_int (fun _ _ => rfl)) pe_int) (pg_sub (pv 13) pe_int (set_X hu)))
            (pss_one (ps_ret (pe_tup (pa_cons pe_str (pa_cons (pe_ix (k_ix (K := K) rfl hu) (pv 13) pe_int (fun _ _ => rfl)) pa_nil))))))
            pss_nil))))
        pss_nil)
      (pss_cons (ps_if (pt_cmpR (k_eq (K := K) rfl hu64) (pe_ix (k_ix (K := K) rfl hu) (pv 3) pe_int (fun _ _ => rfl)) pe_int (nomark _))
        (pss_one (ps_ret pe_non))
        pss_nil)
      (pss_cons (ps_asg (pe_op op_sub (pe_ix (k_ix (K := K) rfl hu) (pv 3) pe_int (fun _ _ => rfl)) pe_int) (pg_sub (pv 3) pe_int (set_X hu)))
      (pss_one (ps_ret (pe_callH h__law_row hr rfl pass0 (pa_cons (pv 0) (pa_cons (pv 1) (pa_cons (pv 6) (pa_cons (pv 7) pa_nil)))))))))))))), ?_⟩
  rintro ds w P X ⟨-, x, p, rp, lp, s, deep, loops, sets, rfl, rfl, hG, hs, hPn, hPs⟩
  obtain ⟨hn1, hn4, hnw⟩ := hG.nm
  have hl : (nms x.names).length = x.names.length := List.length_map ..
  have hdp := hG.dp
  have hd3 := hG.d3
  walk_at "w"
  refine cpF (mine := dw p s.d) rfl ⟨rfl, p, s.d, 9, rfl, rfl, hs.d, by decide, by decide, fun k d1 hk hd1 => ?_⟩
  walk_at "w"
  rw [hl]
  refine cpF (mine := dw p d1) rfl ⟨rfl, p, d1, x.names.length, rfl, rfl, hd1, by omega, by omega, fun i d2 hi hd2 => ?_⟩
  refine rd_ix_lst (by omega) (nms_at hi) ?_
  have hmi := List.getElem_mem hi
  generalize hnm : x.names[i] = name at hmi
  refine WS.own (w' := gw p rp lp x { s with d := d2 }) rfl ?_
  have hs2 : GsOk x { s with d := d2 } := ⟨hd2, hs.es, hs.t⟩
  refine ws_seq (WS.imp (PO := fun o => o = .nx ((gargs p rp lp x deep loops sets).map some ++ [some (.int (k : Nat)), some (.str name), none, none, none, none]) (gw p rp lp x { s with d := d2 }) ∨ ∃ d w, o = .rt d w ∧ P d w) ?_ ?_)
  · walk_at "w"
    by_cases h1 : k ≤ 1
    · refine rd_le_int_t (by omega) ?_
      walk_at "w"
      by_cases h2 : deep < 3
      · refine rd_lt_int_t (by omega) ?_
        walk_at "w"
        by_cases h3 : loops < 2
        · refine rd_lt_int_t (by omega) ?_
          walk_at "w"
          refine rd_ix_lstO 1 rfl (by decide) rfl ?_
          walk_at "w"
          by_cases h4 : 0 < s.r2
          · refine rd_gt_t (by show (0 : Int) < (s.r2 : Nat); omega) ?_
            walk_at "w"
            refine rd_ix_lstO 1 rfl (by decide) rfl ?_
            walk_at "w"
            refine wg_subL ?_
            walk_at "w"
            refine ⟨rp, rfl, ?_⟩
            walk_at "w"
            refine ⟨2, rfl, 1, _, rfl, Nat.le_of_ble_eq_true rfl, ?_⟩
            refine WS.own (gw_r2 (s := { s with d := d2 }) h4) ?_
            walk_at "w"
            refine csW ⟨rfl, x, p, rp, lp, { s with r2 := s.r2 - 1, d := d2 }, deep + 1, loops + 1, 3, false, rfl, rfl, ⟨hG.nm, by omega, by omega, by omega, hG.dm⟩, ⟨hd2, hs.es, hs.t⟩, by decide, fun b s' g => ?_⟩
            walk_at "w"
            refine .inr ⟨_, _, rfl, hPs (.loop name b) s' ⟨⟨hmi, by have := g.l; omega, g.v⟩, ⟨by have := g.l; omega, g.k⟩, ?_, Ac.loop d2 g.ac h4 hs.t, g.ok⟩⟩
            have := g.d
            show dB b + 1 ≤ 3 - deep
            omega
          · refine rd_gt_f (by show ¬ (0 : Int) < (s.r2 : Nat); omega) ?_
            walk_at "w"
            exact .inl rfl
        · refine rd_lt_int_f (by omega) ?_
          walk_at "w"
          exact .inl rfl
      · refine rd_lt_int_f (by omega) ?_
        walk_at "w"
        exact .inl rfl
    · refine rd_le_int_f (by omega) ?_
      walk_at "w"
      exact .inl rfl
  rintro o ho
  rcases ho with rfl | ⟨d, w, rfl, h⟩
  rotate_left
  · exact h
  refine ws_seq (WS.imp (PO := fun o => o = .nx ((gargs p rp lp x deep loops sets).map some ++ [some (.int (k : Nat)), some (.str name), none, none, none, none]) (gw p rp lp x { s with d := d2 }) ∨ ∃ d w, o = .rt d w ∧ P d w) ?_ ?_)
  · walk_at "w"
    by_cases h1 : 2 ≤ k
    · refine rd_le_int_t (by omega) ?_
      walk_at "w"
      by_cases h1b : k ≤ 3
      · refine rd_le_int_t (by omega) ?_
        walk_at "w"
        by_cases h2 : deep < 3
        · refine rd_lt_int_t (by omega) ?_
          walk_at "w"
          refine rd_ix_lstO 1 rfl (by decide) rfl ?_
          walk_at "w"
          by_cases h4 : 0 < s.r1
          · refine rd_gt_t (by show (0 : Int) < (s.r1 : Nat); omega) ?_
            refine ex_b (and_t (ws_seq (ws_asg (we_int ?_))))
            refine ws_seq (WS.imp (PO := fun o => ∃ (m : Nat) (d3 : Dc), o = .nx ((gargs p rp lp x deep loops sets).map some ++ [some (.int (k : Nat)), some (.str name), some (.int (m : Nat)), none, none, none]) (gw p rp lp x { s with d := d3 }) ∧ DcOk d3 ∧ (m = 2 ∨ (m = 3 ∧ s.r1 = 3))) ?_ ?_)
            · walk_at "w"
              refine rd_ix_lstO 1 rfl (by decide) rfl ?_
              walk_at "w"
              by_cases h3 : s.r1 = 3
              · refine rd_eq_int_t (by show ((s.r1 : Nat) : Int) = 3; omega) ?_
                walk_at "w"
                refine cpF (mine := dw p d2) rfl ⟨rfl, p, d2, 2, rfl, rfl, hd2, by decide, by decide, fun r d3 hr hd3 => ?_⟩
                walk_at "w"
                refine ⟨2 + r, d3, ?_, hd3, by omega⟩
                rw [show ((2 + r : Nat) : Int) = (2 : Int) + (r : Nat) by omega]
                rfl
              · refine rd_eq_int_f (by show ¬ ((s.r1 : Nat) : Int) = 3; omega) ?_
                walk_at "w"
                exact ⟨2, d2, rfl, hd2, .inl rfl⟩
            · rintro o ⟨m, d3, rfl, hd3, hm⟩
              walk_at "w"
              refine rd_ix_lstO 1 rfl (by decide) rfl ?_
              walk_at "w"
              refine wg_subL ?_
              walk_at "w"
              refine ⟨rp, rfl, ?_⟩
              walk_at "w"
              refine ⟨1, rfl, 1, _, rfl, Nat.le_of_ble_eq_true rfl, ?_⟩
              refine WS.own (gw_r1 (s := { s with d := d3 }) h4) ?_
              refine ws_seq (ws_asg (we_lstO ?_))
              walk_at "w"
              intro q
              refine ws_seq (ws_forU (wi_rng1 ?_))
              walk_at "w"
              refine ⟨_, rfl, by omega, by omega, fun _ => trivial, ?_⟩
              rw [Int.toNat_natCast]
              have hml : (iterN m).length = m := iterN_len _
              refine turns_ind (A := Gs × List Blk) (fun z ds rhGr w' => ds.length + z.2.length = m ∧ (∀ b ∈ z.2, (b.len ≤ 40 ∧ VB x.names x.words sets b) ∧ KB x.beGr x.kvs b ∧ dB b ≤ 3 - (deep + 1) ∧ 1 ≤ (joinM (mL x.beGr b)).e ∧ Bd (joinM (mL x.beGr b)).e) ∧ Ac x (deep + 1) loops { s with r1 := s.r1 - 1, d := d3 } z.1 (joinM (z.2.map fun b => joinM (mL x.beGr b))) ∧ GsOk x z.1 ∧
                (∃ v12, rhGr = (gargs p rp lp x deep loops sets).map some ++ [some (.int (k : Nat)), some (.str name), some (.int (m : Nat)), some (.adr q), v12, none]) ∧ w' = gw p rp lp x z.1 ++ [(q, .lst (z.2.map fun b => D.tup (eB b)))]) ?_ ?_ ({ s with r1 := s.r1 - 1, d := d3 }, []) ⟨by rw [hml]; rfl, fun b hb => (by cases hb), Ac.nil (by omega) hG.l2 hG.dm, ⟨hd3, hs.es, by have := hs.t; unfold tP at this ⊢; show s.r1 - 1 + sumQ x.q s.es ≤ 3; omega⟩, ⟨none, rfl⟩, rfl⟩
              · rintro ⟨s1, acc⟩ rhGr w' ⟨g1, g2, g3, g4, ⟨v12, rfl⟩, rfl⟩
                have g1' : 0 + acc.length = m := g1
                refine ws_ret (we_trim ?_)
                refine we_tup (wa_cons (we_op (we_lst ?_)))
                walk_at "w"
                refine cpF (mine := dw p s1.d) rfl ⟨rfl, p, s1.d, 2, rfl, rfl, g4.d, by decide, by decide, fun r d4 hr hd4 => ?_⟩
                refine rd_ix_lst (d := .str (eW (decide (r = 1)))) (by omega) (by have : r = 0 ∨ r = 1 := by omega
                                                                                  rcases this with rfl | rfl <;> rfl) ?_
                walk_at "w"
                refine rc_tupleO (gw p rp lp x { s1 with d := d4 }).length (own_last (gw p rp lp x { s1 with d := d4 }) _) ?_
                walk_at "w"
                refine ⟨gw p rp lp x { s1 with d := d4 }, _, rfl, .inr ⟨_, _, rfl, ?_⟩⟩
                have hlen : (toBls acc).len = acc.length := len_to acc
                have ac1 : Ac x (deep + 1) loops { s with r1 := s.r1 - 1, d := d3 } { s1 with d := d4 } (joinM (acc.map fun b => joinM (mL x.beGr b))) := ⟨g3.b0, g3.b, g3.a0, g3.a, g3.c0, g3.c, g3.d0, g3.d, g3.e0, g3.e, g3.f0, g3.f, g3.t⟩
                have ac2 := Ac.alt (decide (r = 1)) d3 ac1 h4 hs.t (by
                  intro q hq
                  obtain ⟨b, hb, rfl⟩ := List.mem_map.mp hq
                  exact (g2 b hb).2.2.2.1) (by rw [List.length_map]; omega)
                have hres := hPs (.alt (decide (r = 1)) (toBls acc)) { s1 with d := d4 } ⟨⟨by omega, by omega, VBs_to acc fun b hb => (g2 b hb).1⟩, ⟨by omega, by omega, KBs_to acc fun b hb => ⟨(g2 b hb).1.1, (g2 b hb).2.1, (g2 b hb).2.2.2.2⟩⟩, ?_, ?_, ⟨hd4, g4.es, g4.t⟩⟩
                · rw [show eS (.alt (decide (r = 1)) (toBls acc)) = .tup [.str (eW (decide (r = 1))), .tup (eBs (toBls acc))] from rfl, eBs_to] at hres
                  exact hres
                · have := dBs_to acc fun b hb => (g2 b hb).2.2.1
                  show dBs (toBls acc) + 1 ≤ 3 - deep
                  omega
                · have em : mS x.beGr (.alt (decide (r = 1)) (toBls acc)) = ⟨(joinM (acc.map fun b => joinM (mL x.beGr b))).a + 1, (joinM (acc.map fun b => joinM (mL x.beGr b))).b, (joinM (acc.map fun b => joinM (mL x.beGr b))).c + 1, (joinM (acc.map fun b => joinM (mL x.beGr b))).d, if decide (r = 1) then (joinM (acc.map fun b => joinM (mL x.beGr b))).e * (if (acc.map fun b => joinM (mL x.beGr b)).length = 2 then 2 else 6) else ((acc.map fun b => joinM (mL x.beGr b)).map Ms.e).sum, (joinM (acc.map fun b => joinM (mL x.beGr b))).f⟩ := by
                    rw [List.length_map]
                    simp only [mS, mLs_to, len_to]
                  rw [em]
                  exact ac2
              · rintro ⟨s1, acc⟩ y ys rhGr w' ⟨g1, g2, g3, g4, ⟨v12, rfl⟩, rfl⟩
                have g1' : ys.length + 1 + acc.length = m := g1
                walk_at "w"
                refine we_append ?_
                walk_at "w"
                refine ⟨q, rfl, ⟨(gw p rp lp x s1).length, _, own_last _ _⟩, ?_⟩
                walk_at "w"
                refine cpF (mine := gw p rp lp x s1) rfl ⟨rfl, x, p, rp, lp, s1, deep + 1, loops, 2, sets, rfl, rfl, ⟨hG.nm, by omega, by omega, hG.l2, hG.dm⟩, g4, by decide, fun b s2 gb => ?_⟩
                refine ⟨(gw p rp lp x s2).length, _, own_last _ _, by rw [List.length_map]; show acc.length < _; omega, ?_⟩
                rw [own_last_set]
                refine ⟨(s2, acc ++ [b]), by show ys.length + (acc ++ [b]).length = m; rw [List.length_append]; show ys.length + (acc.length + 1) = m; omega, fun c hc => ?_, ?_, gb.ok, ⟨_, rfl⟩, by rw [List.map_append]; rfl⟩
                · rcases List.mem_append.mp hc with hc | hc
                  · exact g2 c hc
                  · obtain rfl : c = b := by simpa using hc
                    exact ⟨⟨by have := gb.l; omega, gb.v⟩, gb.k, gb.d, gb.ac.e0, gb.ac.bd⟩
                · show Ac x (deep + 1) loops _ s2 (joinM ((acc ++ [b]).map fun b => joinM (mL x.beGr b)))
                  rw [List.map_append]
                  show Ac x (deep + 1) loops _ s2 (joinM ((acc.map fun b => joinM (mL x.beGr b)) ++ [joinM (mL x.beGr b)]))
                  rw [joinM_snoc]
                  exact g3.add gb.ac
          · refine rd_gt_f (by show ¬ (0 : Int) < (s.r1 : Nat); omega) ?_
            walk_at "w"
            exact .inl rfl
        · refine rd_lt_int_f (by omega) ?_
          walk_at "w"
          exact .inl rfl
      · refine rd_le_int_f (by omega) ?_
        walk_at "w"
        exact .inl rfl
    · refine rd_le_int_f (by omega) ?_
      walk_at "w"
      exact .inl rfl
  rintro o ho
  rcases ho with rfl | ⟨d, w, rfl, h⟩
  rotate_left
  · exact h
  refine ws_seq (WS.imp (PO := fun o => (∃ v13, o = .nx ((gargs p rp lp x deep loops sets).map some ++ [some (.int (k : Nat)), some (.str name), none, none, none, v13]) (gw p rp lp x { s with d := d2 })) ∨ ∃ d w, o = .rt d w ∧ P d w) ?_ ?_)
  · walk_at "w"
    by_cases h1 : k = 4
    · refine rd_eq_int_t (by omega) ?_
      refine ex_b (and_t (ws_for (wi_anyO (we_var rfl ?_))))
      refine ⟨lp, s.es.map fun e => .adr e.a, rfl, ?_, fun i rhGr' w' => (∃ v13, rhGr' = (gargs p rp lp x deep loops sets).map some ++ [some (.int (k : Nat)), some (.str name), none, none, none, v13]) ∧ w' = gw p rp lp x { s with d := d2 }, ⟨⟨none, rfl⟩, rfl⟩, ?_, ?_, ?_⟩
      · exact List.mem_of_getElem? (i := 2) rfl
      · rintro i rhGr' w' ⟨_, rfl⟩
        exact List.mem_of_getElem? (i := 2) rfl
      · rintro i y rhGr' w' hy ⟨⟨v13, rfl⟩, rfl⟩
        rw [List.getElem?_map] at hy
        obtain ⟨en, hen, rfl⟩ := Option.map_eq_some_iff.mp hy
        have hok := hs.es en (List.mem_of_getElem? hen)
        have hat := gw_at (p := p) (rp := rp) (lp := lp) (x := x) (s := { s with d := d2 }) hen
        walk_at "w"
        refine rd_ix_lstO (3 + i) hat (by decide) rfl ?_
        walk_at "w"
        by_cases h2 : 0 < en.c
        · refine rd_gt_t (by omega) ?_
          walk_at "w"
          refine rd_ix_lstO (3 + i) hat (by decide) rfl ?_
          walk_at "w"
          by_cases h3 : (loops : Int) + (x.beGr en.w).d ≤ 2
          · refine rd_le_int_t h3 ?_
            walk_at "w"
            refine rd_ix_lstO (3 + i) hat (by decide) rfl ?_
            walk_at "w"
            refine wg_subL ?_
            walk_at "w"
            refine ⟨en.a, rfl, ?_⟩
            walk_at "w"
            refine ⟨1, rfl, 3 + i, _, hat, Nat.le_of_ble_eq_true rfl, ?_⟩
            refine WS.own (gw_e (s := { s with d := d2 }) hen h2) ?_
            walk_at "w"
            have hat2 : (gw p rp lp x { s with d := d2, es := s.es.set i { en with c := en.c - 1 } })[3 + i]? = some (en.a, .lst [.str en.w, .int ((en.c - 1 : Nat) : Int), .int (x.beGr en.w).d]) :=
              gw_at (s := { s with d := d2, es := s.es.set i { en with c := en.c - 1 } }) (en := { en with c := en.c - 1 }) (by show (s.es.set i _)[i]? = _; rw [List.getElem?_set_self (List.getElem?_eq_some_iff.mp hen).1])
            refine rd_ix_lstO (3 + i) hat2 (by decide) rfl ?_
            walk_at "w"
            have ac := Ac.call (x := x) (deep := deep) (loops := loops) (s := s) d2 hen h2 hok hG.d3 h3 hs.t
            refine .inr ⟨_, _, rfl, hPs (.call en.w) _ ⟨hok.w, hok.k, Nat.zero_le _, ac, hd2, fun e' he' => ?_, Nat.le_trans ac.t hs.t⟩⟩
            have he2 : e' ∈ s.es.set i { en with c := en.c - 1 } := he'
            rcases List.mem_or_eq_of_mem_set he2 with h9 | rfl
            · exact hs.es e' h9
            · exact ⟨hok.w, hok.k, hok.a, hok.b, hok.c0, hok.c, hok.d, hok.e0, hok.e, hok.f0, hok.f⟩
          · refine rd_le_int_f h3 ?_
            walk_at "w"
            exact ⟨⟨_, rfl⟩, rfl⟩
        · refine rd_gt_f (by omega) ?_
          walk_at "w"
          exact ⟨⟨_, rfl⟩, rfl⟩
      · rintro rhGr' w' ⟨⟨v13, rfl⟩, rfl⟩
        exact .inl ⟨v13, rfl⟩
    · refine rd_eq_int_f (by omega) ?_
      walk_at "w"
      exact .inl ⟨none, rfl⟩
  rintro o ho
  rcases ho with ⟨v13, rfl⟩ | ⟨d, w, rfl, h⟩
  rotate_left
  · exact h
  walk_at "w"
  refine rd_ix_lstO 1 rfl (by decide) rfl ?_
  walk_at "w"
  by_cases h0 : s.r0 = 0
  · refine rd_eq_int_t (by show ((s.r0 : Nat) : Int) = 0; omega) ?_
    walk_at "w"
    exact hPn { s with d := d2 } (Ac.nil hG.d3 hG.l2 hG.dm).dl hs2
  · refine rd_eq_int_f (by show ¬ ((s.r0 : Nat) : Int) = 0; omega) ?_
    walk_at "w"
    refine rd_ix_lstO 1 rfl (by decide) rfl ?_
    walk_at "w"
    refine wg_subL ?_
    walk_at "w"
    refine ⟨rp, rfl, ?_⟩
    walk_at "w"
    refine ⟨0, rfl, 1, _, rfl, Nat.le_of_ble_eq_true rfl, ?_⟩
    refine WS.own (gw_r0 (s := { s with d := d2 }) (by show 0 < s.r0; omega)) ?_
    walk_at "w"
    refine cpF (mine := dw p d2) rfl ⟨rfl, p, d2, x.names, sets, rfl, rfl, hd2, hG.nm, fun r d3 hr hd3 => ?_⟩
    have em : mS x.beGr (.row r) = ⟨1, 1, 0, 0, 1, 1⟩ := by simp only [mS]
    have ac := Ac.row (x := x) (deep := deep) (loops := loops) (s := s) d3 (by omega) hG.d3 hG.l2 hG.dm
    exact hPs (.row r) { s with r0 := s.r0 - 1, d := d3 } ⟨hr, by simp only [KS], Nat.zero_le _, by rw [em]; exact ac, hd3, hs.es, Nat.le_trans ac.t hs.t⟩
end
end Hw
/-! HwK -/
namespace Hw
abbrev Way := List Nat
def eWay (w : Way) : D := .tup (w.map fun (k : Nat) => D.int (k : Int))
def eWays (ws : List Way) : D := .lst (ws.map eWay)
def both (xs ys : List Way) : List Way := xs.flatMap fun x => ys.map fun y => x ++ y
theorem both_nil_l (ys : List Way) : both [[]] ys = ys := by simp [both]
theorem both_nil_r (xs : List Way) : both xs [[]] = xs := by
  unfold both
  induction xs with
  | nil => rfl
  | cons x xs ih => rw [List.flatMap_cons, ih]; simp
theorem both_assoc (xs ys zs : List Way) : both (both xs ys) zs = both xs (both ys zs) := by
  unfold both
  rw [List.flatMap_assoc]
  congr 1
  funext x
  rw [List.map_flatMap, List.flatMap_map]
  congr 1
  funext y
  rw [List.map_map]
  congr 1
  funext z
  simp
theorem both_append (xs ys zs : List Way) : both (xs ++ ys) zs = both xs zs ++ both ys zs := by simp [both]
theorem both_len (xs ys : List Way) : (both xs ys).length = xs.length * ys.length := by
  unfold both
  induction xs with
  | nil => simp
  | cons x xs ih => rw [List.flatMap_cons, List.length_append, ih, List.length_map, List.length_cons, Nat.succ_mul, Nat.add_comm]
theorem both_mem {xs ys : List Way} {w : Way} : w ∈ both xs ys ↔ ∃ x ∈ xs, ∃ y ∈ ys, w = x ++ y := by
  unfold both
  simp only [List.mem_flatMap, List.mem_map]
  constructor
  · rintro ⟨x, hx, y, hy, rfl⟩; exact ⟨x, hx, y, hy, rfl⟩
  · rintro ⟨x, hx, y, hy, rfl⟩; exact ⟨x, hx, y, hy, rfl⟩
theorem both_ne {xs ys : List Way} (h : xs ≠ []) (h' : ys ≠ []) : both xs ys ≠ [] := by
  obtain ⟨x, hx⟩ := List.exists_mem_of_ne_nil _ h
  obtain ⟨y, hy⟩ := List.exists_mem_of_ne_nil _ h'
  exact List.ne_nil_of_mem (both_mem.mpr ⟨x, hx, y, hy, rfl⟩)
def ordN (n : Nat) : List (List Nat) := if n = 2 then [[0, 1], [1, 0]] else [[0, 1, 2], [0, 2, 1], [1, 0, 2], [1, 2, 0], [2, 0, 1], [2, 1, 0]]
def altE : Nat → List (List Way) → List Way
  | _, [] => []
  | k, w :: ws => both [[k]] w ++ altE (k + 1) ws
def ordW (ws : List (List Way)) (told : List Way) (o : List Nat) : List Way := o.foldl (fun told i => both told (ws.getD i [])) told
def altO (ws : List (List Way)) : Nat → List (List Nat) → List Way
  | _, [] => []
  | k, o :: os => ordW ws [[k]] o ++ altO ws (k + 1) os
mutual
def wS : Stm → List Way
  | .row _ => [[]]
  | .loop _ _ => [[]]
  | .call _ => [[]]
  | .alt o bs => if o then altO (wLs bs) 0 (ordN (wLs bs).length) else altE 0 (wLs bs)
def wB : Blk → List Way
  | .nil => [[]]
  | .cons s b => both (wS s) (wB b)
def wLs : Bls → List (List Way)
  | .nil => []
  | .cons b bs => wB b :: wLs bs
end
theorem wLs_len : ∀ bs : Bls, (wLs bs).length = bs.len
  | .nil => rfl
  | .cons b bs => by show (wLs bs).length + 1 = bs.len + 1; rw [wLs_len bs]
/-- few ways, none long -/
def Gd (ws : List Way) : Prop := ws.length ≤ 24 ∧ ∀ w ∈ ws, w.length ≤ 100
theorem Gd.left {xs ys : List Way} (h : Gd (both xs ys)) (n : ys ≠ []) : Gd xs := by
  obtain ⟨y, hy⟩ := List.exists_mem_of_ne_nil _ n
  refine ⟨?_, fun w hw => ?_⟩
  · have := h.1
    rw [both_len] at this
    have hl : 1 ≤ ys.length := List.length_pos_of_mem hy
    have := Nat.mul_le_mul_left xs.length hl
    omega
  · have := h.2 _ (both_mem.mpr ⟨w, hw, y, hy, rfl⟩)
    rw [List.length_append] at this
    omega
theorem Gd.right {xs ys : List Way} (h : Gd (both xs ys)) (n : xs ≠ []) : Gd ys := by
  obtain ⟨x, hx⟩ := List.exists_mem_of_ne_nil _ n
  refine ⟨?_, fun w hw => ?_⟩
  · have := h.1
    rw [both_len] at this
    have hl : 1 ≤ xs.length := List.length_pos_of_mem hx
    have := Nat.mul_le_mul_right ys.length hl
    omega
  · have := h.2 _ (both_mem.mpr ⟨x, hx, w, hw, rfl⟩)
    rw [List.length_append] at this
    omega
theorem Gd.app_l {xs ys : List Way} (h : Gd (xs ++ ys)) : Gd xs := ⟨by have := h.1; rw [List.length_append] at this; omega, fun w hw => h.2 w (List.mem_append_left _ hw)⟩
theorem Gd.app_r {xs ys : List Way} (h : Gd (xs ++ ys)) : Gd ys := ⟨by have := h.1; rw [List.length_append] at this; omega, fun w hw => h.2 w (List.mem_append_right _ hw)⟩
/-! right trees without calls -/
mutual
def ShS : Stm → Prop
  | .row _ => True
  | .call _ => False
  | .loop _ b => b.len ≤ 40 ∧ Gd (wB b) ∧ ShB b
  | .alt _ bs => 2 ≤ bs.len ∧ bs.len ≤ 3 ∧ ShBs bs
def ShB : Blk → Prop
  | .nil => True
  | .cons s b => ShS s ∧ ShB b
def ShBs : Bls → Prop
  | .nil => True
  | .cons b bs => (b.len ≤ 40 ∧ ShB b) ∧ ShBs bs
end
theorem ordN_ne (n : Nat) : ordN n ≠ [] := by unfold ordN; split <;> simp
theorem ordW_ne {ws : List (List Way)} : ∀ {o : List Nat} {told : List Way}, told ≠ [] → (∀ i ∈ o, ws.getD i [] ≠ []) → ordW ws told o ≠ []
  | [], told, h, _ => h
  | i :: o, told, h, hw => ordW_ne (o := o) (told := both told (ws.getD i [])) (both_ne h (hw i (by simp))) fun j hj => hw j (List.mem_cons_of_mem _ hj)
/-- orders name each block once -/
theorem ordN_lt {n : Nat} (h : n = 2 ∨ n = 3) : ∀ o ∈ ordN n, (∀ i ∈ o, i < n) ∧ ∀ i, i < n → i ∈ o := by
  rcases h with rfl | rfl <;> decide
mutual
theorem wS_ne : ∀ s : Stm, ShS s → wS s ≠ []
  | .row _, _ => by simp [wS]
  | .loop _ _, _ => by simp [wS]
  | .call _, _ => by simp [wS]
  | .alt o bs, h => by
    obtain ⟨h1, h2, h3⟩ := (show 2 ≤ bs.len ∧ bs.len ≤ 3 ∧ ShBs bs from h)
    have hl := wLs_len bs
    have hb := wLs_ne bs h3
    have hn : (wLs bs).length = 2 ∨ (wLs bs).length = 3 := by omega
    have e : wS (.alt o bs) = if o then altO (wLs bs) 0 (ordN (wLs bs).length) else altE 0 (wLs bs) := by simp [wS]
    rw [e]
    cases o with
    | true =>
      simp only [if_true]
      have hlt := ordN_lt hn
      cases he : ordN (wLs bs).length with
      | nil => exact absurd he (ordN_ne _)
      | cons o os =>
        rw [he] at hlt
        refine List.append_ne_nil_of_left_ne_nil (ordW_ne (by simp) fun i hi => ?_) _
        have hi2 := (hlt o (by simp)).1 i hi
        rw [List.getD_eq_getElem?_getD, List.getElem?_eq_getElem hi2]
        exact hb _ (List.getElem_mem hi2)
    | false =>
      simp only [Bool.false_eq_true, if_false]
      cases hw : wLs bs with
      | nil => rw [hw] at hl; simp at hl; omega
      | cons x xs =>
        rw [hw] at hb
        exact List.append_ne_nil_of_left_ne_nil (both_ne (by simp) (hb x (by simp))) _
theorem wB_ne : ∀ b : Blk, ShB b → wB b ≠ []
  | .nil, _ => by simp [wB]
  | .cons s b, h => by
    obtain ⟨h1, h2⟩ := (show ShS s ∧ ShB b from h)
    have e : wB (.cons s b) = both (wS s) (wB b) := by simp [wB]
    rw [e]
    exact both_ne (wS_ne s h1) (wB_ne b h2)
theorem wLs_ne : ∀ bs : Bls, ShBs bs → ∀ ws ∈ wLs bs, ws ≠ []
  | .nil, _, ws, h => by simp [wLs] at h
  | .cons b bs, h, ws, hm => by
    obtain ⟨h1, h2⟩ := (show (b.len ≤ 40 ∧ ShB b) ∧ ShBs bs from h)
    have e : wLs (.cons b bs) = wB b :: wLs bs := by simp [wLs]
    rw [e] at hm
    rcases List.mem_cons.mp hm with rfl | hm
    · exact wB_ne b h1.2
    · exact wLs_ne bs h2 ws hm
end
theorem altE_gd : ∀ {ws : List (List Way)} {k : Nat}, Gd (altE k ws) → (∀ w ∈ ws, w ≠ []) → ∀ w ∈ ws, Gd w
  | [], _, _, _, w, h => by cases h
  | x :: xs, k, g, n, w, h => by
    rcases List.mem_cons.mp h with rfl | h
    · exact (Gd.app_l g).right (by simp)
    · exact altE_gd (ws := xs) (k := k + 1) (Gd.app_r g) (fun w hw => n w (List.mem_cons_of_mem _ hw)) w h
theorem ordW_gd {ws : List (List Way)} : ∀ {o : List Nat} {told : List Way}, Gd (ordW ws told o) → told ≠ [] → (∀ i ∈ o, ws.getD i [] ≠ []) → Gd told ∧ ∀ i ∈ o, Gd (ws.getD i [])
  | [], told, g, _, _ => ⟨g, fun i h => by cases h⟩
  | i :: o, told, g, n, nw => by
    have n1 := nw i (by simp)
    obtain ⟨g1, g2⟩ := ordW_gd (o := o) (told := both told (ws.getD i [])) g (both_ne n n1) fun j hj => nw j (List.mem_cons_of_mem _ hj)
    refine ⟨g1.left n1, fun j hj => ?_⟩
    rcases List.mem_cons.mp hj with rfl | hj
    · exact g1.right n
    · exact g2 j hj
theorem alt_gd {o : Bool} {bs : Bls} (h : ShS (.alt o bs)) (g : Gd (wS (.alt o bs))) : ∀ w ∈ wLs bs, Gd w := by
  obtain ⟨h1, h2, h3⟩ := (show 2 ≤ bs.len ∧ bs.len ≤ 3 ∧ ShBs bs from h)
  have hl := wLs_len bs
  have hb := wLs_ne bs h3
  have hn : (wLs bs).length = 2 ∨ (wLs bs).length = 3 := by omega
  have e : wS (.alt o bs) = if o then altO (wLs bs) 0 (ordN (wLs bs).length) else altE 0 (wLs bs) := by simp [wS]
  rw [e] at g
  cases o with
  | false => exact altE_gd g hb
  | true =>
    simp only [if_true] at g
    have hlt := ordN_lt hn
    cases he : ordN (wLs bs).length with
    | nil => exact absurd he (ordN_ne _)
    | cons o os =>
      rw [he] at hlt g
      obtain ⟨l1, l2⟩ := hlt o (by simp)
      have nn : ∀ i ∈ o, (wLs bs).getD i [] ≠ [] := fun i hi => by
        have hi2 := l1 i hi
        rw [List.getD_eq_getElem?_getD, List.getElem?_eq_getElem hi2]
        exact hb _ (List.getElem_mem hi2)
      have g2 := (ordW_gd (o := o) (told := [[0]]) (Gd.app_l g) (by simp) nn).2
      intro w hw
      obtain ⟨i, hi⟩ := List.getElem?_of_mem hw
      have hi2 : i < (wLs bs).length := (List.getElem?_eq_some_iff.mp hi).1
      have := g2 i (l2 i hi2)
      rw [List.getD_eq_getElem?_getD, hi] at this
      exact this
end Hw
/-! HwM -/
namespace Hw
section
variable (f : Str → Blk)
mutual
def woS : Stm → Blk
  | .row r => .cons (.row r) .nil
  | .loop x b => .cons (.loop x (woB b)) .nil
  | .alt o bs => .cons (.alt o (woLs bs)) .nil
  | .call w => f w
def woB : Blk → Blk
  | .nil => .nil
  | .cons s b => (woS s).app (woB b)
def woLs : Bls → Bls
  | .nil => .nil
  | .cons b bs => .cons (woB b) (woLs bs)
end
end
theorem woLs_len (f : Str → Blk) : ∀ bs : Bls, (woLs f bs).len = bs.len
  | .nil => by simp [woLs, Bls.len]
  | .cons b bs => by simp [woLs, Bls.len, woLs_len f bs]
mutual
def dpS (gaGr : Str → Nat) : Stm → Nat
  | .row _ => 0
  | .loop _ b => dpB gaGr b + 1
  | .alt _ bs => dpLs gaGr bs + 1
  | .call w => gaGr w + 1
def dpB (gaGr : Str → Nat) : Blk → Nat
  | .nil => 0
  | .cons s b => max (dpS gaGr s) (dpB gaGr b)
def dpLs (gaGr : Str → Nat) : Bls → Nat
  | .nil => 0
  | .cons b bs => max (dpB gaGr b) (dpLs gaGr bs)
end
mutual
def CaS (p : Str → Prop) : Stm → Prop
  | .row _ => True
  | .loop _ b => CaB p b
  | .alt _ bs => CaLs p bs
  | .call w => p w
def CaB (p : Str → Prop) : Blk → Prop
  | .nil => True
  | .cons s b => CaS p s ∧ CaB p b
def CaLs (p : Str → Prop) : Bls → Prop
  | .nil => True
  | .cons b bs => CaB p b ∧ CaLs p bs
end
mutual
def szS : Stm → Nat
  | .row _ => 1
  | .loop _ b => szB b + 1
  | .alt _ bs => szLs bs + 1
  | .call _ => 1
def szB : Blk → Nat
  | .nil => 0
  | .cons s b => szS s + szB b
def szLs : Bls → Nat
  | .nil => 0
  | .cons b bs => szB b + 1 + szLs bs
end
theorem szS_pos : ∀ s : Stm, 1 ≤ szS s
  | .row _ => by simp [szS]
  | .loop _ b => by simp [szS]
  | .alt _ bs => by simp [szS]
  | .call _ => by simp [szS]
theorem len_szB : ∀ b : Blk, b.len ≤ szB b
  | .nil => by simp [Blk.len]
  | .cons s b => by
    have h1 := szS_pos s
    have h2 := len_szB b
    have e1 : (Blk.cons s b).len = b.len + 1 := rfl
    have e2 : szB (.cons s b) = szS s + szB b := by simp [szB]
    omega
theorem len_szLs : ∀ b : Bls, b.len ≤ szLs b
  | .nil => by simp [Bls.len]
  | .cons s b => by
    have h2 := len_szLs b
    have e1 : (Bls.cons s b).len = b.len + 1 := rfl
    have e2 : szLs (.cons s b) = szB s + 1 + szLs b := by simp [szLs]
    omega
theorem app_nil : ∀ b : Blk, b.app .nil = b
  | .nil => rfl
  | .cons s b => by show Blk.cons s (b.app .nil) = _; rw [app_nil b]
theorem app_assoc : ∀ a b c : Blk, (a.app b).app c = a.app (b.app c)
  | .nil, _, _ => rfl
  | .cons s a, b, c => by show Blk.cons s ((a.app b).app c) = Blk.cons s (a.app (b.app c)); rw [app_assoc a b c]
theorem szB_app : ∀ a b : Blk, szB (a.app b) = szB a + szB b
  | .nil, b => by simp [Blk.app, szB]
  | .cons s a, b => by
    have := szB_app a b
    show szB (.cons s (a.app b)) = _
    simp only [szB]
    omega
theorem wB_app : ∀ a b : Blk, wB (a.app b) = both (wB a) (wB b)
  | .nil, b => by
    have e : wB .nil = [[]] := by simp [wB]
    rw [e, both_nil_l]; rfl
  | .cons s a, b => by
    have e1 : wB (.cons s (a.app b)) = both (wS s) (wB (a.app b)) := by simp [wB]
    have e2 : wB (.cons s a) = both (wS s) (wB a) := by simp [wB]
    show wB (.cons s (a.app b)) = _
    rw [e1, e2, wB_app a b, both_assoc]
theorem wB_one (s : Stm) : wB (.cons s .nil) = wS s := by
  have e : wB (.cons s .nil) = both (wS s) [[]] := by simp [wB]
  rw [e, both_nil_r]
theorem ShB_app : ∀ a b : Blk, ShB (a.app b) ↔ ShB a ∧ ShB b
  | .nil, b => by simp [Blk.app, ShB]
  | .cons s a, b => by
    have := ShB_app a b
    show ShB (.cons s (a.app b)) ↔ _
    simp only [ShB, this, and_assoc]
/-- the bodies, as they are known to a def -/
structure En where
  GaGr : List (Str × D)
  bod : Str → Option Blk
  f : Str → Blk
  gaGr : Str → Nat
def En.kn (e : En) (x : Str) : Prop := (e.bod x).isSome = true
structure EnOk (e : En) : Prop where
  at_ : ∀ x d, e.bod x = some d → lk e.GaGr x = some (.tup (eB d))
  wo : ∀ x d, e.bod x = some d → e.f x = woB e.f d
  dp : ∀ x d, e.bod x = some d → dpB e.gaGr d ≤ e.gaGr x
  ca : ∀ x d, e.bod x = some d → CaB e.kn d
theorem woLs_at (f : Str → Blk) : ∀ (bs : Bls) (i : Nat) (b : Blk), bs.get i = some b → (woLs f bs).get i = some (woB f b)
  | .nil, i, b, h => by cases h
  | .cons c bs, 0, b, h => by cases h; simp [woLs, Bls.get]
  | .cons c bs, i + 1, b, h => by
    have := woLs_at f bs i b h
    simp only [woLs, Bls.get]
    exact this
theorem wLs_get : ∀ (bs : Bls) (i : Nat), (wLs bs)[i]? = (bs.get i).map wB
  | .nil, i => by simp [wLs, Bls.get]
  | .cons b bs, 0 => by simp [wLs, Bls.get]
  | .cons b bs, i + 1 => by simp [wLs, Bls.get, wLs_get bs i]
theorem eBs_get : ∀ (bs : Bls) (i : Nat), (eBs bs)[i]? = (bs.get i).map fun b => D.tup (eB b)
  | .nil, i => by simp [eBs, Bls.get]
  | .cons b bs, 0 => by simp [eBs, Bls.get]
  | .cons b bs, i + 1 => by simp [eBs, Bls.get, eBs_get bs i]
theorem get_lt : ∀ (bs : Bls) (i : Nat), i < bs.len → ∃ b, bs.get i = some b
  | .nil, i, h => by cases h
  | .cons b bs, 0, h => ⟨b, rfl⟩
  | .cons b bs, i + 1, h => get_lt bs i (Nat.lt_of_succ_lt_succ h)
theorem lt_get : ∀ (bs : Bls) (i : Nat) (b : Blk), bs.get i = some b → i < bs.len
  | .nil, i, b, h => by cases h
  | .cons c bs, 0, b, h => Nat.succ_pos _
  | .cons c bs, i + 1, b, h => Nat.succ_lt_succ (lt_get bs i b h)
theorem dpLs_get {gaGr : Str → Nat} : ∀ (bs : Bls) (i : Nat) (b : Blk), bs.get i = some b → dpB gaGr b ≤ dpLs gaGr bs
  | .nil, i, b, h => by cases h
  | .cons c bs, 0, b, h => by cases h; simp only [dpLs]; exact Nat.le_max_left _ _
  | .cons c bs, i + 1, b, h => by
    have := dpLs_get (gaGr := gaGr) bs i b h
    simp only [dpLs]
    exact Nat.le_trans this (Nat.le_max_right _ _)
theorem dBs_get : ∀ (bs : Bls) (i : Nat) (b : Blk), bs.get i = some b → dB b ≤ dBs bs
  | .nil, i, b, h => by cases h
  | .cons c bs, 0, b, h => by cases h; simp only [dBs]; exact Nat.le_max_left _ _
  | .cons c bs, i + 1, b, h => by
    have := dBs_get bs i b h
    simp only [dBs]
    exact Nat.le_trans this (Nat.le_max_right _ _)
theorem CaLs_get {p : Str → Prop} : ∀ (bs : Bls) (i : Nat) (b : Blk), bs.get i = some b → CaLs p bs → CaB p b
  | .nil, i, b, h, _ => by cases h
  | .cons c bs, 0, b, h, v => by cases h; simp only [CaLs] at v; exact v.1
  | .cons c bs, i + 1, b, h, v => by simp only [CaLs] at v; exact CaLs_get bs i b h v.2
theorem szLs_get : ∀ (bs : Bls) (i : Nat) (b : Blk), bs.get i = some b → szB b < szLs bs
  | .nil, i, b, h => by cases h
  | .cons c bs, 0, b, h => by cases h; simp only [szLs]; omega
  | .cons c bs, i + 1, b, h => by
    have := szLs_get bs i b h
    simp only [szLs]; omega
theorem ShBs_at : ∀ (bs : Bls) (i : Nat) (b : Blk), bs.get i = some b → ShBs bs → b.len ≤ 40 ∧ ShB b
  | .nil, i, b, h, _ => by cases h
  | .cons c bs, 0, b, h, v => by cases h; simp only [ShBs] at v; exact v.1
  | .cons c bs, i + 1, b, h, v => by simp only [ShBs] at v; exact ShBs_at bs i b h v.2
/-! ### the parts of a way -/
def Seqs (ws : List (List Way)) : List Nat → Way → Prop
  | [], v => v = []
  | i :: o, v => ∃ x ∈ ws.getD i [], ∃ y, Seqs ws o y ∧ v = x ++ y
theorem mem_ordW {ws : List (List Way)} : ∀ {o : List Nat} {told : List Way} {w : Way}, w ∈ ordW ws told o → ∃ t ∈ told, ∃ v, Seqs ws o v ∧ w = t ++ v
  | [], told, w, h => ⟨w, h, [], rfl, by simp⟩
  | i :: o, told, w, h => by
    obtain ⟨t, ht, v, hv, rfl⟩ := mem_ordW (o := o) (told := both told (ws.getD i [])) h
    obtain ⟨x, hx, y, hy, rfl⟩ := both_mem.mp ht
    exact ⟨x, hx, y ++ v, ⟨y, hy, v, hv, rfl⟩, by rw [List.append_assoc]⟩
theorem mem_altE {w : Way} : ∀ {ws : List (List Way)} {k : Nat}, w ∈ altE k ws → ∃ (i : Nat) (us : List Way) (v : Way), ws[i]? = some us ∧ v ∈ us ∧ w = (k + i) :: v
  | [], k, h => by cases h
  | x :: xs, k, h => by
    rcases List.mem_append.mp (show w ∈ both [[k]] x ++ altE (k + 1) xs from h) with h | h
    · obtain ⟨a, ha, v, hv, rfl⟩ := both_mem.mp h
      have ha : a = [k] := by simpa using ha
      subst ha
      exact ⟨0, x, v, rfl, hv, rfl⟩
    · obtain ⟨i, us, v, h1, h2, rfl⟩ := mem_altE h
      exact ⟨i + 1, us, v, h1, h2, by congr 1; omega⟩
theorem mem_altO {ws : List (List Way)} {w : Way} : ∀ {os : List (List Nat)} {k : Nat}, w ∈ altO ws k os → ∃ (i : Nat) (o : List Nat) (v : Way), os[i]? = some o ∧ Seqs ws o v ∧ w = (k + i) :: v
  | [], k, h => by cases h
  | x :: xs, k, h => by
    rcases List.mem_append.mp (show w ∈ ordW ws [[k]] x ++ altO ws (k + 1) xs from h) with h | h
    · obtain ⟨a, ha, v, hv, rfl⟩ := mem_ordW h
      have ha : a = [k] := by simpa using ha
      subst ha
      exact ⟨0, x, v, rfl, hv, rfl⟩
    · obtain ⟨i, us, v, h1, h2, rfl⟩ := mem_altO h
      exact ⟨i + 1, us, v, h1, h2, by congr 1; omega⟩
/-! ### with the ways of the loops -/
mutual
def ePS : Stm → D
  | .row r => eR r
  | .loop x b => .tup [.str "loop", .str x, .tup (ePB b), eWays (wB b)]
  | .alt o bs => .tup [.str (eW o), .tup (ePBs bs)]
  | .call w => .non
def ePB : Blk → List D
  | .nil => []
  | .cons s b => ePS s :: ePB b
def ePBs : Bls → List D
  | .nil => []
  | .cons b bs => .tup (ePB b) :: ePBs bs
end
theorem ePB_app : ∀ b c : Blk, ePB (b.app c) = ePB b ++ ePB c
  | .nil, _ => by simp [Blk.app, ePB]
  | .cons s b, c => by
    have := ePB_app b c
    show ePB (.cons s (b.app c)) = _
    simp [ePB, this]
theorem ePB_len : ∀ b : Blk, (ePB b).length = b.len
  | .nil => by simp [ePB, Blk.len]
  | .cons s b => by simp [ePB, Blk.len, ePB_len b]
theorem ePBs_len : ∀ b : Bls, (ePBs b).length = b.len
  | .nil => by simp [ePBs, Bls.len]
  | .cons s b => by simp [ePBs, Bls.len, ePBs_len b]
theorem ePBs_get : ∀ (bs : Bls) (i : Nat), (ePBs bs)[i]? = (bs.get i).map fun b => D.tup (ePB b)
  | .nil, i => by simp [ePBs, Bls.get]
  | .cons b bs, 0 => by simp [ePBs, Bls.get]
  | .cons b bs, i + 1 => by simp [ePBs, Bls.get, ePBs_get bs i]
end Hw
/-! HwJ -/
namespace Hw
def TOP : Int := 10 ^ 1000
theorem TOP_log : (10 : Nat) ^ 1000 < 2 ^ 4000 := by decide +kernel
theorem TOP_nat : TOP = ((10 ^ 1000 : Nat) : Int) := by unfold TOP; exact (Int.natCast_pow 10 1000).symm
theorem log_le {i : Int} (h0 : 0 ≤ i) (h : i ≤ TOP) : i.natAbs.log2 < 4000 := by
  by_cases hz : i.natAbs = 0
  · rw [hz]; decide
  · rw [Nat.log2_lt hz]
    refine Nat.lt_of_le_of_lt ?_ TOP_log
    rw [TOP_nat] at h
    generalize (10 ^ 1000 : Nat) = t at h
    omega
theorem wide_mul {i j : Int} (h0 : 0 ≤ i) (h : i ≤ TOP) (h1 : 0 ≤ j) (h2 : j ≤ TOP) : CMul i j ∨ CMulW i j := .inr (by have := log_le h0 h; have := log_le h1 h2; unfold CMulW; omega)
theorem TOP_pos : 1 ≤ TOP := by rw [TOP_nat]; exact Int.ofNat_le.mpr (Nat.one_le_pow _ _ (by decide))
theorem small_mul {i j : Int} (h0 : -100 < i) (h : i < 100) : CMul i j ∨ CMulW i j := .inl (.inl ⟨by omega, by omega⟩)
/-! ### what rows do -/
def prdV (nuGr : Str → Int) : Prd → Int
  | none => 1
  | some x => nuGr x
def sumV (nuGr : Str → Int) (ts : List Trm) : Int := (ts.map fun t => t.1 * prdV nuGr t.2).sum
def jmax (i j : Int) : Int := if j > i then j else i
def Row.tgt : Row → Str
  | .add x _ => x
  | .lift x _ => x
  | .set x _ => x
def rowV (nuGr : Str → Int) : Row → Int
  | .add x ts => nuGr x + sumV nuGr ts
  | .lift x t => jmax (nuGr x) (t.1 * prdV nuGr t.2)
  | .set _ ts => sumV nuGr ts
/-- the numbers of the names, in a dict -/
structure Nu (kvs : List (Str × D)) (names : List Str) (nuGr : Str → Int) : Prop where
  at_ : ∀ x ∈ names, lk kvs x = some (.int (nuGr x))
  nd : (kvs.map (·.1)).Nodup
  len : kvs.length ≤ 10
  ks : ∀ x ∈ names, x ∈ kvs.map (·.1)
/-- they are not great -/
def NuB (names : List Str) (nuGr : Str → Int) : Prop := ∀ x ∈ names, 1 ≤ nuGr x ∧ nuGr x ≤ TOP
def VPn (names : List Str) : Prd → Prop
  | none => True
  | some x => x ∈ names
def RowN (names : List Str) : Row → Prop
  | .add x ts => x ∈ names ∧ ∀ t ∈ ts, VPn names t.2 ∧ 1 ≤ t.1 ∧ t.1 ≤ 9
  | .lift x t => x ∈ names ∧ VPn names t.2 ∧ 1 ≤ t.1 ∧ t.1 ≤ 9
  | .set x ts => x ∈ names ∧ ts ≠ [] ∧ ∀ t ∈ ts, VPn names t.2 ∧ 1 ≤ t.1 ∧ t.1 ≤ 9
def setN (nuGr : Str → Int) (x : Str) (v : Int) : Str → Int := fun y => if y = x then v else nuGr y
theorem Nu.put {kvs : List (Str × D)} {names : List Str} {nuGr : Str → Int} (h : Nu kvs names nuGr) {x : Str} (hx : x ∈ names) (v : Int) : Nu (putD kvs x (.int v)) names (setN nuGr x v) := by
  refine ⟨fun y hy => ?_, putD_nodup h.nd, ?_, fun y hy => ?_⟩
  · rw [lk_putD]
    unfold setN
    by_cases e : x = y
    · subst e; simp
    · rw [if_neg e, if_neg (fun q => e q.symm)]; exact h.at_ y hy
  · have e := congrArg List.length (putD_keys (x := x) (d := .int v) (kvs := kvs))
    rw [if_pos (h.ks x hx), List.length_map, List.length_map] at e
    rw [e]; exact h.len
  · rw [putD_keys, if_pos (h.ks x hx)]; exact h.ks y hy
abbrev cd_MOST_STEPS : D := .int 10000
def S_power : DSpec := fun ds w P _ => ds.length = 2 ∧ ∃ (n : Int) (t : Nat), ds = [.int n, .int t] ∧ 1 ≤ n ∧ n ^ t ≤ TOP ∧ P (.int (n ^ t)) w
def S_greatest_number : DSpec := fun ds w P _ => ds.length = 0 ∧ ds = [] ∧ P (.int TOP) w
def S_value : DSpec := fun ds w P _ => ds.length = 2 ∧ ∃ (q : Prd) (p : Addr) (kvs : List (Str × D)) (names : List Str) (nuGr : Str → Int), ds = [eP q, .adr p] ∧ w = [(p, .dct kvs)] ∧ Nu kvs names nuGr ∧ NuB names nuGr ∧ VPn names q ∧ P (.int (prdV nuGr q)) w
def S_total : DSpec := fun ds w P _ => ds.length = 2 ∧ ∃ (ts : List Trm) (p : Addr) (kvs : List (Str × D)) (names : List Str) (nuGr : Str → Int), ds = [eTs ts, .adr p] ∧ w = [(p, .dct kvs)] ∧ Nu kvs names nuGr ∧ NuB names nuGr ∧ (∀ t ∈ ts, VPn names t.2 ∧ 1 ≤ t.1 ∧ t.1 ≤ 9) ∧ P (.int (sumV nuGr ts)) w
def S_changed : DSpec := fun ds w P _ => ds.length = 2 ∧ ∃ (r : Row) (p : Addr) (kvs : List (Str × D)) (names : List Str) (nuGr : Str → Int), ds = [eR r, .adr p] ∧ w = [(p, .dct kvs)] ∧ Nu kvs names nuGr ∧ NuB names nuGr ∧ RowN names r ∧ P (.int (rowV nuGr r)) w
section
variable {P : Program} {w : World} {K : PySem.W.Frag} {mg : Str → Option Value} {base : Heap} {T : Addr}
theorem and1 {m : Int} (h : 0 ≤ m) : Builtin.bitAnd m 1 = m % 2 := by
  have := Bits.bitAnd_mask (x := m) 1 h
  simpa using this
theorem le_mul1 {a b : Int} (ha : 0 ≤ a) (hb : 1 ≤ b) : a ≤ a * b := by
  have := Int.mul_le_mul_of_nonneg_left hb ha
  rwa [Int.mul_one] at this
theorem one_pow {s : Int} (h : 1 ≤ s) : ∀ m : Nat, 1 ≤ s ^ m
  | 0 => by rw [Int.pow_zero]; omega
  | m + 1 => by
    rw [Int.pow_succ]
    have h1 := one_pow h m
    have := le_mul1 (a := s ^ m) (b := s) (by omega) h
    omega
theorem pow_le {told s v : Int} {m : Nat} (ht : 1 ≤ told) (hs : 1 ≤ s) (he : told * s ^ (m + 1) = v) : s ≤ v ∧ told ≤ v ∧ told * s ≤ v := by
  have h1 := one_pow hs m
  have h2 := one_pow hs (m + 1)
  have h3 : told ≤ told * s ^ (m + 1) := le_mul1 (by omega) h2
  have h4 : told * s ≤ told * s * s ^ m := le_mul1 (Int.mul_nonneg (by omega) (by omega)) h1
  have h5 : told * s * s ^ m = told * s ^ (m + 1) := by rw [Int.mul_assoc, Int.pow_succ, Int.mul_comm s]
  have h6 : s ≤ s * told := le_mul1 (by omega) ht
  rw [Int.mul_comm s] at h6
  omega
theorem sq_pow (s : Int) (k : Nat) : (s * s) ^ k = s ^ (2 * k) := by
  rw [Nat.two_mul, Int.pow_add, Int.mul_pow]
abbrev st_power : Stmt := top 18
abbrev N_power : List Str := ["number", "times", "told", "square", "left"]
theorem sc_power : FnScope N_power ["number", "times"] (defScope st_power) := ⟨rfl, rfl, rfl, by decide +kernel, rfl, by decide +kernel, by decide +kernel⟩

theorem ok_power {k : Nat} (bl : Blt mg) (F : DefAt K mg "power" st_power ["number", "times"]) : Has P w K mg base CX0 "power" ["number", "times"] (k + 1) (spOf K T S_power) := by
  refine defD F sc_power (fun _ _ _ _ h => h.1) fun f cdv A outer s H E hr => ?_
  have hu := hu_of hr
  have hu64 := hr.units
  have nd := sc_power.nd
  refine ⟨_, (pss_cons (ps_set (i := 2) nd rfl (Or.inl rfl) pe_int)
      (pss_cons (ps_set (i := 3) nd rfl (Or.inl rfl) (pv 0))
      (pss_cons (ps_set (i := 4) nd rfl (Or.inl rfl) (pv 1))
      (pss_cons (ps_while PassesOwn.never (pt_cmpR op_gt (pv 4) pe_int (nomark _))
        (pss_cons (ps_if (pt_cmpR (k_eq (K := K) rfl hu64) (pe_op op_and (pv 4) pe_int) pe_int (nomark _))
          (pss_one (ps_set (i := 2) nd rfl (Or.inl rfl) (pe_op op_mulX (pv 2) (pv 3))))
          pss_nil)
        (pss_cons (ps_set (i := 4) nd rfl (Or.inl rfl) (pe_op op_fdiv (pv 4) pe_int))
        (pss_one (ps_if (pt_cmpR op_gt (pv 4) pe_int (nomark _))
          (pss_one (ps_set (i := 3) nd rfl (Or.inl rfl) (pe_op op_mulX (pv 3) (pv 3))))
          pss_nil)))))
      (pss_one (ps_ret (pv 2))))))), ?_⟩
  rintro ds w P X ⟨-, n, t, rfl, h1, h2, hP⟩
  walk_at "w"
  refine ws_while (fun m rhGr' w' => ∃ (told sq : Int), rhGr' = [some (.int n), some (.int t), some (.int told), some (.int sq), some (.int m)] ∧ w' = w ∧ 1 ≤ told ∧ 1 ≤ sq ∧ told * sq ^ m = n ^ t) t ⟨1, n, rfl, rfl, by omega, h1, by rw [Int.one_mul]⟩ ?_
  rintro m rhGr' w' ⟨told, sq, rfl, rfl, ht, hs, he⟩
  walk_at "w"
  by_cases hm : 0 < m
  · obtain ⟨m, rfl⟩ : ∃ m', m = m' + 1 := ⟨m - 1, by omega⟩
    obtain ⟨b1, b2, b3⟩ := pow_le ht hs he
    refine rd_gt_t (by omega) ?_
    walk_at "w"
    refine rd_and ?_
    walk_at "w"
    rw [and1 (by omega)]
    have fin : ∀ told' : Int, 1 ≤ told' → told' ≤ TOP → (told' * (sq * sq) ^ ((m + 1) / 2) = n ^ t) → WS ⟨K, E, T, X⟩ (tSeq (tAsg (tOp rDivI (tVar 4) (tC (V.int 2))) (gName 4)) (tIfS (tTest (tOp (rI0 fun i j => .bl (decide (j < i))) (tVar 4) (tC (V.int 0)))) (tAsg (tOp rMulX (tVar 3) (tVar 3)) (gName 3)) tNext))
        [some (.int n), some (.int t), some (.int told'), some (.int sq), some (.int ((m + 1 : Nat) : Int))] w' (Out.loop (fun rhGr2 w2 => ∃ m', m' < m + 1 ∧ ∃ (told sq : Int), rhGr2 = [some (.int n), some (.int t), some (.int told), some (.int sq), some (.int m')] ∧ w2 = w' ∧ 1 ≤ told ∧ 1 ≤ sq ∧ told * sq ^ m' = n ^ t) (Out.thn (fun rhGr1 w1 => WS ⟨K, E, T, X⟩ (tRet (tVar 2)) rhGr1 w1 (Post P)) (Post P))) := by
      intro told' h3 h4 h5
      walk_at "w"
      refine rd_div ⟨by decide, by decide⟩ ?_
      rw [show ((m + 1 : Nat) : Int) / 2 = (((m + 1) / 2 : Nat) : Int) by omega]
      walk_at "w"
      by_cases hm2 : 0 < (m + 1) / 2
      · refine rd_gt_t (by omega) ?_
        walk_at "w"
        refine rd_mul (wide_mul (by omega) (by omega) (by omega) (by omega)) ?_
        have := le_mul1 (a := sq) (b := sq) (by omega) hs
        exact ⟨(m + 1) / 2, by omega, told', sq * sq, rfl, rfl, h3, by omega, h5⟩
      · refine rd_gt_f (by omega) ?_
        walk_at "w"
        have e0 : (m + 1) / 2 = 0 := by omega
        rw [e0, Int.pow_zero] at h5
        exact ⟨(m + 1) / 2, by omega, told', sq, rfl, rfl, h3, hs, by rw [e0, Int.pow_zero]; exact h5⟩
    by_cases ho : (((m + 1 : Nat) : Int)) % 2 = 1
    · refine rd_eq_int_t ho ?_
      walk_at "w"
      refine rd_mul (wide_mul (by omega) (by omega) (by omega) (by omega)) ?_
      have hp := Int.mul_pos (show (0 : Int) < told by omega) (show (0 : Int) < sq by omega)
      refine fin _ (by omega) (by omega) ?_
      rw [← he, sq_pow, Int.mul_assoc, Int.mul_comm sq, ← Int.pow_succ]
      congr 2
      omega
    · refine rd_eq_int_f ho (ex_b (and_f (ws_next ?_)))
      refine fin _ ht (by omega) ?_
      rw [← he, sq_pow]
      congr 2
      omega
  · refine rd_gt_f (by omega) ?_
    walk_at "w"
    obtain rfl : m = 0 := by omega
    rw [Int.pow_zero, Int.mul_one] at he
    rw [he]
    exact hP
abbrev st_greatest_number : Stmt := top 51
abbrev N_greatest_number : List Str := []
theorem sc_greatest_number : FnScope N_greatest_number [] (defScope st_greatest_number) := ⟨rfl, rfl, rfl, by decide +kernel, rfl, by decide +kernel, by decide +kernel⟩

theorem ok_greatest_number {k : Nat} (bl : Blt mg) (F : DefAt K mg "greatest_number" st_greatest_number []) (h_power : Has P w K mg base CX0 "power" ["number", "times"] k (spOf K T S_power)) : Has P w K mg base CX0 "greatest_number" [] (k + 1) (spOf K T S_greatest_number) := by
  refine defD F sc_greatest_number (fun _ _ _ _ h => h.1) fun f cdv A outer s H E hr => ?_
  have hu := hu_of hr
  have hu64 := hr.units
  have nd := sc_greatest_number.nd
  refine ⟨_, (pss_one (ps_ret (pe_callH h_power hr rfl pass0 (pa_cons pe_int (pa_cons pe_int pa_nil))))), ?_⟩
  rintro ds w P X ⟨-, rfl, hP⟩
  walk_at "w"
  exact cs0 ⟨rfl, 10, 1000, rfl, by decide, Int.le_refl _, hP⟩
abbrev st_value : Stmt := top 35
abbrev N_value : List Str := ["product", "numbers", "told", "letter", "many"]
theorem sc_value : FnScope N_value ["product", "numbers"] (defScope st_value) := ⟨rfl, rfl, rfl, by decide +kernel, rfl, by decide +kernel, by decide +kernel⟩

theorem ok_value {k : Nat} (bl : Blt mg) (F : DefAt K mg "value" st_value ["product", "numbers"]) (h_power : Has P w K mg base CX0 "power" ["number", "times"] k (spOf K T S_power)) : Has P w K mg base CX0 "value" ["product", "numbers"] (k + 1) (spOf K T S_value) := by
  refine defD F sc_value (fun _ _ _ _ h => h.1) fun f cdv A outer s H E hr => ?_
  have hu := hu_of hr
  have hu64 := hr.units
  have nd := sc_value.nd
  refine ⟨_, (pss_cons (ps_set (i := 2) nd rfl (Or.inl rfl) pe_int)
      (pss_cons (ps_for PassesOwn.never rfl (k_walk (K := K) rfl (pv 0)) (k_tup (K := K) rfl rfl (pgs_cons (pg_name (i := 3) nd rfl (Or.inl rfl)) (pgs_cons (pg_name (i := 4) nd rfl (Or.inl rfl)) pgs_nil)))
        (pss_cons (ps_if (pt_cmpR (k_notIn (K := K) rfl hu) (pv 3) (pv 1) rfl)
          (pss_one ps_dead)
          pss_nil)
        (pss_one (ps_set (i := 2) nd rfl (Or.inl rfl) (pe_op op_mulX (pv 2) (pe_callH h_power hr rfl pass0 (pa_cons (pe_ix (k_ix (K := K) rfl hu) (pv 1) (pv 3) (fun _ _ => rfl)) (pa_cons (pv 4) pa_nil))))))))
      (pss_one (ps_ret (pv 2))))), ?_⟩
  rintro ds w P X ⟨-, q, p, kvs, names, nuGr, rfl, rfl, hN, hB, hq, hP⟩
  cases q with
  | none =>
    walk_at "w"
    refine wi_anyT ?_
    walk_at "w"
    refine ⟨_, rfl, fun _ => trivial, turns_nil ?_⟩
    walk_at "w"
    exact hP
  | some x =>
    have hx := hN.at_ x hq
    obtain ⟨b1, b2⟩ := hB x hq
    walk_at "w"
    refine wi_anyT ?_
    walk_at "w"
    refine ⟨_, rfl, fun _ => trivial, turns_cons ?_⟩
    walk_at "w"
    refine rd_notin_dctO 0 rfl ?_
    rw [hx]
    walk_at "w"
    refine rd_ix_dctO 0 rfl hx ?_
    walk_at "w"
    refine cs0 ⟨rfl, nuGr x, 1, rfl, b1, by rw [Int.pow_succ, Int.pow_zero, Int.one_mul]; exact b2, ?_⟩
    refine rd_mul (small_mul (by decide) (by decide)) ?_
    walk_at "w"
    rw [Int.pow_succ, Int.pow_zero, Int.one_mul, Int.one_mul]
    exact hP
abbrev st_total : Stmt := top 36
abbrev N_total : List Str := ["terms", "numbers", "told", "coefficient", "product"]
theorem sc_total : FnScope N_total ["terms", "numbers"] (defScope st_total) := ⟨rfl, rfl, rfl, by decide +kernel, rfl, by decide +kernel, by decide +kernel⟩

theorem ok_total {k : Nat} (bl : Blt mg) (F : DefAt K mg "total" st_total ["terms", "numbers"]) (h_value : Has P w K mg base CX0 "value" ["product", "numbers"] k (spOf K T S_value)) : Has P w K mg base CX0 "total" ["terms", "numbers"] (k + 1) (spOf K T S_total) := by
  refine defD F sc_total (fun _ _ _ _ h => h.1) fun f cdv A outer s H E hr => ?_
  have hu := hu_of hr
  have hu64 := hr.units
  have nd := sc_total.nd
  refine ⟨_, (pss_cons (ps_set (i := 2) nd rfl (Or.inl rfl) pe_int)
      (pss_cons (ps_for PassesOwn.never rfl (k_walk (K := K) rfl (pv 0)) (k_tup (K := K) rfl rfl (pgs_cons (pg_name (i := 3) nd rfl (Or.inl rfl)) (pgs_cons (pg_name (i := 4) nd rfl (Or.inl rfl)) pgs_nil)))
        (pss_one (ps_set (i := 2) nd rfl (Or.inl rfl) (pe_op (k_plus (K := K) rfl) (pv 2) (pe_op op_mulX (pv 3) (pe_callH h_value hr rfl pass0 (pa_cons (pv 4) (pa_cons (pv 1) pa_nil))))))))
      (pss_one (ps_ret (pv 2))))), ?_⟩
  rintro ds w P X ⟨-, ts, p, kvs, names, nuGr, rfl, rfl, hN, hB, hT, hP⟩
  walk_at "w"
  refine wi_anyT ?_
  walk_at "w"
  refine ⟨_, rfl, fun _ => trivial, ?_⟩
  refine turns_ind (A := Int × List Trm) (fun s ds rhGr w' => ds = s.2.map eT ∧ (∀ t ∈ s.2, VPn names t.2 ∧ 1 ≤ t.1 ∧ t.1 ≤ 9) ∧ sumV nuGr ts = s.1 + sumV nuGr s.2 ∧ (∃ pv pw, rhGr = [some (eTs ts), some (.adr p), some (.int s.1), pv, pw]) ∧ w' = [(p, .dct kvs)]) ?_ ?_ (0, ts) ⟨rfl, hT, by rw [Int.zero_add], ⟨none, none, rfl⟩, rfl⟩
  · rintro ⟨m, rest⟩ rhGr w' ⟨hd, hb, hj, ⟨pv, pw, rfl⟩, rfl⟩
    cases rest with
    | cons p rest => cases hd
    | nil =>
      walk_at "w"
      rw [hj] at hP
      have e : m + sumV nuGr [] = m := Int.add_zero m
      rw [e] at hP
      exact hP
  · rintro ⟨m, rest⟩ x xs rhGr w' ⟨hd, hb, hj, ⟨pv, pw, rfl⟩, rfl⟩
    cases rest with
    | nil => cases hd
    | cons t rest =>
      obtain ⟨rfl, rfl⟩ := List.cons.inj hd
      obtain ⟨c1, c2, c3⟩ := hb t (by simp)
      walk_at "w"
      refine csW ⟨rfl, t.2, p, kvs, names, nuGr, rfl, rfl, hN, hB, c1, ?_⟩
      refine rd_mul (small_mul (by omega) (by omega)) ?_
      walk_at "w"
      refine ⟨(m + t.1 * prdV nuGr t.2, rest), rfl, fun q hq => hb q (List.mem_cons_of_mem _ hq), ?_, ⟨_, _, rfl⟩, rfl⟩
      rw [hj]
      show m + (t.1 * prdV nuGr t.2 + sumV nuGr rest) = m + t.1 * prdV nuGr t.2 + sumV nuGr rest
      rw [Int.add_assoc]
abbrev st_changed : Stmt := top 53
abbrev N_changed : List Str := ["row", "numbers", "worth"]
theorem sc_changed : FnScope N_changed ["row", "numbers"] (defScope st_changed) := ⟨rfl, rfl, rfl, by decide +kernel, rfl, by decide +kernel, by decide +kernel⟩

theorem ok_changed {k : Nat} (bl : Blt mg) (F : DefAt K mg "changed" st_changed ["row", "numbers"]) (h_value : Has P w K mg base CX0 "value" ["product", "numbers"] k (spOf K T S_value)) (h_total : Has P w K mg base CX0 "total" ["terms", "numbers"] k (spOf K T S_total)) : Has P w K mg base CX0 "changed" ["row", "numbers"] (k + 1) (spOf K T S_changed) := by
  refine defD F sc_changed (fun _ _ _ _ h => h.1) fun f cdv A outer s H E hr => ?_
  have hu := hu_of hr
  have hu64 := hr.units
  have nd := sc_changed.nd
  refine ⟨_, (pss_cons (ps_if (pt_cmpR (k_eq (K := K) rfl hu64) (pe_ix (k_ix (K := K) rfl hu) (pv 0) pe_int (fun _ _ => rfl)) pe_str (nomark _))
        (pss_one (ps_ret (pe_callB (call_max2 rfl) rfl bl.max bt_max (pa_cons (pe_ix (k_ix (K := K) rfl hu) (pv 1) (pe_ix (k_ix (K := K) rfl hu) (pv 0) pe_int (fun _ _ => rfl)) (fun _ _ => rfl)) (pa_cons (pe_op op_mulX (pe_ix (k_ix (K := K) rfl hu) (pe_ix (k_ix (K := K) rfl hu) (pv 0) pe_int (fun _ _ => rfl)) pe_int (fun _ _ => rfl)) (pe_callH h_value hr rfl pass0 (pa_cons (pe_ix (k_ix (K := K) rfl hu) (pe_ix (k_ix (K := K) rfl hu) (pv 0) pe_int (fun _ _ => rfl)) pe_int (fun _ _ => rfl)) (pa_cons (pv 1) pa_nil)))) pa_nil)))))
        pss_nil)
      (pss_cons (ps_set (i := 2) nd rfl (Or.inl rfl) (pe_callH h_total hr rfl pass0 (pa_cons (pe_ix (k_ix (K := K) rfl hu) (pv 0) pe_int (fun _ _ => rfl)) (pa_cons (pv 1) pa_nil))))
      (pss_cons (ps_if (pt_cmpR (k_eq (K := K) rfl hu64) (pe_ix (k_ix (K := K) rfl hu) (pv 0) pe_int (fun _ _ => rfl)) pe_str (nomark _))
        (pss_one (ps_ret (pv 2)))
        pss_nil)
      (pss_one (ps_ret (pe_op (k_plus (K := K) rfl) (pe_ix (k_ix (K := K) rfl hu) (pv 1) (pe_ix (k_ix (K := K) rfl hu) (pv 0) pe_int (fun _ _ => rfl)) (fun _ _ => rfl)) (pv 2))))))), ?_⟩
  rintro ds w P X ⟨-, r, p, kvs, names, nuGr, rfl, rfl, hN, hB, hR, hP⟩
  cases r with
  | add x ts =>
    obtain ⟨h1, h2⟩ := hR
    walk_at "w"
    refine csW ⟨rfl, ts, p, kvs, names, nuGr, rfl, rfl, hN, hB, h2, ?_⟩
    walk_at "w"
    refine rd_ix_dctO 0 rfl (hN.at_ x h1) ?_
    walk_at "w"
    exact hP
  | lift x t =>
    obtain ⟨h1, h2, h3, h4⟩ := hR
    walk_at "w"
    refine rd_ix_dctO 0 rfl (hN.at_ x h1) ?_
    walk_at "w"
    refine csW ⟨rfl, t.2, p, kvs, names, nuGr, rfl, rfl, hN, hB, h2, ?_⟩
    refine rd_mul (small_mul (by omega) (by omega)) ?_
    walk_at "w"
    exact hP
  | set x ts =>
    obtain ⟨h1, -, h2⟩ := hR
    walk_at "w"
    refine csW ⟨rfl, ts, p, kvs, names, nuGr, rfl, rfl, hN, hB, h2, ?_⟩
    walk_at "w"
    exact hP
end
end Hw
/-! HwP -/
namespace Hw
structure Sn where
  nuGr : Str → Int
  n : Nat
  pk : List Int
def Sn.step (s : Sn) : Option Sn := if s.n + 1 ≤ 10000 then some { s with n := s.n + 1 } else none
def Sn.pick (s : Sn) (i : Int) : Sn := { s with pk := s.pk ++ [i] }
def Sn.put (s : Sn) (r : Row) : Option Sn := if rowV s.nuGr r ≤ TOP then some { s with nuGr := setN s.nuGr r.tgt (rowV s.nuGr r) } else none
def doRow (s : Sn) (r : Row) : Option Sn := s.step.bind fun s => s.put r
abbrev Fw := Sn → Way → Option (Sn × Way)
def seqO (fs : List Fw) : List Nat → Fw
  | [], s, v => some (s, v)
  | i :: o, s, v => ((fs.getD i fun _ _ => none) s v).bind fun p => seqO fs o p.1 p.2
/-- the rounds of a loop: f i s, for i below m -/
def iterO (f : Nat → Sn → Option Sn) : Nat → Nat → Sn → Option Sn
  | 0, _, s => some s
  | m + 1, i, s => (f i s).bind fun s => iterO f m (i + 1) s
def wayAt (ws : List Way) (i : Nat) : Way := ws.getD (i % ws.length) []
mutual
def runS : Stm → Sn → Way → Option (Sn × Way)
  | .row r, s, v => (doRow s r).map fun s => (s, v)
  | .loop x b, s, v => (iterO (fun i s => s.step.bind fun s => (runB b s (wayAt (wB b) i)).map fun p => p.1) (s.nuGr x).toNat 0 (s.pick (s.nuGr x))).map fun s => (s, v)
  | .alt _ _, _, [] => none
  | .alt o bs, s, k :: v => seqO (runLs bs) (if o then (ordN bs.len).getD k [] else [k]) (s.pick (k : Nat)) v
  | .call _, _, _ => none
def runB : Blk → Sn → Way → Option (Sn × Way)
  | .nil, s, v => some (s, v)
  | .cons st b, s, v => (runS st s v).bind fun p => runB b p.1 p.2
def runLs : Bls → List Fw
  | .nil => []
  | .cons b bs => (fun s v => runB b s v) :: runLs bs
end
theorem runB_cons (st : Stm) (b : Blk) (s : Sn) (v : Way) : runB (.cons st b) s v = (runS st s v).bind fun p => runB b p.1 p.2 := by rw [runB]
theorem runB_nil (s : Sn) (v : Way) : runB .nil s v = some (s, v) := by rw [runB]
theorem runB_app : ∀ (a b : Blk) (s : Sn) (v : Way), runB (a.app b) s v = (runB a s v).bind fun p => runB b p.1 p.2
  | .nil, b, s, v => by rw [runB_nil]; rfl
  | .cons st a, b, s, v => by
    show runB (.cons st (a.app b)) s v = _
    rw [runB_cons, runB_cons, Option.bind_assoc]
    congr 1
    funext p
    exact runB_app a b p.1 p.2
theorem runLs_get : ∀ (bs : Bls) (i : Nat), (runLs bs).getD i (fun _ _ => none) = match bs.get i with | some b => runB b | none => fun _ _ => none
  | .nil, i => by rw [runLs]; cases i <;> rfl
  | .cons b bs, 0 => by rw [runLs]; rfl
  | .cons b bs, i + 1 => by
    rw [runLs]
    exact runLs_get bs i
/-! ### rows and loops name what is there -/
mutual
def RuS (names : List Str) : Stm → Prop
  | .row r => RowN names r
  | .loop x b => x ∈ names ∧ RuB names b
  | .alt _ bs => RuLs names bs
  | .call _ => False
def RuB (names : List Str) : Blk → Prop
  | .nil => True
  | .cons s b => RuS names s ∧ RuB names b
def RuLs (names : List Str) : Bls → Prop
  | .nil => True
  | .cons b bs => RuB names b ∧ RuLs names bs
end
theorem RuLs_get {names : List Str} : ∀ (bs : Bls) (i : Nat) (b : Blk), bs.get i = some b → RuLs names bs → RuB names b
  | .nil, i, b, h, _ => by cases h
  | .cons c bs, 0, b, h, v => by cases h; simp only [RuLs] at v; exact v.1
  | .cons c bs, i + 1, b, h, v => by simp only [RuLs] at v; exact RuLs_get bs i b h v.2
theorem prdV_pos {names : List Str} {nuGr : Str → Int} (h : NuB names nuGr) {p : Prd} (hp : VPn names p) : 1 ≤ prdV nuGr p := by
  cases p with
  | none => exact Int.le_refl _
  | some x => exact (h x hp).1
theorem mul_pos1 {a b : Int} (ha : 1 ≤ a) (hb : 1 ≤ b) : 1 ≤ a * b := Int.mul_pos (show (0 : Int) < a by omega) (show (0 : Int) < b by omega)
theorem sumV_nonneg {names : List Str} {nuGr : Str → Int} (h : NuB names nuGr) : ∀ {ts : List Trm}, (∀ t ∈ ts, VPn names t.2 ∧ 1 ≤ t.1 ∧ t.1 ≤ 9) → 0 ≤ sumV nuGr ts
  | [], _ => Int.le_refl _
  | t :: ts, ht => by
    have h1 := sumV_nonneg h (ts := ts) fun t q => ht t (List.mem_cons_of_mem _ q)
    have h2 := ht t (by simp)
    have h3 := mul_pos1 h2.2.1 (prdV_pos h h2.1)
    show 0 ≤ t.1 * prdV nuGr t.2 + sumV nuGr ts
    omega
theorem sumV_pos {names : List Str} {nuGr : Str → Int} (h : NuB names nuGr) {ts : List Trm} (hn : ts ≠ []) (ht : ∀ t ∈ ts, VPn names t.2 ∧ 1 ≤ t.1 ∧ t.1 ≤ 9) : 1 ≤ sumV nuGr ts := by
  cases ts with
  | nil => exact absurd rfl hn
  | cons t ts =>
    have h1 := sumV_nonneg h (ts := ts) fun t q => ht t (List.mem_cons_of_mem _ q)
    have h2 := ht t (by simp)
    have h3 := mul_pos1 h2.2.1 (prdV_pos h h2.1)
    show 1 ≤ t.1 * prdV nuGr t.2 + sumV nuGr ts
    omega
theorem RowN.tgt_mem {names : List Str} {r : Row} (h : RowN names r) : r.tgt ∈ names := by
  cases r with
  | add x ts => exact h.1
  | lift x t => exact h.1
  | set x ts => exact h.1
theorem rowV_pos {names : List Str} {nuGr : Str → Int} (h : NuB names nuGr) {r : Row} (hr : RowN names r) : 1 ≤ rowV nuGr r := by
  cases r with
  | add x ts =>
    have h1 := sumV_nonneg h hr.2
    have h2 := (h x hr.1).1
    show 1 ≤ nuGr x + sumV nuGr ts
    omega
  | lift x t =>
    have h2 := (h x hr.1).1
    show 1 ≤ jmax (nuGr x) _
    unfold jmax
    split <;> omega
  | set x ts => exact sumV_pos h hr.2.1 hr.2.2
theorem NuB.put {names : List Str} {nuGr : Str → Int} (h : NuB names nuGr) {x : Str} {v : Int} (h1 : 1 ≤ v) (h2 : v ≤ TOP) : NuB names (setN nuGr x v) := fun y hy => by
  unfold setN
  split
  · exact ⟨h1, h2⟩
  · exact h y hy
end Hw
/-! HwL -/
namespace Hw
abbrev cd_ORDERS_OF_TWO : D := .tup ((ordN 2).map eWay)
abbrev cd_ORDERS_OF_THREE : D := .tup ((ordN 3).map eWay)
def S_orders_of : DSpec := fun ds w P _ => ds.length = 1 ∧ ∃ n : Nat, ds = [.int n] ∧ (n = 2 ∨ n = 3) ∧ P (.tup ((ordN n).map eWay)) w
def S_both_behind : DSpec := fun ds w P _ => ds.length = 2 ∧ ∃ xs ys : List Way, ds = [eWays xs, eWays ys] ∧ Gd xs ∧ Gd ys ∧ P (eWays (both xs ys)) w
def S_statement_ways (n : Nat) : DSpec := fun ds w P _ => ds.length = 1 ∧ ∃ s, ds = [eS s] ∧ w = [] ∧ ShS s ∧ dS s < n ∧ Gd (wS s) ∧ P (eWays (wS s)) []
def S_block_ways (n : Nat) : DSpec := fun ds w P _ => ds.length = 1 ∧ ∃ b, ds = [.tup (eB b)] ∧ w = [] ∧ ShB b ∧ dB b < n ∧ Gd (wB b) ∧ P (eWays (wB b)) []
def catD : D → D → D
  | .tup a, .tup b => .tup (a ++ b)
  | _, _ => .non
theorem catD_ways (xs ys : List Way) : (xs.map eWay).flatMap (fun x => (ys.map eWay).map (catD x)) = (both xs ys).map eWay := by
  unfold both
  rw [List.map_flatMap, List.flatMap_map]
  congr 1
  funext x
  rw [List.map_map, List.map_map]
  congr 1
  funext y
  show D.tup (_ ++ _) = D.tup _
  rw [List.map_append]
theorem ShBs_get {n : Nat} : ∀ {b : Bls} {i : Nat} {x : D}, (eBs b)[i]? = some x → ShBs b → dBs b < n → ∃ s, x = .tup (eB s) ∧ ShB s ∧ dB s < n ∧ wB s ∈ wLs b ∧ ((wLs b).map eWays)[i]? = some (eWays (wB s))
  | .nil, i, x, h, _, _ => by cases h
  | .cons s b, 0, x, h, v, d => by
    have v' : (s.len ≤ 40 ∧ ShB s) ∧ ShBs b := v
    have d' : max (dB s) (dBs b) < n := d
    cases h
    exact ⟨s, rfl, v'.1.2, by omega, List.mem_cons_self, rfl⟩
  | .cons s b, i + 1, x, h, v, d => by
    have v' : (s.len ≤ 40 ∧ ShB s) ∧ ShBs b := v
    have d' : max (dB s) (dBs b) < n := d
    obtain ⟨s', h1, h2, h3, h4, h5⟩ := ShBs_get (b := b) (i := i) h v'.2 (show dBs b < n by omega)
    exact ⟨s', h1, h2, h3, List.mem_cons_of_mem _ h4, h5⟩
section
variable {P : Program} {w : World} {K : PySem.W.Frag} {mg : Str → Option Value} {base : Heap} {T : Addr}
abbrev st_orders_of : Stmt := top 40
abbrev N_orders_of : List Str := ["many"]
theorem sc_orders_of : FnScope N_orders_of ["many"] (defScope st_orders_of) := ⟨rfl, rfl, rfl, by decide +kernel, rfl, by decide +kernel, by decide +kernel⟩

theorem ok_orders_of {k : Nat} (bl : Blt mg) (F : DefAt K mg "orders_of" st_orders_of ["many"]) (c_ORDERS_OF_TWO : HasC K mg "ORDERS_OF_TWO" cd_ORDERS_OF_TWO) (c_ORDERS_OF_THREE : HasC K mg "ORDERS_OF_THREE" cd_ORDERS_OF_THREE) : Has P w K mg base CX0 "orders_of" ["many"] (k + 1) (spOf K T S_orders_of) := by
  refine defD F sc_orders_of (fun _ _ _ _ h => h.1) fun f cdv A outer s H E hr => ?_
  have hu := hu_of hr
  have hu64 := hr.units
  have nd := sc_orders_of.nd
  refine ⟨_, (pss_cons (ps_if (pt_cmpR (k_eq (K := K) rfl hu64) (pv 0) pe_int (nomark _))
        (pss_one (ps_ret (k_glob (K := K) rfl c_ORDERS_OF_TWO rfl)))
        pss_nil)
      (pss_one (ps_ret (k_glob (K := K) rfl c_ORDERS_OF_THREE rfl)))), ?_⟩
  rintro ds w P X ⟨-, n, rfl, hn, hP⟩
  rcases hn with rfl | rfl
  · walk_at "w"
    exact hP
  · walk_at "w"
    exact hP
abbrev st_both_behind : Stmt := top 42
abbrev N_both_behind : List Str := ["ones", "others", "one", "other"]
theorem sc_both_behind : FnScope N_both_behind ["ones", "others"] (defScope st_both_behind) := ⟨rfl, rfl, rfl, by decide +kernel, rfl, by decide +kernel, by decide +kernel⟩

theorem ok_both_behind {k : Nat} (bl : Blt mg) (F : DefAt K mg "both_behind" st_both_behind ["ones", "others"]) : Has P w K mg base CX0 "both_behind" ["ones", "others"] (k + 1) (spOf K T S_both_behind) := by
  refine defD F sc_both_behind (fun _ _ _ _ h => h.1) fun f cdv A outer s H E hr => ?_
  have hu := hu_of hr
  have hu64 := hr.units
  have nd := sc_both_behind.nd
  refine ⟨_, (pss_one (ps_ret (pe_lc2 (own := [("one", 2), ("other", 3)]) (vs1 := [3]) (g := gName 2) (g1 := gName 3) (tt := tYes) (tt1 := tYes) rfl nd (k_walk (K := K) rfl (pv 0)) (blkOk_by (N := N_both_behind) (sc := defScope st_both_behind) (by decide +kernel)) (by decide) (fun _ _ _ _ _ => pg_name (i := 2) nd rfl (Or.inl rfl)) (fun _ _ _ _ _ => pts_nil) (fun _ _ _ _ _ => (k_walk (K := K) rfl (pv 1))) (fun _ _ _ _ _ => pg_name (i := 3) nd rfl (Or.inl rfl)) (fun _ _ _ _ _ => pts_nil) (fun _ _ _ _ _ => (pe_op (k_plus (K := K) rfl) (pv 2) (pv 3)))))), ?_⟩
  rintro ds w P X ⟨-, xs, ys, rfl, hx, hy, hP⟩
  walk_at "w"
  refine we_lc2 (by decide) catD (wi_anyL ?_)
  walk_at "w"
  refine ⟨_, .inl rfl, ys.map eWay, by rw [List.length_map]; have := hx.1; omega, by rw [List.length_map]; have := hy.1; omega, fun _ => trivial, ?_, ?_, ?_⟩
  · intro x _ e
    refine wi_anyL ?_
    walk_at "w"
    exact ⟨_, .inl rfl, rfl, fun _ => trivial, rfl⟩
  · intro x hx' y hy'
    obtain ⟨x, hx2, rfl⟩ := List.mem_map.mp hx'
    obtain ⟨y, hy2, rfl⟩ := List.mem_map.mp hy'
    walk_at "w"
    refine rd_plus_tup ?_ ⟨rfl, rfl⟩
    rw [List.length_map, List.length_map]
    have := hx.2 x hx2
    have := hy.2 y hy2
    omega
  · rw [catD_ways]
    exact hP
abbrev st_block_ways : Stmt := top 44
abbrev N_block_ways : List Str := ["block", "told", "statement"]
theorem sc_block_ways : FnScope N_block_ways ["block"] (defScope st_block_ways) := ⟨rfl, rfl, rfl, by decide +kernel, rfl, by decide +kernel, by decide +kernel⟩

theorem ok_block_ways {k : Nat} {n : Nat} (bl : Blt mg) (F : DefAt K mg "block_ways" st_block_ways ["block"]) (h_both_behind : Has P w K mg base CX0 "both_behind" ["ones", "others"] k (spOf K T S_both_behind)) (h_statement_ways : Has P w K mg base CX0 "statement_ways" ["statement"] k (spOf K T (S_statement_ways n))) : Has P w K mg base CX0 "block_ways" ["block"] (k + 1) (spOf K T (S_block_ways n)) := by
  refine defD F sc_block_ways (fun _ _ _ _ h => h.1) fun f cdv A outer s H E hr => ?_
  have hu := hu_of hr
  have hu64 := hr.units
  have nd := sc_block_ways.nd
  refine ⟨_, (pss_cons (ps_set (i := 1) nd rfl (Or.inl rfl) (pe_lst (pa_cons (pe_tup pa_nil) pa_nil)))
      (pss_cons (ps_for PassesOwn.never rfl (k_walk (K := K) rfl (pv 0)) (pg_name (i := 2) nd rfl (Or.inl rfl))
        (pss_one (ps_set (i := 1) nd rfl (Or.inl rfl) (pe_callH h_both_behind hr rfl pass0 (pa_cons (pv 1) (pa_cons (pe_callH h_statement_ways hr rfl pass0 (pa_cons (pv 2) pa_nil)) pa_nil))))))
      (pss_one (ps_ret (pv 1))))), ?_⟩
  rintro ds w P X ⟨-, b, rfl, rfl, hS, hd, hg, hP⟩
  walk_at "w"
  refine we_lst ?_
  walk_at "w"
  refine wi_anyT ?_
  walk_at "w"
  refine ⟨_, rfl, fun _ => trivial, ?_⟩
  refine turns_ind (A := List Way × Blk) (fun s ds rhGr w' => ds = eB s.2 ∧ ShB s.2 ∧ dB s.2 < n ∧ both s.1 (wB s.2) = wB b ∧ s.1 ≠ [] ∧ (∃ pv, rhGr = [some (.tup (eB b)), some (eWays s.1), pv]) ∧ w' = []) ?_ ?_ ([[]], b) ⟨rfl, hS, hd, both_nil_l _, by simp, ⟨none, rfl⟩, rfl⟩
  · rintro ⟨told, rest⟩ rhGr w' ⟨h1, h2, h3, h4, h5, ⟨pv, rfl⟩, rfl⟩
    cases rest with
    | cons p rest => cases h1
    | nil =>
      walk_at "w"
      have e : both told [[]] = wB b := h4
      rw [both_nil_r] at e
      rw [← e] at hP
      exact hP
  · rintro ⟨told, rest⟩ x xs rhGr w' ⟨h1, h2, h3, h4, h5, ⟨pv, rfl⟩, rfl⟩
    cases rest with
    | nil => cases h1
    | cons s rest =>
      obtain ⟨rfl, rfl⟩ := List.cons.inj h1
      obtain ⟨s1, s2⟩ := (show ShS s ∧ ShB rest from h2)
      have d' : max (dS s) (dB rest) < n := h3
      have e : both (both told (wS s)) (wB rest) = wB b := by rw [both_assoc]; exact h4
      have g1 : Gd (both told (wS s)) := by rw [← e] at hg; exact hg.left (wB_ne rest s2)
      have g2 := g1.left (wS_ne s s1)
      have g3 := g1.right h5
      walk_at "w"
      refine cs0 ⟨rfl, s, rfl, rfl, s1, by omega, g3, ?_⟩
      walk_at "w"
      refine cs0 ⟨rfl, told, wS s, rfl, g2, g3, ?_⟩
      exact ⟨(both told (wS s), rest), rfl, s2, by show dB rest < n; omega, e, both_ne h5 (wS_ne s s1), ⟨_, rfl⟩, rfl⟩
abbrev st_statement_ways : Stmt := top 43
abbrev N_statement_ways : List Str := ["statement", "found", "k", "block", "ways", "order", "told", "each"]
theorem sc_statement_ways : FnScope N_statement_ways ["statement"] (defScope st_statement_ways) := ⟨rfl, rfl, rfl, by decide +kernel, rfl, by decide +kernel, by decide +kernel⟩

theorem ok_statement_ways {k : Nat} {n : Nat} (bl : Blt mg) (F : DefAt K mg "statement_ways" st_statement_ways ["statement"]) (c_ROWS : HasC K mg "ROWS" cd_ROWS) (h_both_behind : Has P w K mg base CX0 "both_behind" ["ones", "others"] k (spOf K T S_both_behind)) (h_block_ways : Has P w K mg base CX0 "block_ways" ["block"] k (spOf K T (S_block_ways n))) (h_orders_of : Has P w K mg base CX0 "orders_of" ["many"] k (spOf K T S_orders_of)) : Has P w K mg base CX0 "statement_ways" ["statement"] (k + 1) (spOf K T (S_statement_ways (n + 1))) := by
  refine defD F sc_statement_ways (fun _ _ _ _ h => h.1) fun f cdv A outer s H E hr => ?_
  have hu := hu_of hr
  have hu64 := hr.units
  have nd := sc_statement_ways.nd
  refine ⟨_, (pss_cons (ps_if (PW.pt (pw_or (pt_cmpR (k_in (K := K) rfl hu) (pe_ix (k_ix (K := K) rfl hu) (pv 0) pe_int (fun _ _ => rfl)) (k_glob (K := K) rfl c_ROWS rfl) rfl) (pw_or1 (pt_cmpR (k_eq (K := K) rfl hu64) (pe_ix (k_ix (K := K) rfl hu) (pv 0) pe_int (fun _ _ => rfl)) pe_str (nomark _)))))
        (pss_one (ps_ret (pe_lst (pa_cons (pe_tup pa_nil) pa_nil))))
        pss_nil)
      (pss_cons (ps_set (i := 1) nd rfl (Or.inl rfl) (pe_lst pa_nil))
      (pss_cons (ps_if (pt_cmpR (k_eq (K := K) rfl hu64) (pe_ix (k_ix (K := K) rfl hu) (pv 0) pe_int (fun _ _ => rfl)) pe_str (nomark _))
        (pss_cons (ps_for PassesOwn.never rfl (k_enum (K := K) rfl rfl bl.enumerate (pa_cons (pe_ix (k_ix (K := K) rfl hu) (pv 0) pe_int (fun _ _ => rfl)) pa_nil)) (k_tup (K := K) rfl rfl (pgs_cons (pg_name (i := 2) nd rfl (Or.inl rfl)) (pgs_cons (pg_name (i := 3) nd rfl (Or.inl rfl)) pgs_nil)))
          (pss_one (ps_expr (pe_bm PySem.F.plainAttrs_list PySem.F.slot_list_extend PySem.F.type_list_extend (mt_extX (K := K) rfl) (pv 1) (pa_cons (pe_callH h_both_behind hr rfl pass0 (pa_cons (pe_lst (pa_cons (pe_tup (pa_cons (pv 2) pa_nil)) pa_nil)) (pa_cons (pe_callH h_block_ways hr rfl pass0 (pa_cons (pv 3) pa_nil)) pa_nil))) pa_nil)))))
        (pss_one (ps_ret (pv 1))))
        pss_nil)
      (pss_cons (ps_setLc (i := 4) (own := [("block", 3)]) (g := gName 3) (tt := tYes) rfl nd rfl rfl (sw_true rfl rfl rfl (by decide +kernel)) (k_walk (K := K) rfl (pe_ix (k_ix (K := K) rfl hu) (pv 0) pe_int (fun _ _ => rfl))) (blkOk_by (N := N_statement_ways) (sc := defScope st_statement_ways) (by decide +kernel)) (fun _ _ _ _ _ => pg_name (i := 3) nd rfl (Or.inl rfl)) (fun _ _ _ _ _ => pts_nil) (fun _ _ _ _ _ => (pe_callH h_block_ways hr rfl pass0 (pa_cons (pv 3) pa_nil))))
      (pss_cons (ps_for PassesOwn.never rfl (k_enum (K := K) rfl rfl bl.enumerate (pa_cons (pe_callH h_orders_of hr rfl pass0 (pa_cons (pe_callB (k_len (K := K) rfl) rfl bl.len bt_len (pa_cons (pv 4) pa_nil)) pa_nil)) pa_nil)) (k_tup (K := K) rfl rfl (pgs_cons (pg_name (i := 2) nd rfl (Or.inl rfl)) (pgs_cons (pg_name (i := 5) nd rfl (Or.inl rfl)) pgs_nil)))
        (pss_cons (ps_set (i := 6) nd rfl (Or.inl rfl) (pe_lst (pa_cons (pe_tup (pa_cons (pv 2) pa_nil)) pa_nil)))
        (pss_cons (ps_for PassesOwn.never rfl (k_walk (K := K) rfl (pv 5)) (pg_name (i := 7) nd rfl (Or.inl rfl))
          (pss_one (ps_set (i := 6) nd rfl (Or.inl rfl) (pe_callH h_both_behind hr rfl pass0 (pa_cons (pv 6) (pa_cons (pe_ix (k_ix (K := K) rfl hu) (pv 4) (pv 7) (fun _ _ => rfl)) pa_nil))))))
        (pss_one (ps_expr (pe_bm PySem.F.plainAttrs_list PySem.F.slot_list_extend PySem.F.type_list_extend (mt_extX (K := K) rfl) (pv 1) (pa_cons (pv 6) pa_nil)))))))
      (pss_one (ps_ret (pv 1)))))))), ?_⟩
  rintro ds w P X ⟨-, s, rfl, rfl, hS, hd, hg, hP⟩
  cases s with
  | row r =>
    cases r with
    | add x ts => walk_at "w"; refine we_lst ?_; walk_at "w"; exact hP
    | lift x ts => walk_at "w"; refine we_lst ?_; walk_at "w"; exact hP
    | set x ts => walk_at "w"; refine we_lst ?_; walk_at "w"; exact hP
  | loop x b => walk_at "w"; refine we_lst ?_; walk_at "w"; exact hP
  | call x => exact hS.elim
  | alt o bs =>
    have hgs := alt_gd hS hg
    obtain ⟨h1, h2, h3⟩ := (show 2 ≤ bs.len ∧ bs.len ≤ 3 ∧ ShBs bs from hS)
    have hd' : dBs bs + 1 < n + 1 := hd
    have hne := wLs_ne bs h3
    have hwl := wLs_len bs
    cases o with
    | false =>
      have ew : wS (.alt false bs) = altE 0 (wLs bs) := by simp [wS]
      rw [ew] at hP hg
      walk_at "w"
      refine we_lstO ?_
      walk_at "w"
      intro p
      walk_at "w"
      refine wi_enumT ?_
      walk_at "w"
      refine ⟨_, rfl, fun _ => trivial, ?_⟩
      rw [numbered_eq]
      refine turns_ind (A := Nat × List Way × Bls) (fun s ds rhGr w' => ds = numF s.1 (eBs s.2.2) ∧ ShBs s.2.2 ∧ dBs s.2.2 < n ∧ (∀ w ∈ wLs s.2.2, Gd w) ∧ s.2.1 ++ altE s.1 (wLs s.2.2) = altE 0 (wLs bs) ∧ s.1 + s.2.2.len = bs.len ∧ (∃ v2 v3, rhGr = [some (eS (.alt false bs)), some (.adr p), v2, v3, none, none, none, none]) ∧ w' = [(p, eWays s.2.1)]) ?_ ?_ (0, [], bs) ⟨rfl, h3, by show dBs bs < n; omega, hgs, rfl, by simp, ⟨none, none, rfl⟩, rfl⟩
      · rintro ⟨i, acc, rest⟩ rhGr w' ⟨e1, e2, e3, e4, e5, e6, ⟨v2, v3, rfl⟩, rfl⟩
        cases rest with
        | cons b rest => cases e1
        | nil =>
          refine ws_ret (we_freeze ?_)
          walk_at "w"
          have e : acc = altE 0 (wLs bs) := by rw [← e5]; exact (List.append_nil acc).symm
          rw [← e] at hP
          exact ⟨0, p, _, rfl, rfl, hP⟩
      · rintro ⟨i, acc, rest⟩ x xs rhGr w' ⟨e1, e2, e3, e4, e5, e6, ⟨v2, v3, rfl⟩, rfl⟩
        cases rest with
        | nil => cases e1
        | cons b rest =>
          obtain ⟨rfl, rfl⟩ := List.cons.inj e1
          obtain ⟨s1, s2⟩ := (show (b.len ≤ 40 ∧ ShB b) ∧ ShBs rest from e2)
          have d' : max (dB b) (dBs rest) < n := e3
          have e7 : altE i (wLs (.cons b rest)) = both [[i]] (wB b) ++ altE (i + 1) (wLs rest) := by simp [wLs, altE]
          have gb : Gd (wB b) := e4 _ (by simp [wLs])
          have gi : Gd [[i]] := ⟨Nat.le_of_ble_eq_true rfl, fun w hw => by simp at hw; subst hw; exact Nat.le_of_ble_eq_true rfl⟩
          rw [e7, ← List.append_assoc] at e5
          have gl : (acc ++ both [[i]] (wB b)).length ≤ 24 := by rw [← e5] at hg; exact (Gd.app_l hg).1
          have e8 : i + (rest.len + 1) = bs.len := e6
          walk_at "w"
          refine we_extX ?_
          walk_at "w"
          refine ⟨p, rfl, ⟨0, _, rfl⟩, ?_⟩
          walk_at "w"
          refine we_lst ?_
          walk_at "w"
          refine cs0 ⟨rfl, b, rfl, rfl, s1.2, by omega, gb, ?_⟩
          walk_at "w"
          refine cs0 ⟨rfl, [[i]], wB b, rfl, gi, gb, ?_⟩
          refine ⟨_, .inl rfl, 0, _, rfl, ?_, ?_⟩
          · rw [List.length_append] at gl
            rw [List.length_map, List.length_map]
            show acc.length + (both [[i]] (wB b)).length ≤ 10000000
            omega
          · refine ⟨(i + 1, acc ++ both [[i]] (wB b), rest), rfl, s2, by show dBs rest < n; omega, fun w hw => e4 w (by simp [wLs, hw]), e5, by show i + 1 + rest.len = _; omega, ⟨_, _, rfl⟩, ?_⟩
            show [(p, D.lst (acc.map eWay ++ (both [[i]] (wB b)).map eWay))] = [(p, D.lst ((acc ++ both [[i]] (wB b)).map eWay))]
            rw [List.map_append]
    | true =>
      have ew : wS (.alt true bs) = altO (wLs bs) 0 (ordN (wLs bs).length) := by simp [wS]
      rw [ew] at hP hg
      have hn : (wLs bs).length = 2 ∨ (wLs bs).length = 3 := by omega
      have hlt := ordN_lt hn
      have nn : ∀ i, i < (wLs bs).length → (wLs bs).getD i [] ≠ [] ∧ Gd ((wLs bs).getD i []) := fun i hi => by
        rw [List.getD_eq_getElem?_getD, List.getElem?_eq_getElem hi]
        exact ⟨hne _ (List.getElem_mem hi), hgs _ (List.getElem_mem hi)⟩
      walk_at "w"
      refine we_lstO ?_
      walk_at "w"
      intro p
      walk_at "w"
      refine we_lc (wi_anyT ?_)
      walk_at "w"
      refine ⟨_, rfl, (wLs bs).map eWays, by rw [List.length_map, wLs_len, eBs_len], by rw [eBs_len]; omega, fun _ => trivial, ?_, ?_⟩
      · intro i x hx
        obtain ⟨b, rfl, g1, g2, g3, g4⟩ := ShBs_get hx h3 (show dBs bs < n by omega)
        walk_at "w"
        exact cs0 ⟨rfl, b, rfl, rfl, g1, g2, hgs _ g3, g4, rfl⟩
      · walk_at "w"
        refine wi_enumT ?_
        walk_at "w"
        rw [List.length_map]
        refine cs0 ⟨rfl, (wLs bs).length, rfl, hn, ?_⟩
        walk_at "w"
        refine ⟨_, rfl, fun _ => trivial, ?_⟩
        rw [numbered_eq]
        refine turns_ind (A := Nat × List Way × List (List Nat)) (fun s ds rhGr w' => ds = numF s.1 (s.2.2.map eWay) ∧ (∀ o ∈ s.2.2, ∀ i ∈ o, i < (wLs bs).length) ∧ s.2.1 ++ altO (wLs bs) s.1 s.2.2 = altO (wLs bs) 0 (ordN (wLs bs).length) ∧ (∃ v2 v5 v6 v7, rhGr = [some (eS (.alt true bs)), some (.adr p), v2, none, some (.lst ((wLs bs).map eWays)), v5, v6, v7]) ∧ w' = [(p, eWays s.2.1)]) ?_ ?_ (0, [], ordN (wLs bs).length) ⟨rfl, fun o ho => (hlt o ho).1, rfl, ⟨none, none, none, none, rfl⟩, rfl⟩
        · rintro ⟨i, acc, rest⟩ rhGr w' ⟨e1, e2, e5, ⟨v2, v5, v6, v7, rfl⟩, rfl⟩
          cases rest with
          | cons b rest => cases e1
          | nil =>
            refine ws_ret (we_freeze ?_)
            walk_at "w"
            have e : acc = altO (wLs bs) 0 (ordN (wLs bs).length) := by rw [← e5]; exact (List.append_nil acc).symm
            rw [← e] at hP
            exact ⟨0, p, _, rfl, rfl, hP⟩
        · rintro ⟨i, acc, rest⟩ x xs rhGr w' ⟨e1, e2, e5, ⟨v2, v5, v6, v7, rfl⟩, rfl⟩
          cases rest with
          | nil => cases e1
          | cons o rest =>
            obtain ⟨rfl, rfl⟩ := List.cons.inj e1
            have e7 : altO (wLs bs) i (o :: rest) = ordW (wLs bs) [[i]] o ++ altO (wLs bs) (i + 1) rest := rfl
            rw [e7, ← List.append_assoc] at e5
            have gall : Gd (acc ++ ordW (wLs bs) [[i]] o) := by rw [← e5] at hg; exact Gd.app_l hg
            have go := Gd.app_r gall
            have lo := e2 o (by simp)
            walk_at "w"
            refine we_lst ?_
            walk_at "w"
            refine wi_anyT ?_
            walk_at "w"
            refine ⟨_, rfl, fun _ => trivial, ?_⟩
            refine turns_ind (A := List Way × List Nat) (fun s ds rhGr w' => ds = s.2.map (fun k : Nat => D.int (k : Int)) ∧ (∀ i ∈ s.2, i < (wLs bs).length) ∧ s.1 ≠ [] ∧ ordW (wLs bs) s.1 s.2 = ordW (wLs bs) [[i]] o ∧ (∃ v7, rhGr = [some (eS (.alt true bs)), some (.adr p), some (.int (i : Nat)), none, some (.lst ((wLs bs).map eWays)), some (eWay o), some (eWays s.1), v7]) ∧ w' = [(p, eWays acc)]) ?_ ?_ ([[i]], o) ⟨rfl, lo, by simp, rfl, ⟨_, rfl⟩, rfl⟩
            · rintro ⟨told, os⟩ rhGr w' ⟨f1, f2, f3, f4, ⟨v8, rfl⟩, rfl⟩
              cases os with
              | cons b os => cases f1
              | nil =>
                have ft : told = ordW (wLs bs) [[i]] o := f4
                rw [← ft] at e5 gall
                walk_at "w"
                refine we_extX ?_
                walk_at "w"
                refine ⟨p, rfl, ⟨0, _, rfl⟩, ?_⟩
                walk_at "w"
                refine ⟨_, .inl rfl, 0, _, rfl, ?_, ?_⟩
                · have gl := gall.1
                  rw [List.length_append] at gl
                  rw [List.length_map, List.length_map]
                  show acc.length + told.length ≤ 10000000
                  omega
                · refine ⟨(i + 1, acc ++ told, rest), rfl, fun o ho => e2 o (List.mem_cons_of_mem _ ho), e5, ⟨_, _, _, _, rfl⟩, ?_⟩
                  show [(p, D.lst (acc.map eWay ++ told.map eWay))] = [(p, D.lst ((acc ++ told).map eWay))]
                  rw [List.map_append]
            · rintro ⟨told, os⟩ x xs rhGr w' ⟨f1, f2, f3, f4, ⟨v8, rfl⟩, rfl⟩
              cases os with
              | nil => cases f1
              | cons j os =>
                obtain ⟨rfl, rfl⟩ := List.cons.inj f1
                have hj := f2 j (by simp)
                obtain ⟨n1, n2⟩ := nn j hj
                have f5 : ordW (wLs bs) (both told ((wLs bs).getD j [])) os = ordW (wLs bs) [[i]] o := f4
                have g5 : Gd (both told ((wLs bs).getD j [])) := (ordW_gd (by rw [f5]; exact go) (both_ne f3 n1) fun z hz => (nn z (f2 z (List.mem_cons_of_mem _ hz))).1).1
                walk_at "w"
                refine rd_ix_lst (d := eWays ((wLs bs).getD j [])) (by omega) (by rw [Int.toNat_natCast, List.getElem?_map, List.getD_eq_getElem?_getD, List.getElem?_eq_getElem hj]; rfl) ?_
                walk_at "w"
                refine cs0 ⟨rfl, told, (wLs bs).getD j [], rfl, g5.left n1, n2, ?_⟩
                exact ⟨(both told ((wLs bs).getD j []), os), rfl, fun z hz => f2 z (List.mem_cons_of_mem _ hz), both_ne f3 n1, f5, ⟨_, rfl⟩, rfl⟩
end
end Hw
/-! HwN -/
namespace Hw
def S_written_out (n : Nat) : DSpec := fun ds w P _ => ds.length = 2 ∧ ∃ (b : Blk) (e : En), ds = [.tup (eB b), .dct e.GaGr] ∧ w = [] ∧ EnOk e ∧ CaB e.kn b ∧ dpB e.gaGr b < n ∧ szB (woB e.f b) ≤ 1000 ∧ P (.tup (eB (woB e.f b))) []
def S_prepared (n : Nat) : DSpec := fun ds w P _ => ds.length = 1 ∧ ∃ (b : Blk), ds = [.tup (eB b)] ∧ w = [] ∧ ShB b ∧ dB b < n ∧ szB b ≤ 1000 ∧ P (.tup (ePB b)) []
section
variable {P : Program} {w : World} {K : PySem.W.Frag} {mg : Str → Option Value} {base : Heap} {T : Addr}
abbrev st_written_out : Stmt := top 41
abbrev N_written_out : List Str := ["block", "bodies", "found", "statement", "inner"]
theorem sc_written_out : FnScope N_written_out ["block", "bodies"] (defScope st_written_out) := ⟨rfl, rfl, rfl, by decide +kernel, rfl, by decide +kernel, by decide +kernel⟩

theorem ok_written_out {k : Nat} {n : Nat} (bl : Blt mg) (F : DefAt K mg "written_out" st_written_out ["block", "bodies"]) (h_written_out : Has P w K mg base CX0 "written_out" ["block", "bodies"] k (spOf K T (S_written_out n))) (c_ROWS : HasC K mg "ROWS" cd_ROWS) : Has P w K mg base CX0 "written_out" ["block", "bodies"] (k + 1) (spOf K T (S_written_out (n + 1))) := by
  refine defD F sc_written_out (fun _ _ _ _ h => h.1) fun f cdv A outer s H E hr => ?_
  have hu := hu_of hr
  have hu64 := hr.units
  have nd := sc_written_out.nd
  refine ⟨_, (pss_cons (ps_set (i := 2) nd rfl (Or.inl rfl) (pe_lst pa_nil))
      (pss_cons (ps_for PassesOwn.never rfl (k_walk (K := K) rfl (pv 0)) (pg_name (i := 3) nd rfl (Or.inl rfl))
        (pss_one (ps_if (pt_cmpR (k_eq (K := K) rfl hu64) (pe_ix (k_ix (K := K) rfl hu) (pv 3) pe_int (fun _ _ => rfl)) pe_str (nomark _))
          (pss_one (ps_expr (pe_bm PySem.F.plainAttrs_list PySem.F.slot_list_extend PySem.F.type_list_extend (mt_extX (K := K) rfl) (pv 2) (pa_cons (pe_callH h_written_out hr rfl pass0 (pa_cons (pe_ix (k_ix (K := K) rfl hu) (pv 1) (pe_ix (k_ix (K := K) rfl hu) (pv 3) pe_int (fun _ _ => rfl)) (fun _ _ => rfl)) (pa_cons (pv 1) pa_nil))) pa_nil))))
          (pss_one (ps_if (pt_cmpR (k_eq (K := K) rfl hu64) (pe_ix (k_ix (K := K) rfl hu) (pv 3) pe_int (fun _ _ => rfl)) pe_str (nomark _))
            (pss_one (ps_expr (pe_bm PySem.F.plainAttrs_list PySem.F.slot_list_append PySem.F.type_list_append mt_append (pv 2) (pa_cons (pe_tup (pa_cons pe_str (pa_cons (pe_ix (k_ix (K := K) rfl hu) (pv 3) pe_int (fun _ _ => rfl)) (pa_cons (pe_callH h_written_out hr rfl pass0 (pa_cons (pe_ix (k_ix (K := K) rfl hu) (pv 3) pe_int (fun _ _ => rfl)) (pa_cons (pv 1) pa_nil))) pa_nil)))) pa_nil))))
            (pss_one (ps_if (pt_cmpR (k_in (K := K) rfl hu) (pe_ix (k_ix (K := K) rfl hu) (pv 3) pe_int (fun _ _ => rfl)) (k_glob (K := K) rfl c_ROWS rfl) rfl)
              (pss_one (ps_expr (pe_bm PySem.F.plainAttrs_list PySem.F.slot_list_append PySem.F.type_list_append mt_append (pv 2) (pa_cons (pv 3) pa_nil))))
              (pss_one (ps_expr (pe_bm PySem.F.plainAttrs_list PySem.F.slot_list_append PySem.F.type_list_append mt_append (pv 2) (pa_cons (pe_tup (pa_cons (pe_ix (k_ix (K := K) rfl hu) (pv 3) pe_int (fun _ _ => rfl)) (pa_cons (pe_callTy (k_tuple (K := K) rfl) rfl bl.tuple bt_tuple (pa_cons (pe_lc (own := [("inner", 4)]) (g := gName 4) (tt := tYes) rfl nd (k_walk (K := K) rfl (pe_ix (k_ix (K := K) rfl hu) (pv 3) pe_int (fun _ _ => rfl))) (blkOk_by (N := N_written_out) (sc := defScope st_written_out) (by decide +kernel)) (fun _ _ _ _ _ => pg_name (i := 4) nd rfl (Or.inl rfl)) (fun _ _ _ _ _ => pts_nil) (fun _ _ _ _ _ => (pe_callH h_written_out hr rfl pass0 (pa_cons (pv 4) (pa_cons (pv 1) pa_nil))))) pa_nil)) pa_nil))) pa_nil)))))))))))
      (pss_one (ps_ret (pe_callTy (k_tuple (K := K) rfl) rfl bl.tuple bt_tuple (pa_cons (pv 2) pa_nil)))))), ?_⟩
  rintro ds w P X ⟨-, b, e, rfl, rfl, hE, hC, hd, hz, hP⟩
  walk_at "w"
  refine we_lstO ?_
  walk_at "w"
  intro p
  walk_at "w"
  refine wi_anyT ?_
  walk_at "w"
  refine ⟨_, rfl, fun _ => trivial, ?_⟩
  refine turns_ind (A := Blk × Blk) (fun s ds rhGr w' => ds = eB s.2 ∧ CaB e.kn s.2 ∧ dpB e.gaGr s.2 < n + 1 ∧ s.1.app (woB e.f s.2) = woB e.f b ∧ (∃ pv, rhGr = [some (.tup (eB b)), some (.dct e.GaGr), some (.adr p), pv, none]) ∧ w' = [(p, .lst (eB s.1))]) ?_ ?_ (.nil, b) ⟨rfl, hC, hd, rfl, ⟨none, rfl⟩, rfl⟩
  · rintro ⟨acc, rest⟩ rhGr w' ⟨h1, h2, h3, h4, ⟨pv, rfl⟩, rfl⟩
    cases rest with
    | cons s rest => cases h1
    | nil =>
      refine ws_ret (we_trim ?_)
      walk_at "w"
      refine rc_tupleO 0 rfl ?_
      have e1 : acc.app .nil = woB e.f b := by rw [← h4]; simp [woB]
      rw [app_nil] at e1
      rw [← e1] at hP
      exact ⟨[], _, rfl, hP⟩
  · rintro ⟨acc, rest⟩ x xs rhGr w' ⟨h1, h2, h3, h4, ⟨pv, rfl⟩, rfl⟩
    cases rest with
    | nil => cases h1
    | cons s rest =>
      obtain ⟨rfl, rfl⟩ := List.cons.inj h1
      have e1 : woB e.f (.cons s rest) = (woS e.f s).app (woB e.f rest) := by simp [woB]
      have h4' : (acc.app (woS e.f s)).app (woB e.f rest) = woB e.f b := by rw [app_assoc, ← e1]; exact h4
      obtain ⟨c1, c2⟩ : CaS e.kn s ∧ CaB e.kn rest := by simpa [CaB] using h2
      have d1 : dpS e.gaGr s < n + 1 ∧ dpB e.gaGr rest < n + 1 := by simp only [dpB] at h3; omega
      have z1 : szB acc + szB (woS e.f s) ≤ 1000 := by rw [← h4', szB_app, szB_app] at hz; omega
      have la := len_szB acc
      have fin : ∀ (pv : Option D) (w2 : Own), w2 = [(p, D.lst (eB acc ++ eB (woS e.f s)))] → ∃ s' : Blk × Blk, eB rest = eB s'.2 ∧ CaB e.kn s'.2 ∧ dpB e.gaGr s'.2 < n + 1 ∧ s'.1.app (woB e.f s'.2) = woB e.f b ∧ (∃ pv', [some (.tup (eB b)), some (.dct e.GaGr), some (.adr p), pv, none] = [some (.tup (eB b)), some (.dct e.GaGr), some (.adr p), pv', none]) ∧ w2 = [(p, .lst (eB s'.1))] := by
        rintro pv w2 rfl
        exact ⟨(acc.app (woS e.f s), rest), rfl, c2, d1.2, h4', ⟨pv, rfl⟩, by rw [eB_app]⟩
      cases s with
      | row r =>
        have ew : woS e.f (.row r) = .cons (.row r) .nil := by simp [woS]
        rw [ew] at fin
        cases r with
        | add y ts =>
          walk_at "w"
          refine we_append ?_
          walk_at "w"
          refine ⟨p, rfl, ⟨0, _, rfl⟩, ?_⟩
          walk_at "w"
          exact ⟨0, _, rfl, by rw [eB_len]; show acc.len < _; omega, fin _ _ rfl⟩
        | lift y ts =>
          walk_at "w"
          refine we_append ?_
          walk_at "w"
          refine ⟨p, rfl, ⟨0, _, rfl⟩, ?_⟩
          walk_at "w"
          exact ⟨0, _, rfl, by rw [eB_len]; show acc.len < _; omega, fin _ _ rfl⟩
        | set y ts =>
          walk_at "w"
          refine we_append ?_
          walk_at "w"
          refine ⟨p, rfl, ⟨0, _, rfl⟩, ?_⟩
          walk_at "w"
          exact ⟨0, _, rfl, by rw [eB_len]; show acc.len < _; omega, fin _ _ rfl⟩
      | call x =>
        have hk : (e.bod x).isSome = true := by simpa [CaS, En.kn] using c1
        obtain ⟨d, hd2⟩ := Option.isSome_iff_exists.mp hk
        have dd := hE.dp x d hd2
        have ew : woS e.f (.call x) = woB e.f d := by rw [← hE.wo x d hd2]; simp [woS]
        rw [ew] at fin z1
        have dx : e.gaGr x + 1 < n + 1 := by simpa [dpS] using d1.1
        have ln := len_szB (woB e.f d)
        walk_at "w"
        refine we_extX ?_
        walk_at "w"
        refine ⟨p, rfl, ⟨0, _, rfl⟩, ?_⟩
        walk_at "w"
        refine rd_ix_dct (hE.at_ x d hd2) ?_
        walk_at "w"
        refine cs0 ⟨rfl, d, e, rfl, rfl, hE, hE.ca x d hd2, by omega, by omega, ?_⟩
        exact ⟨_, .inr rfl, 0, _, rfl, by rw [eB_len, eB_len]; show acc.len + _ ≤ _; omega, fin _ _ rfl⟩
      | loop x c =>
        have ew : woS e.f (.loop x c) = .cons (.loop x (woB e.f c)) .nil := by simp [woS]
        rw [ew] at fin z1
        have dx : dpB e.gaGr c + 1 < n + 1 := by simpa [dpS] using d1.1
        have cx : CaB e.kn c := by simpa [CaS] using c1
        have zx : szB (woB e.f c) + 1 ≤ 1000 := by simp only [szB, szS] at z1; omega
        walk_at "w"
        refine we_append ?_
        walk_at "w"
        refine ⟨p, rfl, ⟨0, _, rfl⟩, ?_⟩
        walk_at "w"
        refine cs0 ⟨rfl, c, e, rfl, rfl, hE, cx, by omega, by omega, ?_⟩
        walk_at "w"
        exact ⟨0, _, rfl, by rw [eB_len]; show acc.len < _; omega, fin _ _ rfl⟩
      | alt o bs =>
        have ew : woS e.f (.alt o bs) = .cons (.alt o (woLs e.f bs)) .nil := by simp [woS]
        rw [ew] at fin z1
        have dx : dpLs e.gaGr bs + 1 < n + 1 := by simpa [dpS] using d1.1
        have cx : CaLs e.kn bs := by simpa [CaS] using c1
        have zx : szLs (woLs e.f bs) + 1 ≤ 1000 := by simp only [szB, szS] at z1; omega
        have lb := len_szLs (woLs e.f bs)
        rw [woLs_len] at lb
        have hcomp : ∀ (i : Nat) (x : D), (eBs bs)[i]? = some x → ∃ c, x = .tup (eB c) ∧ CaB e.kn c ∧ dpB e.gaGr c < n ∧ szB (woB e.f c) ≤ 1000 ∧ (eBs (woLs e.f bs))[i]? = some (.tup (eB (woB e.f c))) := by
          intro i x hx
          rw [eBs_get] at hx
          obtain ⟨c, hc, rfl⟩ := Option.map_eq_some_iff.mp hx
          have h7 := woLs_at e.f bs i c hc
          have h8 := szLs_get _ i _ h7
          have h9 := dpLs_get (gaGr := e.gaGr) bs i c hc
          exact ⟨c, rfl, CaLs_get bs i c hc cx, by omega, by omega, by rw [eBs_get, h7]; rfl⟩
        cases o with
        | true =>
          walk_at "w"
          refine we_append ?_
          walk_at "w"
          refine ⟨p, rfl, ⟨0, _, rfl⟩, ?_⟩
          walk_at "w"
          refine we_lc (wi_anyT ?_)
          walk_at "w"
          refine ⟨_, rfl, eBs (woLs e.f bs), by rw [eBs_len, eBs_len, woLs_len], by rw [eBs_len]; omega, fun _ => trivial, ?_, ?_⟩
          · intro i x hx
            obtain ⟨c, rfl, g1, g2, g3, g4⟩ := hcomp i x hx
            walk_at "w"
            exact cs0 ⟨rfl, c, e, rfl, rfl, hE, g1, g2, g3, g4, rfl⟩
          · walk_at "w"
            refine rc_tuple ?_
            walk_at "w"
            exact ⟨0, _, rfl, by rw [eB_len]; show acc.len < _; omega, fin _ _ rfl⟩
        | false =>
          walk_at "w"
          refine we_append ?_
          walk_at "w"
          refine ⟨p, rfl, ⟨0, _, rfl⟩, ?_⟩
          walk_at "w"
          refine we_lc (wi_anyT ?_)
          walk_at "w"
          refine ⟨_, rfl, eBs (woLs e.f bs), by rw [eBs_len, eBs_len, woLs_len], by rw [eBs_len]; omega, fun _ => trivial, ?_, ?_⟩
          · intro i x hx
            obtain ⟨c, rfl, g1, g2, g3, g4⟩ := hcomp i x hx
            walk_at "w"
            exact cs0 ⟨rfl, c, e, rfl, rfl, hE, g1, g2, g3, g4, rfl⟩
          · walk_at "w"
            refine rc_tuple ?_
            walk_at "w"
            exact ⟨0, _, rfl, by rw [eB_len]; show acc.len < _; omega, fin _ _ rfl⟩
abbrev st_prepared : Stmt := top 56
abbrev N_prepared : List Str := ["block", "found", "statement", "inner"]
theorem sc_prepared : FnScope N_prepared ["block"] (defScope st_prepared) := ⟨rfl, rfl, rfl, by decide +kernel, rfl, by decide +kernel, by decide +kernel⟩

theorem ok_prepared {k : Nat} {n : Nat} (bl : Blt mg) (F : DefAt K mg "prepared" st_prepared ["block"]) (h_prepared : Has P w K mg base CX0 "prepared" ["block"] k (spOf K T (S_prepared n))) (h_block_ways : Has P w K mg base CX0 "block_ways" ["block"] k (spOf K T (S_block_ways n))) (c_ROWS : HasC K mg "ROWS" cd_ROWS) : Has P w K mg base CX0 "prepared" ["block"] (k + 1) (spOf K T (S_prepared (n + 1))) := by
  refine defD F sc_prepared (fun _ _ _ _ h => h.1) fun f cdv A outer s H E hr => ?_
  have hu := hu_of hr
  have hu64 := hr.units
  have nd := sc_prepared.nd
  refine ⟨_, (pss_cons (ps_set (i := 1) nd rfl (Or.inl rfl) (pe_lst pa_nil))
      (pss_cons (ps_for PassesOwn.never rfl (k_walk (K := K) rfl (pv 0)) (pg_name (i := 2) nd rfl (Or.inl rfl))
        (pss_one (ps_if (pt_cmpR (k_eq (K := K) rfl hu64) (pe_ix (k_ix (K := K) rfl hu) (pv 2) pe_int (fun _ _ => rfl)) pe_str (nomark _))
          (pss_one (ps_expr (pe_bm PySem.F.plainAttrs_list PySem.F.slot_list_append PySem.F.type_list_append mt_append (pv 1) (pa_cons (pe_tup (pa_cons pe_str (pa_cons (pe_ix (k_ix (K := K) rfl hu) (pv 2) pe_int (fun _ _ => rfl)) (pa_cons (pe_callH h_prepared hr rfl pass0 (pa_cons (pe_ix (k_ix (K := K) rfl hu) (pv 2) pe_int (fun _ _ => rfl)) pa_nil)) (pa_cons (pe_callH h_block_ways hr rfl pass0 (pa_cons (pe_ix (k_ix (K := K) rfl hu) (pv 2) pe_int (fun _ _ => rfl)) pa_nil)) pa_nil))))) pa_nil))))
          (pss_one (ps_if (pt_cmpR (k_in (K := K) rfl hu) (pe_ix (k_ix (K := K) rfl hu) (pv 2) pe_int (fun _ _ => rfl)) (k_glob (K := K) rfl c_ROWS rfl) rfl)
            (pss_one (ps_expr (pe_bm PySem.F.plainAttrs_list PySem.F.slot_list_append PySem.F.type_list_append mt_append (pv 1) (pa_cons (pv 2) pa_nil))))
            (pss_one (ps_expr (pe_bm PySem.F.plainAttrs_list PySem.F.slot_list_append PySem.F.type_list_append mt_append (pv 1) (pa_cons (pe_tup (pa_cons (pe_ix (k_ix (K := K) rfl hu) (pv 2) pe_int (fun _ _ => rfl)) (pa_cons (pe_callTy (k_tuple (K := K) rfl) rfl bl.tuple bt_tuple (pa_cons (pe_lc (own := [("inner", 3)]) (g := gName 3) (tt := tYes) rfl nd (k_walk (K := K) rfl (pe_ix (k_ix (K := K) rfl hu) (pv 2) pe_int (fun _ _ => rfl))) (blkOk_by (N := N_prepared) (sc := defScope st_prepared) (by decide +kernel)) (fun _ _ _ _ _ => pg_name (i := 3) nd rfl (Or.inl rfl)) (fun _ _ _ _ _ => pts_nil) (fun _ _ _ _ _ => (pe_callH h_prepared hr rfl pass0 (pa_cons (pv 3) pa_nil)))) pa_nil)) pa_nil))) pa_nil)))))))))
      (pss_one (ps_ret (pe_callTy (k_tuple (K := K) rfl) rfl bl.tuple bt_tuple (pa_cons (pv 1) pa_nil)))))), ?_⟩
  rintro ds w P X ⟨-, b, rfl, rfl, hS, hd, hz, hP⟩
  walk_at "w"
  refine we_lstO ?_
  walk_at "w"
  intro p
  walk_at "w"
  refine wi_anyT ?_
  walk_at "w"
  refine ⟨_, rfl, fun _ => trivial, ?_⟩
  refine turns_ind (A := Blk × Blk) (fun s ds rhGr w' => ds = eB s.2 ∧ ShB s.2 ∧ dB s.2 < n + 1 ∧ s.1.app s.2 = b ∧ (∃ pv, rhGr = [some (.tup (eB b)), some (.adr p), pv, none]) ∧ w' = [(p, .lst (ePB s.1))]) ?_ ?_ (.nil, b) ⟨rfl, hS, hd, rfl, ⟨none, rfl⟩, rfl⟩
  · rintro ⟨acc, rest⟩ rhGr w' ⟨h1, h2, h3, h4, ⟨pv, rfl⟩, rfl⟩
    cases rest with
    | cons s rest => cases h1
    | nil =>
      refine ws_ret (we_trim ?_)
      walk_at "w"
      refine rc_tupleO 0 rfl ?_
      have e1 : acc.app .nil = b := h4
      rw [app_nil] at e1
      subst e1
      exact ⟨[], _, rfl, hP⟩
  · rintro ⟨acc, rest⟩ x xs rhGr w' ⟨h1, h2, h3, h4, ⟨pv, rfl⟩, rfl⟩
    cases rest with
    | nil => cases h1
    | cons s rest =>
      obtain ⟨rfl, rfl⟩ := List.cons.inj h1
      have h4' : (acc.app (.cons s .nil)).app rest = b := by rw [app_assoc]; exact h4
      obtain ⟨c1, c2⟩ : ShS s ∧ ShB rest := by simpa [ShB] using h2
      have d1 : dS s < n + 1 ∧ dB rest < n + 1 := by simp only [dB] at h3; omega
      have z1 : szB acc + szB (.cons s .nil) ≤ 1000 := by rw [← h4', szB_app, szB_app] at hz; omega
      have la := len_szB acc
      have la2 : (ePB acc).length < 10000000 := by rw [ePB_len]; omega
      have fin : ∀ (pv : Option D) (w2 : Own), w2 = [(p, D.lst (ePB acc ++ [ePS s]))] → ∃ s' : Blk × Blk, eB rest = eB s'.2 ∧ ShB s'.2 ∧ dB s'.2 < n + 1 ∧ s'.1.app s'.2 = b ∧ (∃ pv', [some (.tup (eB b)), some (.adr p), pv, none] = [some (.tup (eB b)), some (.adr p), pv', none]) ∧ w2 = [(p, .lst (ePB s'.1))] := by
        rintro pv w2 rfl
        exact ⟨(acc.app (.cons s .nil), rest), rfl, c2, d1.2, h4', ⟨pv, rfl⟩, by rw [ePB_app]; simp [ePB]⟩
      cases s with
      | row r =>
        have ew : ePS (.row r) = eR r := by simp [ePS]
        rw [ew] at fin
        cases r with
        | add y ts =>
          walk_at "w"
          refine we_append ?_
          walk_at "w"
          refine ⟨p, rfl, ⟨0, _, rfl⟩, ?_⟩
          walk_at "w"
          exact ⟨0, _, rfl, la2, fin _ _ rfl⟩
        | lift y ts =>
          walk_at "w"
          refine we_append ?_
          walk_at "w"
          refine ⟨p, rfl, ⟨0, _, rfl⟩, ?_⟩
          walk_at "w"
          exact ⟨0, _, rfl, la2, fin _ _ rfl⟩
        | set y ts =>
          walk_at "w"
          refine we_append ?_
          walk_at "w"
          refine ⟨p, rfl, ⟨0, _, rfl⟩, ?_⟩
          walk_at "w"
          exact ⟨0, _, rfl, la2, fin _ _ rfl⟩
      | call x => simp [ShS] at c1
      | loop x c =>
        have ew : ePS (.loop x c) = .tup [.str "loop", .str x, .tup (ePB c), eWays (wB c)] := by simp [ePS]
        rw [ew] at fin
        have dx : dB c + 1 < n + 1 := by simpa [dS] using d1.1
        obtain ⟨k1, k2, k3⟩ : c.len ≤ 40 ∧ Gd (wB c) ∧ ShB c := by simpa [ShS] using c1
        have zx : szB c + 1 ≤ 1000 := by simp only [szB, szS] at z1; omega
        walk_at "w"
        refine we_append ?_
        walk_at "w"
        refine ⟨p, rfl, ⟨0, _, rfl⟩, ?_⟩
        walk_at "w"
        refine cs0 ⟨rfl, c, rfl, rfl, k3, by omega, by omega, ?_⟩
        walk_at "w"
        refine cs0 ⟨rfl, c, rfl, rfl, k3, by omega, k2, ?_⟩
        walk_at "w"
        exact ⟨0, _, rfl, la2, fin _ _ rfl⟩
      | alt o bs =>
        have ew : ePS (.alt o bs) = .tup [.str (eW o), .tup (ePBs bs)] := by simp [ePS]
        rw [ew] at fin
        have dx : dBs bs + 1 < n + 1 := by simpa [dS] using d1.1
        obtain ⟨k1, k2, k3⟩ : 2 ≤ bs.len ∧ bs.len ≤ 3 ∧ ShBs bs := by simpa [ShS] using c1
        have zx : szLs bs + 1 ≤ 1000 := by simp only [szB, szS] at z1; omega
        have hcomp : ∀ (i : Nat) (x : D), (eBs bs)[i]? = some x → ∃ c, x = .tup (eB c) ∧ ShB c ∧ dB c < n ∧ szB c ≤ 1000 ∧ (ePBs bs)[i]? = some (.tup (ePB c)) := by
          intro i x hx
          rw [eBs_get] at hx
          obtain ⟨c, hc, rfl⟩ := Option.map_eq_some_iff.mp hx
          have h8 := szLs_get _ i _ hc
          have h9 : (eBs bs)[i]? = some (.tup (eB c)) := by rw [eBs_get, hc]; rfl
          obtain ⟨c', e1, g1, g2, g3, g4⟩ := ShBs_get h9 k3 (show dBs bs < n by omega)
          have h10 : dB c ≤ dBs bs := dBs_get bs i c hc
          exact ⟨c, rfl, (ShBs_at bs i c hc k3).2, by omega, by omega, by rw [ePBs_get, hc]; rfl⟩
        cases o with
        | true =>
          walk_at "w"
          refine we_append ?_
          walk_at "w"
          refine ⟨p, rfl, ⟨0, _, rfl⟩, ?_⟩
          walk_at "w"
          refine we_lc (wi_anyT ?_)
          walk_at "w"
          refine ⟨_, rfl, ePBs bs, by rw [eBs_len, ePBs_len], by rw [eBs_len]; omega, fun _ => trivial, ?_, ?_⟩
          · intro i x hx
            obtain ⟨c, rfl, g1, g2, g3, g4⟩ := hcomp i x hx
            walk_at "w"
            exact cs0 ⟨rfl, c, rfl, rfl, g1, g2, g3, g4, rfl⟩
          · walk_at "w"
            refine rc_tuple ?_
            walk_at "w"
            exact ⟨0, _, rfl, la2, fin _ _ rfl⟩
        | false =>
          walk_at "w"
          refine we_append ?_
          walk_at "w"
          refine ⟨p, rfl, ⟨0, _, rfl⟩, ?_⟩
          walk_at "w"
          refine we_lc (wi_anyT ?_)
          walk_at "w"
          refine ⟨_, rfl, ePBs bs, by rw [eBs_len, ePBs_len], by rw [eBs_len]; omega, fun _ => trivial, ?_, ?_⟩
          · intro i x hx
            obtain ⟨c, rfl, g1, g2, g3, g4⟩ := hcomp i x hx
            walk_at "w"
            exact cs0 ⟨rfl, c, rfl, rfl, g1, g2, g3, g4, rfl⟩
          · walk_at "w"
            refine rc_tuple ?_
            walk_at "w"
            exact ⟨0, _, rfl, la2, fin _ _ rfl⟩
end
end Hw
/-! HwH -/
namespace Hw
def S_is_names : DSpec := fun ds w P _ => ds.length = 3 ∧ ∃ names a b, ds = [.tup (nms names), .int a, .int b] ∧ a ≤ names.length ∧ (names.length : Int) ≤ b ∧ names.length ≤ 1000 ∧ (∀ s ∈ names, WordOk s) ∧ names.Pairwise strLt ∧ P (.bl true) w
def Wd.V (names : List Str) : Wd → Prop
  | .n0 => True
  | .n1 w1 b1 => WordOk w1 ∧ VB names [] false b1
  | .n2 w1 b1 w0 b0 => WordOk w1 ∧ VB names [] false b1 ∧ WordOk w0 ∧ VB names [w1] false b0
def Wd.small (W : Wd) : Prop := ∀ x ∈ W.words, ∃ m, lk W.ms x = some (eM m) ∧ m.a ≤ 40
def S_are_bodies (n : Nat) : DSpec := fun ds w P _ => ds.length = 2 ∧ ∃ (W : Wd) (names : List Str), ds = [.dct W.kvs, .tup (nms names)] ∧ w = [] ∧ W.K n ∧ W.V names ∧ W.small ∧ P (.bl true) []
def mM (W : Wd) (b : Blk) : Ms := joinM (mL W.beGr b)
def VMain (n : Nat) (names : List Str) (W : Wd) (b : Blk) : Prop := VB names W.words true b ∧ dB b < n ∧ b.len ≤ 40 ∧ KB W.beGr W.ms b ∧ (mM W b).a ≤ 40 ∧ (mM W b).b ≤ 12 ∧ (mM W b).c ≤ 8 ∧ (mM W b).d ≤ 2 ∧ (mM W b).e ≤ 24 ∧ (mM W b).f ≤ 24
def S_is_main (n : Nat) : DSpec := fun ds w P _ => ds.length = 3 ∧ ∃ (W : Wd) (names : List Str) (b : Blk), ds = [.tup (eB b), .tup (nms names), .dct W.kvs] ∧ w = [] ∧ W.K n ∧ VMain n names W b ∧ P (.bl true) []
theorem Wd.sorted {n : Nat} {W : Wd} (h : W.K n) {ys : List Str} (p : ys.Perm (W.kvs.map (·.1))) (hs : sortedS ys = true) : ys = W.words := by
  cases W with
  | n0 => exact List.Perm.eq_nil p
  | n1 w1 b1 => exact sorted_one p
  | n2 w1 b1 w0 b0 => exact sorted_two p hs h.1
theorem Wd.len (W : Wd) : W.kvs.length ≤ 2 := by cases W <;> simp [Wd.kvs]
section
variable {P : Program} {w : World} {K : PySem.W.Frag} {mg : Str → Option Value} {base : Heap} {T : Addr}
abbrev st_is_names : Stmt := top 13
abbrev N_is_names : List Str := ["thing", "least", "most", "name", "k"]
theorem sc_is_names : FnScope N_is_names ["thing", "least", "most"] (defScope st_is_names) := ⟨rfl, rfl, rfl, by decide +kernel, rfl, by decide +kernel, by decide +kernel⟩

theorem ok_is_names {k : Nat} (bl : Blt mg) (F : DefAt K mg "is_names" st_is_names ["thing", "least", "most"]) (h_is_name : Has P w K mg base CX0 "is_name" ["thing"] k (spOf K T S_is_name)) : Has P w K mg base CX0 "is_names" ["thing", "least", "most"] (k + 1) (spOf K T S_is_names) := by
  refine defD F sc_is_names (fun _ _ _ _ h => h.1) fun f cdv A outer s H E hr => ?_
  have hu := hu_of hr
  have hu64 := hr.units
  have nd := sc_is_names.nd
  refine ⟨_, (pss_cons (ps_if (PW.pt (pw_or (pt_not (pt_val (pe_callB (k_isi (K := K) rfl) rfl bl.isinstance bt_isinstance (pa_cons (pv 0) (pa_cons (pe_bltn (v := .ty "tuple") rfl bl.tuple bt_tuple rfl) pa_nil))))) (pw_or1 (pt_not (pt_chain op_leX op_leX (pv 1) (pe_callB (k_len (K := K) rfl) rfl bl.len bt_len (pa_cons (pv 0) pa_nil)) (pv 2))))))
        (pss_one (ps_ret pe_bl))
        pss_nil)
      (pss_cons (ps_if (pt_not (pt_val (pe_callB (k_all (K := K) rfl rfl) rfl bl.all bt_all (pa_cons (pe_lc (own := [("name", 3)]) (g := gName 3) (tt := tYes) rfl nd (k_walk (K := K) rfl (pv 0)) (blkOk_by (N := N_is_names) (sc := defScope st_is_names) (by decide +kernel)) (fun _ _ _ _ _ => pg_name (i := 3) nd rfl (Or.inl rfl)) (fun _ _ _ _ _ => pts_nil) (fun _ _ _ _ _ => (pe_callH h_is_name hr rfl pass0 (pa_cons (pv 3) pa_nil)))) pa_nil))))
        (pss_one (ps_ret pe_bl))
        pss_nil)
      (pss_one (ps_ret (pe_callB (k_all (K := K) rfl rfl) rfl bl.all bt_all (pa_cons (pe_lc (own := [("k", 4)]) (g := gName 4) (tt := tYes) rfl nd (pi_range1 rfl bl.range (pa_cons (pe_op op_sub (pe_callB (k_len (K := K) rfl) rfl bl.len bt_len (pa_cons (pv 0) pa_nil)) pe_int) pa_nil)) (blkOk_by (N := N_is_names) (sc := defScope st_is_names) (by decide +kernel)) (fun _ _ _ _ _ => pg_name (i := 4) nd rfl (Or.inl rfl)) (fun _ _ _ _ _ => pts_nil) (fun _ _ _ _ _ => (pe_cmpR (k_lt (K := K) rfl hu64) (pe_ix (k_ix (K := K) rfl hu) (pv 0) (pv 4) (fun _ _ => rfl)) (pe_ix (k_ix (K := K) rfl hu) (pv 0) (pe_op (k_plus (K := K) rfl) (pv 4) pe_int) (fun _ _ => rfl)) (nomark _)))) pa_nil)))))), ?_⟩
  rintro ds w P X ⟨-, names, a, b, rfl, h1, h2, h3, h4, h5, hP⟩
  walk_at "w"
  rw [show (nms names).length = names.length from List.length_map ..]
  refine rd_le_int_t h1 ?_
  walk_at "w"
  refine rd_le_int_t h2 ?_
  walk_at "w"
  refine wi_anyT ?_
  walk_at "w"
  refine ⟨_, rfl, by rw [show (nms names).length = names.length from List.length_map ..]; omega, fun _ => trivial, ?_, ?_⟩
  · intro x hx
    obtain ⟨s, hs, rfl⟩ := List.mem_map.mp hx
    walk_at "w"
    exact cs0 ⟨rfl, s, rfl, h4 s hs, rfl, rfl⟩
  · walk_at "w"
    refine wi_rng1 ?_
    walk_at "w"
    rw [show (nms names).length = names.length from List.length_map ..]
    refine ⟨_, rfl, by omega, by omega, ?_⟩
    refine ⟨by rw [iterN_len]; omega, fun _ => trivial, ?_, hP⟩
    intro x hx
    obtain ⟨i, hi⟩ := List.getElem?_of_mem hx
    obtain ⟨hi, rfl⟩ := iterN_at hi
    have hi1 : i < names.length := by omega
    have hi2 : i + 1 < names.length := by omega
    walk_at "w"
    refine rd_ix_tup (d := .str names[i]) (by omega) (by simp [nms, hi1]) ?_
    walk_at "w"
    refine rd_ix_tup (d := .str names[i + 1]) (by omega) (by rw [show ((i : Int) + 1).toNat = i + 1 by omega]; simp [nms, hi2]) ?_
    refine rd_lt_str_t ?_ ⟨rfl, rfl⟩
    exact List.pairwise_iff_getElem.mp h5 i (i + 1) hi1 hi2 (by omega)
abbrev st_are_bodies : Stmt := top 67
abbrev N_are_bodies : List Str := ["bodies", "names", "word", "words", "k", "measures"]
theorem sc_are_bodies : FnScope N_are_bodies ["bodies", "names"] (defScope st_are_bodies) := ⟨rfl, rfl, rfl, by decide +kernel, rfl, by decide +kernel, by decide +kernel⟩

theorem ok_are_bodies {k : Nat} {n : Nat} (bl : Blt mg) (F : DefAt K mg "are_bodies" st_are_bodies ["bodies", "names"]) (c_MOST_WORDS : HasC K mg "MOST_WORDS" cd_MOST_WORDS) (h_is_name : Has P w K mg base CX0 "is_name" ["thing"] k (spOf K T S_is_name)) (h_is_block : Has P w K mg base CX0 "is_block" ["thing", "names", "words", "sets"] k (spOf K T (S_is_block n))) (h_body_measures : Has P w K mg base CX0 "body_measures" ["bodies"] k (spOf K T (S_body_measures n))) (c_MOST_STATEMENTS : HasC K mg "MOST_STATEMENTS" cd_MOST_STATEMENTS) : Has P w K mg base CX0 "are_bodies" ["bodies", "names"] (k + 1) (spOf K T (S_are_bodies n)) := by
  refine defD F sc_are_bodies (fun _ _ _ _ h => h.1) fun f cdv A outer s H E hr => ?_
  have hu := hu_of hr
  have hu64 := hr.units
  have nd := sc_are_bodies.nd
  refine ⟨_, (pss_cons (ps_if (PW.pt (pw_or (pt_not (pt_val (pe_callB (k_isi (K := K) rfl) rfl bl.isinstance bt_isinstance (pa_cons (pv 0) (pa_cons (pe_bltn (v := .ty "dict") rfl bl.dict bt_dict rfl) pa_nil))))) (pw_or1 (pt_cmpR op_gt (pe_callB (k_len (K := K) rfl) rfl bl.len bt_len (pa_cons (pv 0) pa_nil)) (k_glob (K := K) rfl c_MOST_WORDS rfl) (nomark _)))))
        (pss_one (ps_ret pe_bl))
        pss_nil)
      (pss_cons (ps_if (pt_not (pt_val (pe_callB (k_all (K := K) rfl rfl) rfl bl.all bt_all (pa_cons (pe_lock (pe_lc (own := [("word", 2)]) (g := gName 2) (tt := tYes) rfl nd (pi_keys (pv 0)) (blkOk_by (N := N_are_bodies) (sc := defScope st_are_bodies) (by decide +kernel)) (fun _ _ _ _ _ => pg_name (i := 2) nd rfl (Or.inl rfl)) (fun _ _ _ _ _ => pts_nil) (fun _ _ _ _ _ => (pe_callH h_is_name hr rfl pass0 (pa_cons (pv 2) pa_nil))))) pa_nil))))
        (pss_one (ps_ret pe_bl))
        pss_nil)
      (pss_cons (ps_set (i := 3) nd rfl (Or.inl rfl) (pe_callB (k_srtS (K := K) rfl rfl) rfl bl.sorted bt_sorted (pa_cons (pv 0) pa_nil)))
      (pss_cons (ps_for PassesOwn.never rfl (k_enum (K := K) rfl rfl bl.enumerate (pa_cons (pv 3) pa_nil)) (k_tup (K := K) rfl rfl (pgs_cons (pg_name (i := 4) nd rfl (Or.inl rfl)) (pgs_cons (pg_name (i := 2) nd rfl (Or.inl rfl)) pgs_nil)))
        (pss_one (ps_if (pt_not (pt_val (pe_callH h_is_block hr rfl pass0 (pa_cons (pe_ix (k_ix (K := K) rfl hu) (pv 0) (pv 2) (fun _ _ => rfl)) (pa_cons (pv 1) (pa_cons (pe_slice (k_slL (K := K) rfl) (pv 3) (po_some (pe_op (k_plus (K := K) rfl) (pv 4) pe_int)) po_none) (pa_cons pe_bl pa_nil)))))))
          (pss_one (ps_ret pe_bl))
          pss_nil)))
      (pss_cons (ps_set (i := 5) nd rfl (Or.inr rfl) (pe_callH h_body_measures hr rfl pass0 (pa_cons (pv 0) pa_nil)))
      (pss_one (ps_ret (pe_callB (k_all (K := K) rfl rfl) rfl bl.all bt_all (pa_cons (pe_lc (own := [("word", 2)]) (g := gName 2) (tt := tYes) rfl nd (k_walk (K := K) rfl (pv 3)) (blkOk_by (N := N_are_bodies) (sc := defScope st_are_bodies) (by decide +kernel)) (fun _ _ _ _ _ => pg_name (i := 2) nd rfl (Or.inl rfl)) (fun _ _ _ _ _ => pts_nil) (fun _ _ _ _ _ => (pe_cmpR op_leX (pe_ix (k_ix (K := K) rfl hu) (pe_ix (k_ix (K := K) rfl hu) (pv 5) (pv 2) (fun _ _ => rfl)) pe_int (fun _ _ => rfl)) (k_glob (K := K) rfl c_MOST_STATEMENTS rfl) (nomark _)))) pa_nil))))))))), ?_⟩
  rintro ds w P X ⟨-, W, names, rfl, rfl, hK, hV, hS, hP⟩
  have hl := W.len
  walk_at "w"
  refine rc_len_dct ?_
  walk_at "w"
  refine rd_gt_f (by omega) ?_
  walk_at "w"
  refine we_lcKeys (i := 0) (kvs := W.kvs) rfl (by omega) ?_ ?_
  · intro x hx
    have hx2 : WordOk x := by
      cases W with
      | n0 => cases hx
      | n1 w1 b1 => simp [Wd.kvs] at hx; subst hx; exact hV.1
      | n2 w1 b1 w0 b0 => simp [Wd.kvs] at hx; rcases hx with rfl | rfl; exact hV.1; exact hV.2.2.1
    walk_at "w"
    exact cs0 ⟨rfl, x, rfl, hx2, rfl, rfl⟩
  walk_at "w"
  refine rc_all (bs := W.kvs.map fun _ => true) (by rw [List.map_map]; rfl) ?_
  rw [show (W.kvs.map fun _ => true).all id = true by simp]
  walk_at "w"
  refine rc_sortS_dct (by omega) fun ys pp hs => ?_
  obtain rfl := W.sorted hK pp hs
  walk_at "w"
  refine wi_enumL ?_
  walk_at "w"
  refine ⟨_, rfl, fun _ => trivial, ?_⟩
  rw [numbered_eq]
  have fin : ∀ pv pw, WS ⟨K, E, T, X⟩ (tSeq (tAsg (tCall (spOf K T (S_body_measures n)) [] E0 (tCons (tVar 0) tNil)) (gName 5)) (tRet (tCB (rAll K) (tCons (tLc (iAny K (tVar 3)) (gName 2) tYes (tOp rLeX (tOp (rIxX K) (tOp (rIxX K) (tVar 5) (tVar 2)) (tC (V.int 0))) (tGl K (D.int 40))) [2]) tNil))))
      [some (.dct W.kvs), some (.tup (nms names)), pv, some (.lst (W.words.map D.str)), pw, none] [] (Post P) := by
    intro pv pw
    walk_at "w"
    refine csW ⟨rfl, W, rfl, rfl, hK, fun p => ?_⟩
    refine ws_ret (we_trim ?_)
    walk_at "w"
    refine wi_anyL ?_
    walk_at "w"
    refine ⟨_, .inl rfl, by cases W <;> simp [Wd.words], fun _ => trivial, ?_, ⟨[], _, rfl, hP⟩⟩
    intro x hx
    obtain ⟨s, hs, rfl⟩ := List.mem_map.mp hx
    obtain ⟨m, hm, ha⟩ := hS s hs
    walk_at "w"
    refine rd_ix_dctO 0 rfl hm ?_
    walk_at "w"
    exact rd_le_int_t ha ⟨rfl, rfl⟩
  cases W with
  | n0 => exact turns_nil (fin _ _)
  | n1 w1 b1 =>
    refine turns_cons ?_
    walk_at "w"
    refine rd_ix_dct (d := .tup (eB b1)) (by simp [Wd.kvs, lk]) ?_
    walk_at "w"
    refine we_slL ?_
    walk_at "w"
    refine ⟨_, .inl rfl, wo_some ?_⟩
    walk_at "w"
    refine ⟨_, rfl, wo_none ?_⟩
    walk_at "w"
    refine cs0 ⟨rfl, b1, names, [], false, rfl, hV.2, hK.2.1, hK.2.2, ?_⟩
    walk_at "w"
    exact fin _ _
  | n2 w1 b1 w0 b0 =>
    have hne := strLt_ne hK.1
    refine turns_cons ?_
    walk_at "w"
    refine rd_ix_dct (d := .tup (eB b0)) (by simp [Wd.kvs, lk, Ne.symm hne]) ?_
    walk_at "w"
    refine we_slL ?_
    walk_at "w"
    refine ⟨_, .inl rfl, wo_some ?_⟩
    walk_at "w"
    refine ⟨_, rfl, wo_none ?_⟩
    walk_at "w"
    refine cs0 ⟨rfl, b0, names, [w1], false, rfl, hV.2.2.2, hK.2.2.2.1, hK.2.2.2.2, ?_⟩
    walk_at "w"
    refine turns_cons ?_
    walk_at "w"
    refine rd_ix_dct (d := .tup (eB b1)) (by simp [Wd.kvs, lk]) ?_
    walk_at "w"
    refine we_slL ?_
    walk_at "w"
    refine ⟨_, .inl rfl, wo_some ?_⟩
    walk_at "w"
    refine ⟨_, rfl, wo_none ?_⟩
    walk_at "w"
    refine cs0 ⟨rfl, b1, names, [], false, rfl, hV.2.1, hK.2.1.2.1, hK.2.1.2.2, ?_⟩
    walk_at "w"
    exact fin _ _
abbrev st_is_main : Stmt := top 68
abbrev N_is_main : List Str := ["main", "names", "bodies", "has"]
theorem sc_is_main : FnScope N_is_main ["main", "names", "bodies"] (defScope st_is_main) := ⟨rfl, rfl, rfl, by decide +kernel, rfl, by decide +kernel, by decide +kernel⟩

theorem ok_is_main {k : Nat} {n : Nat} (bl : Blt mg) (F : DefAt K mg "is_main" st_is_main ["main", "names", "bodies"]) (h_is_block : Has P w K mg base CX0 "is_block" ["thing", "names", "words", "sets"] k (spOf K T (S_is_block n))) (h_measure : Has P w K mg base CX0 "measure" ["block", "bodies"] k (spOf K T (S_measure n))) (h_body_measures : Has P w K mg base CX0 "body_measures" ["bodies"] k (spOf K T (S_body_measures n))) (c_MOST_LOOPS : HasC K mg "MOST_LOOPS" cd_MOST_LOOPS) (c_MOST_DEEP : HasC K mg "MOST_DEEP" cd_MOST_DEEP) (c_MOST_ROWS : HasC K mg "MOST_ROWS" cd_MOST_ROWS) (c_MOST_STATEMENTS : HasC K mg "MOST_STATEMENTS" cd_MOST_STATEMENTS) (c_MOST_WAYS : HasC K mg "MOST_WAYS" cd_MOST_WAYS) : Has P w K mg base CX0 "is_main" ["main", "names", "bodies"] (k + 1) (spOf K T (S_is_main n)) := by
  refine defD F sc_is_main (fun _ _ _ _ h => h.1) fun f cdv A outer s H E hr => ?_
  have hu := hu_of hr
  have hu64 := hr.units
  have nd := sc_is_main.nd
  refine ⟨_, (pss_cons (ps_if (pt_not (pt_val (pe_callH h_is_block hr rfl pass0 (pa_cons (pv 0) (pa_cons (pv 1) (pa_cons (pe_callB (k_srtS (K := K) rfl rfl) rfl bl.sorted bt_sorted (pa_cons (pv 2) pa_nil)) (pa_cons pe_bl pa_nil)))))))
        (pss_one (ps_ret pe_bl))
        pss_nil)
      (pss_cons (ps_set (i := 3) nd rfl (Or.inl rfl) (pe_callH h_measure hr rfl pass0 (pa_cons (pv 0) (pa_cons (pe_callH h_body_measures hr rfl pass0 (pa_cons (pv 2) pa_nil)) pa_nil))))
      (pss_cons (ps_if (PW.pt (pw_or (pt_cmpR op_gt (pe_ix (k_ix (K := K) rfl hu) (pv 3) pe_int (fun _ _ => rfl)) (k_glob (K := K) rfl c_MOST_STATEMENTS rfl) (nomark _)) (pw_or (pt_cmpR op_gt (pe_ix (k_ix (K := K) rfl hu) (pv 3) pe_int (fun _ _ => rfl)) (k_glob (K := K) rfl c_MOST_ROWS rfl) (nomark _)) (pw_or (pt_cmpR op_gt (pe_ix (k_ix (K := K) rfl hu) (pv 3) pe_int (fun _ _ => rfl)) (k_glob (K := K) rfl c_MOST_DEEP rfl) (nomark _)) (pw_or1 (pt_cmpR op_gt (pe_ix (k_ix (K := K) rfl hu) (pv 3) pe_int (fun _ _ => rfl)) (k_glob (K := K) rfl c_MOST_LOOPS rfl) (nomark _)))))))
        (pss_one (ps_ret pe_bl))
        pss_nil)
      (pss_one (ps_ret (pe_and (pe_cmpR op_leX (pe_ix (k_ix (K := K) rfl hu) (pv 3) pe_int (fun _ _ => rfl)) (k_glob (K := K) rfl c_MOST_WAYS rfl) (nomark _)) (pe_one (pe_cmpR op_leX (pe_ix (k_ix (K := K) rfl hu) (pv 3) pe_int (fun _ _ => rfl)) (k_glob (K := K) rfl c_MOST_WAYS rfl) (nomark _))))))))), ?_⟩
  rintro ds w P X ⟨-, W, names, b, rfl, rfl, hK, ⟨h1, h2, h3, h4, h5, h6, h7, h8, h9, h10⟩, hP⟩
  have hl := W.len
  walk_at "w"
  refine rc_sortS_dct (by omega) fun ys pp hs => ?_
  obtain rfl := W.sorted hK pp hs
  walk_at "w"
  refine cs0 ⟨rfl, b, names, W.words, true, rfl, h1, h2, h3, ?_⟩
  walk_at "w"
  refine csW ⟨rfl, W, rfl, rfl, hK, fun p => ?_⟩
  walk_at "w"
  refine csW ⟨rfl, W.beGr, b, p, W.ms, rfl, rfl, h4, h2, h3, ?_⟩
  refine ws_trim (w := []) ?_
  walk_at "w"
  refine rd_gt_f (by have : (joinM (mL W.beGr b)).a ≤ 40 := h5; omega) ?_
  walk_at "w"
  refine rd_gt_f (by have : (joinM (mL W.beGr b)).b ≤ 12 := h6; omega) ?_
  walk_at "w"
  refine rd_gt_f (by have : (joinM (mL W.beGr b)).c ≤ 8 := h7; omega) ?_
  walk_at "w"
  refine rd_gt_f (by have : (joinM (mL W.beGr b)).d ≤ 2 := h8; omega) ?_
  walk_at "w"
  refine rd_le_int_t h9 ?_
  walk_at "w"
  refine rd_le_int_t h10 ?_
  exact hP
end
end Hw
/-! HwI -/
namespace Hw
def Wd.body (W : Wd) (x : Str) : D := (lk W.kvs x).getD .non
def Wd.held (W : Wd) : List (Str × D) := W.words.map fun x => (x, W.body x)
/-- a Program as data -/
def eProg (C : Addr) (names : List Str) (W : Wd) (b : Blk) : D := .ins C [("names", .tup (nms names)), ("held", .dct W.held), ("main", .tup (eB b))]
def NamesOk (names : List Str) : Prop := 1 ≤ names.length ∧ names.length ≤ 4 ∧ (∀ s ∈ names, WordOk s) ∧ names.Pairwise strLt
def S_Program___init__ (C : Addr) (n : Nat) : DSpec := fun ds w P _ => ds.length = 4 ∧ ∃ (p : Addr) (W : Wd) (names : List Str) (b : Blk), ds = [.adr p, .tup (nms names), .dct W.kvs, .tup (eB b)] ∧ w = [(p, .ins C [])] ∧ NamesOk names ∧ W.K n ∧ W.V names ∧ W.small ∧ VMain n names W b ∧ P .non [(p, eProg C names W b)]
theorem Wd.nodup {n : Nat} {W : Wd} (h : W.K n) : W.words.Nodup := by
  cases W with
  | n0 => exact .nil
  | n1 w1 b1 => simp [Wd.words]
  | n2 w1 b1 w0 b0 => have := strLt_ne h.1; simp [Wd.words, this]
theorem Wd.has {n : Nat} {W : Wd} (h : W.K n) : ∀ x ∈ W.words, lk W.kvs x = some (W.body x) := by
  intro x hx
  cases W with
  | n0 => cases hx
  | n1 w1 b1 => simp [Wd.words] at hx; subst hx; simp [Wd.body, Wd.kvs, lk]
  | n2 w1 b1 w0 b0 =>
    have hne := strLt_ne h.1
    simp [Wd.words] at hx
    rcases hx with rfl | rfl
    · simp [Wd.body, Wd.kvs, lk, Ne.symm hne]
    · simp [Wd.body, Wd.kvs, lk]
section
variable {P : Program} {w : World} {K : PySem.W.Frag} {mg : Str → Option Value} {base : Heap} {T C : Addr}
abbrev st_Program___init__ : Stmt := inClass (top 69) 0
abbrev N_Program___init__ : List Str := ["self", "names", "bodies", "main", "word"]
theorem sc_Program___init__ : FnScope N_Program___init__ ["self", "names", "bodies", "main"] (defScope st_Program___init__) := ⟨rfl, rfl, rfl, by decide +kernel, rfl, by decide +kernel, by decide +kernel⟩

theorem ok_Program___init__ {k n : Nat} (bl : Blt mg) (F : InitAt K mg C "Program" "Program.__init__" st_Program___init__ ["self", "names", "bodies", "main"]) (cl : Cls K C) (na1 : NoAttr K C "names") (na2 : NoAttr K C "held") (na3 : NoAttr K C "main") (c_MOST_NAMES : HasC K mg "MOST_NAMES" cd_MOST_NAMES)
    (h_is_names : Has P w K mg base CX0 "is_names" ["thing", "least", "most"] k (spOf K T S_is_names)) (h_are_bodies : Has P w K mg base CX0 "are_bodies" ["bodies", "names"] k (spOf K T (S_are_bodies n))) (h_is_main : Has P w K mg base CX0 "is_main" ["main", "names", "bodies"] k (spOf K T (S_is_main n))) :
    HasI P w K mg base CX0 C "Program" ["self", "names", "bodies", "main"] (k + 1) (spOf K T (S_Program___init__ C n)) := by
  refine initD F sc_Program___init__ (fun _ _ _ _ h => h.1) fun f cdv A outer s H E hr => ?_
  have hu := hu_of hr
  have hu64 := hr.units
  have nd := sc_Program___init__.nd
  refine ⟨_, (pss_cons (ps_if (pt_not (pt_val (pe_callH h_is_names hr rfl pass0 (pa_cons (pv 1) (pa_cons pe_int (pa_cons (k_glob (K := K) rfl c_MOST_NAMES rfl) pa_nil))))))
        (pss_one ps_dead)
        pss_nil)
      (pss_cons (ps_if (pt_not (pt_val (pe_callH h_are_bodies hr rfl pass0 (pa_cons (pv 2) (pa_cons (pv 1) pa_nil)))))
        (pss_one ps_dead)
        pss_nil)
      (pss_cons (ps_if (pt_not (pt_val (pe_callH h_is_main hr rfl pass0 (pa_cons (pv 3) (pa_cons (pv 1) (pa_cons (pv 2) pa_nil))))))
        (pss_one ps_dead)
        pss_nil)
      (pss_cons (k_sfld (K := K) rfl (pv 0) (pv 1) rfl)
      (pss_cons (k_sfld (K := K) rfl (pv 0) (pe_dc (own := [("word", 4)]) (g := gName 4) (tt := tYes) rfl nd (k_walk (K := K) rfl (pe_callB (k_srtS (K := K) rfl rfl) rfl bl.sorted bt_sorted (pa_cons (pv 2) pa_nil))) (blkOk_by (N := N_Program___init__) (sc := defScope st_Program___init__) (by decide +kernel)) (fun _ _ _ _ _ => pg_name (i := 4) nd rfl (Or.inl rfl)) (fun _ _ _ _ _ => pts_nil) (fun _ _ _ _ _ => (pv 4)) (fun _ _ _ _ _ => (pe_ix (k_ix (K := K) rfl hu) (pv 2) (pv 4) (fun _ _ => rfl)))) rfl)
      (pss_one (k_sfld (K := K) rfl (pv 0) (pv 3) rfl))))))), ?_⟩
  rintro ds w P X ⟨-, p, W, names, b, rfl, rfl, ⟨hn1, hn2, hn3, hn4⟩, hK, hV, hS, hM, hP⟩
  walk_at "w"
  refine cs0 ⟨rfl, names, 1, 4, rfl, by omega, by omega, by omega, hn3, hn4, ?_⟩
  walk_at "w"
  refine cs0 ⟨rfl, W, names, rfl, rfl, hK, hV, hS, ?_⟩
  walk_at "w"
  refine cs0 ⟨rfl, W, names, b, rfl, rfl, hK, hM, ?_⟩
  walk_at "w"
  refine ⟨p, 0, C, [], rfl, rfl, cl, na1, by decide, ?_⟩
  refine ws_seq (ws_fld (we_freeze (we_dc (Nat.le_of_ble_eq_true rfl) (wi_anyL ?_))))
  walk_at "w"
  refine rc_sortS_dct (by have := W.len; omega) fun ys pp hs => ?_
  obtain rfl := W.sorted hK pp hs
  refine ⟨_, .inl rfl, W.words, W.body, rfl, W.nodup hK, by cases W <;> simp [Wd.words], fun _ => trivial, ?_, ?_⟩
  · intro x hx
    walk_at "w"
    exact rd_ix_dct (W.has hK x hx) ⟨rfl, rfl⟩
  intro q
  refine ⟨1, q, _, rfl, rfl, ?_⟩
  walk_at "w"
  refine ⟨p, 0, C, _, rfl, rfl, cl, na2, Nat.le_of_ble_eq_true rfl, ?_⟩
  walk_at "w"
  refine ⟨p, 0, C, _, rfl, rfl, cl, na3, Nat.le_of_ble_eq_true rfl, ?_⟩
  exact hP
end
end Hw
/-! HwO -/
namespace Hw
def sumO (bs : Bls) : List Nat → Nat
  | [] => 0
  | i :: o => ((bs.get i).map szB).getD 0 + sumO bs o
theorem sumO_le {bs : Bls} (h : bs.len = 2 ∨ bs.len = 3) : ∀ o ∈ ordN bs.len, sumO bs o ≤ szLs bs := by
  match bs, h with
  | .nil, h => simp [Bls.len] at h
  | .cons a .nil, h => simp [Bls.len] at h
  | .cons a (.cons b .nil), _ =>
    intro o ho
    have ho' : o ∈ [[0, 1], [1, 0]] := ho
    simp only [List.mem_cons, List.not_mem_nil, or_false] at ho'
    rcases ho' with rfl | rfl <;> simp [sumO, Bls.get, szLs] <;> omega
  | .cons a (.cons b (.cons c .nil)), _ =>
    intro o ho
    have ho' : o ∈ [[0, 1, 2], [0, 2, 1], [1, 0, 2], [1, 2, 0], [2, 0, 1], [2, 1, 0]] := ho
    simp only [List.mem_cons, List.not_mem_nil, or_false] at ho'
    rcases ho' with rfl | rfl | rfl | rfl | rfl | rfl <;> simp [sumO, Bls.get, szLs] <;> omega
  | .cons a (.cons b (.cons c (.cons d bs))), h => simp [Bls.len] at h
structure Fo (e : En) (n : Nat) (b : Blk) : Prop where
  ca : CaB e.kn b
  dp : dpB e.gaGr b < n
  sz : szB (woB e.f b) ≤ 1000
  sh : ShB (woB e.f b)
structure FoC (e : En) (n : Nat) (bs : Bls) : Prop where
  ca : CaLs e.kn bs
  dp : dpLs e.gaGr bs < n
  sz : szLs (woLs e.f bs) ≤ 1000
  l2 : 2 ≤ bs.len
  l3 : bs.len ≤ 3
  sh : ShBs (woLs e.f bs)
theorem FoC.get {e : En} {n : Nat} {bs : Bls} (h : FoC e n bs) {i : Nat} {b : Blk} (hb : bs.get i = some b) : Fo e n b := by
  have h7 := woLs_at e.f bs i b hb
  have h8 := szLs_get _ i _ h7
  have h9 := dpLs_get (gaGr := e.gaGr) bs i b hb
  have := h.dp
  have := h.sz
  exact ⟨CaLs_get bs i b hb h.ca, by omega, by omega, (ShBs_at _ i _ h7 h.sh).2⟩
def S_follow (n : Nat) : DSpec := fun ds w P _ => ds.length = 4 ∧ ∃ (b : Blk) (e : En) (pre ws post : Way), ds = [.tup (eB b), .dct e.GaGr, eWay (pre ++ ws ++ post), .int pre.length] ∧ w = [] ∧ EnOk e ∧ Fo e n b ∧ ws ∈ wB (woB e.f b) ∧
  ∀ found : List D, found.length ≤ szB (woB e.f b) → P (.tup [.lst found, .int ((pre ++ ws).length : Nat)]) []
def S_follow_choice (n : Nat) : DSpec := fun ds w P _ => ds.length = 4 ∧ ∃ (o : Bool) (bs : Bls) (e : En) (pre ws post : Way), ds = [eS (.alt o bs), .dct e.GaGr, eWay (pre ++ ws ++ post), .int pre.length] ∧ w = [] ∧ EnOk e ∧ FoC e n bs ∧ ws ∈ wS (.alt o (woLs e.f bs)) ∧
  ∀ found : List D, found.length ≤ szLs (woLs e.f bs) → P (.tup [.lst found, .int ((pre ++ ws).length : Nat)]) []
theorem way_at (pre v post : Way) (k : Nat) : ((pre ++ (k :: v) ++ post).map fun (k : Nat) => D.int (k : Int))[((pre.length : Nat) : Int).toNat]? = some (.int (k : Nat)) := by
  rw [Int.toNat_natCast, List.getElem?_map, List.append_assoc, List.getElem?_append_right (Nat.le_refl _)]
  simp
section
variable {P : Program} {w : World} {K : PySem.W.Frag} {mg : Str → Option Value} {base : Heap} {T C : Addr}
abbrev st_follow : Stmt := top 45
abbrev N_follow : List Str := ["block", "bodies", "way", "at", "found", "statement", "inner"]
theorem sc_follow : FnScope N_follow ["block", "bodies", "way", "at"] (defScope st_follow) := ⟨rfl, rfl, rfl, by decide +kernel, rfl, by decide +kernel, by decide +kernel⟩

theorem ok_follow {k : Nat} {n : Nat} (bl : Blt mg) (F : DefAt K mg "follow" st_follow ["block", "bodies", "way", "at"]) (h_follow : Has P w K mg base CX0 "follow" ["block", "bodies", "way", "at"] k (spOf K T (S_follow n))) (h_follow_choice : Has P w K mg base CX0 "follow_choice" ["statement", "bodies", "way", "at"] k (spOf K T (S_follow_choice n))) : Has P w K mg base CX0 "follow" ["block", "bodies", "way", "at"] (k + 1) (spOf K T (S_follow (n + 1))) := by
  refine defD F sc_follow (fun _ _ _ _ h => h.1) fun f cdv A outer s H E hr => ?_
  have hu := hu_of hr
  have hu64 := hr.units
  have nd := sc_follow.nd
  refine ⟨_, (pss_cons (ps_set (i := 4) nd rfl (Or.inl rfl) (pe_lst pa_nil))
      (pss_cons (ps_for PassesOwn.never rfl (k_walk (K := K) rfl (pv 0)) (pg_name (i := 5) nd rfl (Or.inl rfl))
        (pss_cons (ps_set (i := 6) nd rfl (Or.inl rfl) (pe_lst pa_nil))
        (pss_cons (ps_if (pt_cmpR (k_eq (K := K) rfl hu64) (pe_ix (k_ix (K := K) rfl hu) (pv 5) pe_int (fun _ _ => rfl)) pe_str (nomark _))
          (pss_one (ps_asg (pe_callH h_follow hr rfl pass0 (pa_cons (pe_ix (k_ix (K := K) rfl hu) (pv 1) (pe_ix (k_ix (K := K) rfl hu) (pv 5) pe_int (fun _ _ => rfl)) (fun _ _ => rfl)) (pa_cons (pv 1) (pa_cons (pv 2) (pa_cons (pv 3) pa_nil))))) (k_tup (K := K) rfl rfl (pgs_cons (pg_name (i := 6) nd rfl (Or.inl rfl)) (pgs_cons (pg_name (i := 3) nd rfl (Or.inl rfl)) pgs_nil)))))
          (pss_one (ps_if (pt_cmpR (k_in (K := K) rfl hu) (pe_ix (k_ix (K := K) rfl hu) (pv 5) pe_int (fun _ _ => rfl)) (pe_tup (pa_cons pe_str (pa_cons pe_str pa_nil))) rfl)
            (pss_one (ps_asg (pe_callH h_follow_choice hr rfl pass0 (pa_cons (pv 5) (pa_cons (pv 1) (pa_cons (pv 2) (pa_cons (pv 3) pa_nil))))) (k_tup (K := K) rfl rfl (pgs_cons (pg_name (i := 6) nd rfl (Or.inl rfl)) (pgs_cons (pg_name (i := 3) nd rfl (Or.inl rfl)) pgs_nil)))))
            (pss_one (ps_set (i := 6) nd rfl (Or.inl rfl) (pe_lst (pa_cons (pv 5) pa_nil)))))))
        (pss_one (ps_expr (pe_bm PySem.F.plainAttrs_list PySem.F.slot_list_extend PySem.F.type_list_extend (mt_extX (K := K) rfl) (pv 4) (pa_cons (pv 6) pa_nil)))))))
      (pss_one (ps_ret (pe_tup (pa_cons (pv 4) (pa_cons (pv 3) pa_nil))))))), ?_⟩
  rintro ds w P X ⟨-, b, e, pre, ws, post, rfl, rfl, hE, hF, hws, hP⟩
  walk_at "w"
  refine we_lstO ?_
  walk_at "w"
  intro p
  walk_at "w"
  refine wi_anyT ?_
  walk_at "w"
  refine ⟨_, rfl, fun _ => trivial, ?_⟩
  refine turns_ind (A := Way × Way × Blk × List D) (fun s ds rhGr w' => ds = eB s.2.2.1 ∧ Fo e (n + 1) s.2.2.1 ∧ s.2.1 ∈ wB (woB e.f s.2.2.1) ∧ s.1 ++ s.2.1 = pre ++ ws ∧ s.2.2.2.length + szB (woB e.f s.2.2.1) ≤ szB (woB e.f b) ∧
    (∃ v5 v6, rhGr = [some (.tup (eB b)), some (.dct e.GaGr), some (eWay (pre ++ ws ++ post)), some (.int s.1.length), some (.adr p), v5, v6]) ∧ w' = [(p, .lst s.2.2.2)]) ?_ ?_ (pre, ws, b, []) ⟨rfl, hF, hws, rfl, by simp, ⟨none, none, rfl⟩, rfl⟩
  · rintro ⟨pr, wz, rest, found⟩ rhGr w' ⟨h1, h2, h3, h4, h5, ⟨v5, v6, rfl⟩, rfl⟩
    cases rest with
    | cons s rest => cases h1
    | nil =>
      have e1 : wz = [] := by simpa [woB, wB] using h3
      subst e1
      have e2 : pr = pre ++ ws := by rw [← h4]; simp
      subst e2
      refine ws_ret (we_tup (wa_cons (we_freeze ?_)))
      walk_at "w"
      refine ⟨0, p, _, rfl, rfl, ?_⟩
      walk_at "w"
      exact hP found (by have : found.length + szB (woB e.f .nil) ≤ szB (woB e.f b) := h5; omega)
  · rintro ⟨pr, wz, rest, found⟩ x xs rhGr w' ⟨h1, h2, h3, h4, h5, ⟨v5, v6, rfl⟩, rfl⟩
    cases rest with
    | nil => cases h1
    | cons s rest =>
      obtain ⟨rfl, rfl⟩ := List.cons.inj h1
      have e1 : woB e.f (.cons s rest) = (woS e.f s).app (woB e.f rest) := by simp [woB]
      have h3' : wz ∈ both (wB (woS e.f s)) (wB (woB e.f rest)) := by rw [← wB_app, ← e1]; exact h3
      obtain ⟨x, hx, y, hy, rfl⟩ := both_mem.mp h3'
      obtain ⟨f1, f2, f3, f4⟩ := h2
      obtain ⟨c1, c2⟩ : CaS e.kn s ∧ CaB e.kn rest := by simpa [CaB] using f1
      have d1 : dpS e.gaGr s < n + 1 ∧ dpB e.gaGr rest < n + 1 := by simp only [dpB] at f2; omega
      rw [e1, szB_app] at f3
      rw [e1, ShB_app] at f4
      have h5' : found.length + (szB (woS e.f s) + szB (woB e.f rest)) ≤ szB (woB e.f b) := by rw [← szB_app, ← e1]; exact h5
      have hz := hF.sz
      have h4' : (pr ++ x) ++ y = pre ++ ws := by rw [List.append_assoc]; exact h4
      have hway : pre ++ ws ++ post = pr ++ x ++ (y ++ post) := by rw [← h4']; simp
      have fin : ∀ (v5 v6 : Option D) (got : List D) (rhGr2 : Sl) (w2 : Own), got.length ≤ szB (woS e.f s) → rhGr2 = [some (.tup (eB b)), some (.dct e.GaGr), some (eWay (pre ++ ws ++ post)), some (.int (((pr ++ x).length : Nat) : Int)), some (.adr p), v5, v6] → w2 = [(p, .lst (found ++ got))] →
        ∃ s' : Way × Way × Blk × List D, eB rest = eB s'.2.2.1 ∧ Fo e (n + 1) s'.2.2.1 ∧ s'.2.1 ∈ wB (woB e.f s'.2.2.1) ∧ s'.1 ++ s'.2.1 = pre ++ ws ∧ s'.2.2.2.length + szB (woB e.f s'.2.2.1) ≤ szB (woB e.f b) ∧
          (∃ v5 v6, rhGr2 = [some (.tup (eB b)), some (.dct e.GaGr), some (eWay (pre ++ ws ++ post)), some (.int s'.1.length), some (.adr p), v5, v6]) ∧ w2 = [(p, .lst s'.2.2.2)] := by
        rintro v5 v6 got rhGr2 w2 hg rfl rfl
        exact ⟨(pr ++ x, y, rest, found ++ got), rfl, ⟨c2, d1.2, by show szB (woB e.f rest) ≤ 1000; omega, f4.2⟩, hy, h4', by show (found ++ got).length + szB (woB e.f rest) ≤ _; rw [List.length_append]; omega, ⟨_, _, rfl⟩, rfl⟩
      cases s with
      | row r =>
        have ew : woS e.f (.row r) = .cons (.row r) .nil := by simp [woS]
        have ex : x = [] := by rw [ew, wB_one] at hx; simpa [wS] using hx
        subst ex
        rw [List.append_nil] at fin
        have s1 : 1 ≤ szB (woS e.f (.row r)) := by rw [ew]; simp [szB, szS]
        cases r with
        | add z ts =>
          walk_at "w"
          refine we_lst ?_
          walk_at "w"
          refine we_lst ?_
          walk_at "w"
          refine we_extX ?_
          walk_at "w"
          refine ⟨p, rfl, ⟨0, _, rfl⟩, ?_⟩
          walk_at "w"
          exact ⟨_, .inl rfl, 0, _, rfl, by show found.length + 1 ≤ _; omega, fin _ _ [_] _ _ s1 rfl rfl⟩
        | lift z ts =>
          walk_at "w"
          refine we_lst ?_
          walk_at "w"
          refine we_lst ?_
          walk_at "w"
          refine we_extX ?_
          walk_at "w"
          refine ⟨p, rfl, ⟨0, _, rfl⟩, ?_⟩
          walk_at "w"
          exact ⟨_, .inl rfl, 0, _, rfl, by show found.length + 1 ≤ _; omega, fin _ _ [_] _ _ s1 rfl rfl⟩
        | set z ts =>
          walk_at "w"
          refine we_lst ?_
          walk_at "w"
          refine we_lst ?_
          walk_at "w"
          refine we_extX ?_
          walk_at "w"
          refine ⟨p, rfl, ⟨0, _, rfl⟩, ?_⟩
          walk_at "w"
          exact ⟨_, .inl rfl, 0, _, rfl, by show found.length + 1 ≤ _; omega, fin _ _ [_] _ _ s1 rfl rfl⟩
      | loop z c =>
        have ew : woS e.f (.loop z c) = .cons (.loop z (woB e.f c)) .nil := by simp [woS]
        have ex : x = [] := by rw [ew, wB_one] at hx; simpa [wS] using hx
        subst ex
        rw [List.append_nil] at fin
        have s1 : 1 ≤ szB (woS e.f (.loop z c)) := by rw [ew]; simp [szB, szS]
        walk_at "w"
        refine we_lst ?_
        walk_at "w"
        refine we_lst ?_
        walk_at "w"
        refine we_extX ?_
        walk_at "w"
        refine ⟨p, rfl, ⟨0, _, rfl⟩, ?_⟩
        walk_at "w"
        exact ⟨_, .inl rfl, 0, _, rfl, by show found.length + 1 ≤ _; omega, fin _ _ [_] _ _ s1 rfl rfl⟩
      | call z =>
        have hk : (e.bod z).isSome = true := by simpa [CaS, En.kn] using c1
        obtain ⟨d, hd2⟩ := Option.isSome_iff_exists.mp hk
        have dd := hE.dp z d hd2
        have ew : woS e.f (.call z) = woB e.f d := by rw [← hE.wo z d hd2]; simp [woS]
        have dx : e.gaGr z + 1 < n + 1 := by simpa [dpS] using d1.1
        rw [ew] at fin f3 f4 hx
        walk_at "w"
        refine we_lst ?_
        walk_at "w"
        refine rd_ix_dct (hE.at_ z d hd2) ?_
        walk_at "w"
        refine cs0 ⟨rfl, d, e, pr, x, y ++ post, by rw [← hway], rfl, hE, ⟨hE.ca z d hd2, by omega, by omega, f4.1⟩, hx, fun got hg => ?_⟩
        walk_at "w"
        refine we_extX ?_
        walk_at "w"
        refine ⟨p, rfl, ⟨0, _, rfl⟩, ?_⟩
        walk_at "w"
        exact ⟨_, .inl rfl, 0, _, rfl, by show found.length + got.length ≤ _; omega, fin _ _ got _ _ hg rfl rfl⟩
      | alt o bs =>
        have ew : woS e.f (.alt o bs) = .cons (.alt o (woLs e.f bs)) .nil := by simp [woS]
        rw [ew] at fin f3 f4 hx
        rw [wB_one] at hx
        have dx : dpLs e.gaGr bs + 1 < n + 1 := by simpa [dpS] using d1.1
        have cx : CaLs e.kn bs := by simpa [CaS] using c1
        have sz2 : szB (.cons (.alt o (woLs e.f bs)) .nil) = szLs (woLs e.f bs) + 1 := by simp [szB, szS]
        rw [sz2] at f3 fin
        obtain ⟨k1, k2, k3⟩ : 2 ≤ (woLs e.f bs).len ∧ (woLs e.f bs).len ≤ 3 ∧ ShBs (woLs e.f bs) := by simpa [ShB, ShS] using f4.1
        rw [woLs_len] at k1 k2
        have hC : FoC e n bs := ⟨cx, by omega, by omega, k1, k2, k3⟩
        cases o with
        | true =>
          walk_at "w"
          refine we_lst ?_
          walk_at "w"
          refine cs0 ⟨rfl, true, bs, e, pr, x, y ++ post, by rw [← hway], rfl, hE, hC, hx, fun got hg => ?_⟩
          walk_at "w"
          refine we_extX ?_
          walk_at "w"
          refine ⟨p, rfl, ⟨0, _, rfl⟩, ?_⟩
          walk_at "w"
          exact ⟨_, .inl rfl, 0, _, rfl, by show found.length + got.length ≤ _; omega, fin _ _ got _ _ (by omega) rfl rfl⟩
        | false =>
          walk_at "w"
          refine we_lst ?_
          walk_at "w"
          refine cs0 ⟨rfl, false, bs, e, pr, x, y ++ post, by rw [← hway], rfl, hE, hC, hx, fun got hg => ?_⟩
          walk_at "w"
          refine we_extX ?_
          walk_at "w"
          refine ⟨p, rfl, ⟨0, _, rfl⟩, ?_⟩
          walk_at "w"
          exact ⟨_, .inl rfl, 0, _, rfl, by show found.length + got.length ≤ _; omega, fin _ _ got _ _ (by omega) rfl rfl⟩
abbrev st_follow_choice : Stmt := top 46
abbrev N_follow_choice : List Str := ["statement", "bodies", "way", "at", "blocks", "many", "found", "next_at", "each", "inner"]
theorem sc_follow_choice : FnScope N_follow_choice ["statement", "bodies", "way", "at"] (defScope st_follow_choice) := ⟨rfl, rfl, rfl, by decide +kernel, rfl, by decide +kernel, by decide +kernel⟩

theorem ok_follow_choice {k : Nat} {n : Nat} (bl : Blt mg) (F : DefAt K mg "follow_choice" st_follow_choice ["statement", "bodies", "way", "at"]) (h_orders_of : Has P w K mg base CX0 "orders_of" ["many"] k (spOf K T S_orders_of)) (h_is_number : Has P w K mg base CX0 "is_number" ["thing", "low", "high"] k (spOf K T S_is_number)) (h_follow : Has P w K mg base CX0 "follow" ["block", "bodies", "way", "at"] k (spOf K T (S_follow n))) : Has P w K mg base CX0 "follow_choice" ["statement", "bodies", "way", "at"] (k + 1) (spOf K T (S_follow_choice n)) := by
  refine defD F sc_follow_choice (fun _ _ _ _ h => h.1) fun f cdv A outer s H E hr => ?_
  have hu := hu_of hr
  have hu64 := hr.units
  have nd := sc_follow_choice.nd
  refine ⟨_, (pss_cons (ps_set (i := 4) nd rfl (Or.inl rfl) (pe_ix (k_ix (K := K) rfl hu) (pv 0) pe_int (fun _ _ => rfl)))
      (pss_cons (ps_set (i := 5) nd rfl (Or.inl rfl) (pe_callB (k_len (K := K) rfl) rfl bl.len bt_len (pa_cons (pv 4) pa_nil)))
      (pss_cons (ps_if (pt_cmpR (k_eq (K := K) rfl hu64) (pe_ix (k_ix (K := K) rfl hu) (pv 0) pe_int (fun _ _ => rfl)) pe_str (nomark _))
        (pss_one (ps_set (i := 5) nd rfl (Or.inl rfl) (pe_callB (k_len (K := K) rfl) rfl bl.len bt_len (pa_cons (pe_callH h_orders_of hr rfl pass0 (pa_cons (pv 5) pa_nil)) pa_nil))))
        pss_nil)
      (pss_cons (ps_if (PW.pt (pw_or (pt_cmpR op_ge (pv 3) (pe_callB (k_len (K := K) rfl) rfl bl.len bt_len (pa_cons (pv 2) pa_nil)) (nomark _)) (pw_or1 (pt_not (pt_val (pe_callH h_is_number hr rfl pass0 (pa_cons (pe_ix (k_ix (K := K) rfl hu) (pv 2) (pv 3) (fun _ _ => rfl)) (pa_cons pe_int (pa_cons (pe_op op_sub (pv 5) pe_int) pa_nil)))))))))
        (pss_one ps_dead)
        pss_nil)
      (pss_cons (ps_if (pt_cmpR (k_eq (K := K) rfl hu64) (pe_ix (k_ix (K := K) rfl hu) (pv 0) pe_int (fun _ _ => rfl)) pe_str (nomark _))
        (pss_one (ps_ret (pe_callH h_follow hr rfl pass0 (pa_cons (pe_ix (k_ix (K := K) rfl hu) (pv 4) (pe_ix (k_ix (K := K) rfl hu) (pv 2) (pv 3) (fun _ _ => rfl)) (fun _ _ => rfl)) (pa_cons (pv 1) (pa_cons (pv 2) (pa_cons (pe_op (k_plus (K := K) rfl) (pv 3) pe_int) pa_nil)))))))
        pss_nil)
      (pss_cons (ps_set (i := 6) nd rfl (Or.inl rfl) (pe_lst pa_nil))
      (pss_cons (ps_set (i := 7) nd rfl (Or.inl rfl) (pe_op (k_plus (K := K) rfl) (pv 3) pe_int))
      (pss_cons (ps_for PassesOwn.never rfl (k_walk (K := K) rfl (pe_ix (k_ix (K := K) rfl hu) (pe_callH h_orders_of hr rfl pass0 (pa_cons (pe_callB (k_len (K := K) rfl) rfl bl.len bt_len (pa_cons (pv 4) pa_nil)) pa_nil)) (pe_ix (k_ix (K := K) rfl hu) (pv 2) (pv 3) (fun _ _ => rfl)) (fun _ _ => rfl))) (pg_name (i := 8) nd rfl (Or.inl rfl))
        (pss_cons (ps_asg (pe_callH h_follow hr rfl pass0 (pa_cons (pe_ix (k_ix (K := K) rfl hu) (pv 4) (pv 8) (fun _ _ => rfl)) (pa_cons (pv 1) (pa_cons (pv 2) (pa_cons (pv 7) pa_nil))))) (k_tup (K := K) rfl rfl (pgs_cons (pg_name (i := 9) nd rfl (Or.inl rfl)) (pgs_cons (pg_name (i := 7) nd rfl (Or.inl rfl)) pgs_nil))))
        (pss_one (ps_expr (pe_bm PySem.F.plainAttrs_list PySem.F.slot_list_extend PySem.F.type_list_extend (mt_extX (K := K) rfl) (pv 6) (pa_cons (pv 9) pa_nil))))))
      (pss_one (ps_ret (pe_tup (pa_cons (pv 6) (pa_cons (pv 7) pa_nil))))))))))))), ?_⟩
  rintro ds w P X ⟨-, o, bs, e, pre, ws, post, rfl, rfl, hE, hF, hws, hP⟩
  have hl := woLs_len e.f bs
  have hwl := wLs_len (woLs e.f bs)
  have h2 := hF.l2
  have h3 := hF.l3
  have hn : bs.len = 2 ∨ bs.len = 3 := by omega
  cases o with
  | false =>
    have ew : wS (.alt false (woLs e.f bs)) = altE 0 (wLs (woLs e.f bs)) := by simp [wS]
    rw [ew] at hws
    obtain ⟨i, us, v, g1, g2, rfl⟩ := mem_altE hws
    rw [wLs_get] at g1
    obtain ⟨c', hc', rfl⟩ := Option.map_eq_some_iff.mp g1
    have hi := lt_get _ _ _ hc'
    rw [hl] at hi
    obtain ⟨c, hc⟩ := get_lt bs i hi
    have h7 := woLs_at e.f bs i c hc
    rw [h7] at hc'
    cases hc'
    rw [Nat.zero_add] at hP ⊢
    have hsz := szLs_get _ i _ h7
    walk_at "w"
    refine rd_ge_f (by rw [List.length_map, List.length_append, List.length_append, List.length_cons]; omega) ?_
    walk_at "w"
    refine rd_ix_tup (by omega) (way_at pre v post i) ?_
    walk_at "w"
    refine cs0 ⟨rfl, i, 0, _, rfl, by omega, by rw [eBs_len]; omega, ?_⟩
    walk_at "w"
    refine rd_ix_tup (by omega) (way_at pre v post i) ?_
    walk_at "w"
    refine rd_ix_tup (d := .tup (eB c)) (by omega) (by rw [Int.toNat_natCast, eBs_get, hc]; rfl) ?_
    walk_at "w"
    refine cs0 ⟨rfl, c, e, pre ++ [i], v, post, ?_, rfl, hE, hF.get hc, g2, fun got hg => ?_⟩
    · rw [show pre ++ i :: v ++ post = pre ++ [i] ++ v ++ post by simp, show (((pre ++ [i]).length : Nat) : Int) = (pre.length : Int) + 1 by simp]
    · rw [show pre ++ [i] ++ v = pre ++ i :: v by simp]
      exact hP got (by omega)
  | true =>
    have ew : wS (.alt true (woLs e.f bs)) = altO (wLs (woLs e.f bs)) 0 (ordN (wLs (woLs e.f bs)).length) := by simp [wS]
    rw [ew, hwl, hl] at hws
    obtain ⟨i, o, v, g1, g2, rfl⟩ := mem_altO hws
    have hi := (List.getElem?_eq_some_iff.mp g1).1
    have ho : o ∈ ordN bs.len := List.mem_of_getElem? g1
    have hso := sumO_le (bs := woLs e.f bs) (by omega) o (by rw [hl]; exact ho)
    have hlt := (ordN_lt hn o ho).1
    rw [Nat.zero_add] at hP ⊢
    walk_at "w"
    rw [eBs_len]
    refine cs0 ⟨rfl, bs.len, rfl, hn, ?_⟩
    walk_at "w"
    refine rd_ge_f (by rw [List.length_map, List.length_append, List.length_append, List.length_cons]; omega) ?_
    walk_at "w"
    refine rd_ix_tup (by omega) (way_at pre v post i) ?_
    walk_at "w"
    rw [List.length_map]
    refine cs0 ⟨rfl, i, 0, _, rfl, by omega, by omega, ?_⟩
    walk_at "w"
    refine we_lstO ?_
    walk_at "w"
    intro p
    walk_at "w"
    refine wi_anyT ?_
    walk_at "w"
    rw [eBs_len]
    refine cs0 ⟨rfl, bs.len, rfl, hn, ?_⟩
    walk_at "w"
    refine rd_ix_tup (by omega) (way_at pre v post i) ?_
    refine rd_ix_tup (d := eWay o) (by omega) (by rw [Int.toNat_natCast, List.getElem?_map, g1]; rfl) ?_
    refine ⟨_, rfl, fun _ => trivial, ?_⟩
    refine turns_ind (A := Way × Way × List Nat × List D) (fun s ds rhGr w' => ds = s.2.2.1.map (fun k : Nat => D.int (k : Int)) ∧ (∀ j ∈ s.2.2.1, j < bs.len) ∧ Seqs (wLs (woLs e.f bs)) s.2.2.1 s.2.1 ∧ s.1 ++ s.2.1 = pre ++ i :: v ∧ s.2.2.2.length + sumO (woLs e.f bs) s.2.2.1 ≤ szLs (woLs e.f bs) ∧
      (∃ v5 v8 v9, rhGr = [some (eS (.alt true bs)), some (.dct e.GaGr), some (eWay (pre ++ i :: v ++ post)), some (.int pre.length), some (.tup (eBs bs)), v5, some (.adr p), some (.int s.1.length), v8, v9]) ∧ w' = [(p, .lst s.2.2.2)]) ?_ ?_ (pre ++ [i], v, o, []) ⟨rfl, hlt, g2, by simp, by show 0 + sumO _ o ≤ _; omega, ⟨_, none, none, by simp; rfl⟩, rfl⟩
    · rintro ⟨pr, wz, os, found⟩ rhGr w' ⟨f1, f2, f3, f4, f5, ⟨v5, v8, v9, rfl⟩, rfl⟩
      cases os with
      | cons s os => cases f1
      | nil =>
        have e1 : wz = [] := f3
        subst e1
        have e2 : pr = pre ++ i :: v := by rw [← f4]; simp
        subst e2
        refine ws_ret (we_tup (wa_cons (we_freeze ?_)))
        walk_at "w"
        refine ⟨0, p, _, rfl, rfl, ?_⟩
        walk_at "w"
        exact hP found (by have : found.length + 0 ≤ szLs (woLs e.f bs) := f5; omega)
    · rintro ⟨pr, wz, os, found⟩ x xs rhGr w' ⟨f1, f2, f3, f4, f5, ⟨v5, v8, v9, rfl⟩, rfl⟩
      cases os with
      | nil => cases f1
      | cons j os =>
        obtain ⟨rfl, rfl⟩ := List.cons.inj f1
        have hj := f2 j (by simp)
        obtain ⟨c, hc⟩ := get_lt bs j hj
        have h7 := woLs_at e.f bs j c hc
        obtain ⟨x, hx, y, hy, rfl⟩ := f3
        have hx2 : x ∈ wB (woB e.f c) := by
          rw [List.getD_eq_getElem?_getD, wLs_get, h7] at hx
          exact hx
        have hso2 : sumO (woLs e.f bs) (j :: os) = szB (woB e.f c) + sumO (woLs e.f bs) os := by simp [sumO, h7]
        have f5' : found.length + (szB (woB e.f c) + sumO (woLs e.f bs) os) ≤ szLs (woLs e.f bs) := by rw [← hso2]; exact f5
        have hz := hF.sz
        have f4' : (pr ++ x) ++ y = pre ++ i :: v := by rw [List.append_assoc]; exact f4
        have hway : pre ++ i :: v ++ post = pr ++ x ++ (y ++ post) := by rw [← f4']; simp
        walk_at "w"
        refine rd_ix_tup (d := .tup (eB c)) (by omega) (by rw [Int.toNat_natCast, eBs_get, hc]; rfl) ?_
        walk_at "w"
        refine cs0 ⟨rfl, c, e, pr, x, y ++ post, by rw [← hway], rfl, hE, hF.get hc, hx2, fun got hg => ?_⟩
        walk_at "w"
        refine we_extX ?_
        walk_at "w"
        refine ⟨p, rfl, ⟨0, _, rfl⟩, ?_⟩
        walk_at "w"
        exact ⟨_, .inl rfl, 0, _, rfl, by show found.length + got.length ≤ _; omega, (pr ++ x, y, os, found ++ got), rfl, fun z hz => f2 z (List.mem_cons_of_mem _ hz), hy, f4', by show (found ++ got).length + sumO (woLs e.f bs) os ≤ szLs (woLs e.f bs); rw [List.length_append]; omega, ⟨_, _, _, rfl⟩, rfl⟩
/-- a program and its way -/
def S_straight (C : Addr) (n : Nat) : DSpec := fun ds w P _ => ds.length = 2 ∧ ∃ (names : List Str) (W : Wd) (b : Blk) (e : En) (v : Way), ds = [eProg C names W b, eWay v] ∧ w = [] ∧ e.GaGr = W.held ∧ EnOk e ∧ Fo e n b ∧ v ∈ wB (woB e.f b) ∧ ∀ d, P d []
def S_is_way (C : Addr) (n : Nat) : DSpec := fun ds w P _ => ds.length = 2 ∧ ∃ (names : List Str) (W : Wd) (b : Blk) (e : En) (v : Way), ds = [eProg C names W b, eWay v] ∧ w = [] ∧ e.GaGr = W.held ∧ EnOk e ∧ Fo e n b ∧ v ∈ wB (woB e.f b) ∧ P (.bl true) []
abbrev st_straight : Stmt := top 47
abbrev N_straight : List Str := ["program", "way", "found", "at"]
theorem sc_straight : FnScope N_straight ["program", "way"] (defScope st_straight) := ⟨rfl, rfl, rfl, by decide +kernel, rfl, by decide +kernel, by decide +kernel⟩

theorem ok_straight {k : Nat} {n : Nat} (cl : Cls K C) (na2 : NoAttr K C "held") (na3 : NoAttr K C "main") (bl : Blt mg) (F : DefAt K mg "straight" st_straight ["program", "way"]) (h_follow : Has P w K mg base CX0 "follow" ["block", "bodies", "way", "at"] k (spOf K T (S_follow n))) : Has P w K mg base CX0 "straight" ["program", "way"] (k + 1) (spOf K T (S_straight C n)) := by
  refine defD F sc_straight (fun _ _ _ _ h => h.1) fun f cdv A outer s H E hr => ?_
  have hu := hu_of hr
  have hu64 := hr.units
  have nd := sc_straight.nd
  refine ⟨_, (pss_cons (ps_if (pt_not (pt_val (pe_callB (k_isi (K := K) rfl) rfl bl.isinstance bt_isinstance (pa_cons (pv 1) (pa_cons (pe_bltn (v := .ty "tuple") rfl bl.tuple bt_tuple rfl) pa_nil)))))
        (pss_one ps_dead)
        pss_nil)
      (pss_cons (ps_asg (pe_callH h_follow hr rfl pass0 (pa_cons (k_fld (K := K) rfl (pv 0) rfl) (pa_cons (k_fld (K := K) rfl (pv 0) rfl) (pa_cons (pv 1) (pa_cons pe_int pa_nil))))) (k_tup (K := K) rfl rfl (pgs_cons (pg_name (i := 2) nd rfl (Or.inl rfl)) (pgs_cons (pg_name (i := 3) nd rfl (Or.inl rfl)) pgs_nil))))
      (pss_cons (ps_if (pt_cmpR (k_ne (K := K) rfl hu64) (pv 3) (pe_callB (k_len (K := K) rfl) rfl bl.len bt_len (pa_cons (pv 1) pa_nil)) (nomark _))
        (pss_one ps_dead)
        pss_nil)
      (pss_one (ps_ret (pe_callTy (k_tuple (K := K) rfl) rfl bl.tuple bt_tuple (pa_cons (pv 2) pa_nil))))))), ?_⟩
  rintro ds w P X ⟨-, names, W, b, e, v, rfl, rfl, hG, hE, hF, hv, hP⟩
  walk_at "w"
  refine we_fld ?_
  walk_at "w"
  refine ⟨C, _, _, rfl, cl, na3, rfl, ?_⟩
  walk_at "w"
  refine we_fld ?_
  walk_at "w"
  refine ⟨C, _, _, rfl, cl, na2, rfl, ?_⟩
  walk_at "w"
  refine cs0 ⟨rfl, b, e, [], v, [], by rw [hG]; simp, rfl, hE, hF, hv, fun got hg => ?_⟩
  walk_at "w"
  rw [List.length_map]
  refine rd_ne_int ?_
  rw [decide_eq_true (by simp)]
  walk_at "w"
  refine rc_tuple ?_
  exact hP _
abbrev st_is_way : Stmt := top 48
abbrev N_is_way : List Str := ["program", "thing", "right"]
theorem sc_is_way : FnScope N_is_way ["program", "thing"] (defScope st_is_way) := ⟨rfl, rfl, rfl, by decide +kernel, rfl, by decide +kernel, by decide +kernel⟩

theorem ok_is_way {k : Nat} {n : Nat} (bl : Blt mg) (F : DefAt K mg "is_way" st_is_way ["program", "thing"]) (h_straight : Has P w K mg base CX0 "straight" ["program", "way"] k (spOf K T (S_straight C n))) : Has P w K mg base CX0 "is_way" ["program", "thing"] (k + 1) (spOf K T (S_is_way C n)) := by
  refine defD F sc_is_way (fun _ _ _ _ h => h.1) fun f cdv A outer s H E hr => ?_
  have hu := hu_of hr
  have hu64 := hr.units
  have nd := sc_is_way.nd
  refine ⟨_, (pss_cons (ps_set (i := 2) nd rfl (Or.inl rfl) pe_bl)
      (pss_cons (ps_try_thru0 (pss_one (ps_expr (pe_callH h_straight hr rfl pass0 (pa_cons (pv 0) (pa_cons (pv 1) pa_nil))))))
      (pss_one (ps_ret (pv 2))))), ?_⟩
  rintro ds w P X ⟨-, names, W, b, e, v, rfl, rfl, hG, hE, hF, hv, hP⟩
  walk_at "w"
  refine cs0 ⟨rfl, names, W, b, e, v, rfl, rfl, hG, hE, hF, hv, fun d => ?_⟩
  walk_at "w"
  exact hP
end
end Hw
/-! HwQ -/
namespace Hw
/-- what a Doing owns -/
def dO (C self h q : Addr) (s : Sn) (kvs : List (Str × D)) : Own := [(h, .dct kvs), (self, .ins C [("held", .adr h), ("count", .int s.n), ("picks", .adr q), ("most", .int TOP)]), (q, .lst (s.pk.map D.int))]
theorem Nu.putLen {kvs : List (Str × D)} {names : List Str} {nuGr : Str → Int} (h : Nu kvs names nuGr) {x : Str} (hx : x ∈ names) (d : D) : (putD kvs x d).length = kvs.length := by
  have e := congrArg List.length (putD_keys (x := x) (d := d) (kvs := kvs))
  rw [if_pos (h.ks x hx), List.length_map, List.length_map] at e
  exact e
structure Res (names : List Str) (out : Nat) (s : Sn) (kvs : List (Str × D)) : Prop where
  nu : Nu kvs names s.nuGr
  nb : NuB names s.nuGr
  bd : s.pk.length + out ≤ 100 * (s.n + 1)
  n : s.n ≤ 10000
  sl : kvs.length = names.length
structure DoF (K : PySem.W.Frag) (C : Addr) : Prop where
  cl : Cls K C
  held : NoAttr K C "held"
  count : NoAttr K C "count"
  picks : NoAttr K C "picks"
  most : NoAttr K C "most"
def S_Doing_one_step (C : Addr) : DSpec := fun ds w P X => ds.length = 1 ∧ ∃ (self h q : Addr) (s : Sn) (kvs : List (Str × D)), ds = [.adr self] ∧ w = dO C self h q s kvs ∧ (∀ s', s.step = some s' → P .non (dO C self h q s' kvs)) ∧ (s.step = none → ∀ w', X w')
def S_Doing_do_row (C : Addr) : DSpec := fun ds w P X => ds.length = 2 ∧ ∃ (self h q : Addr) (s : Sn) (kvs : List (Str × D)) (names : List Str) (r : Row) (out : Nat), ds = [.adr self, eR r] ∧ w = dO C self h q s kvs ∧ Res names out s kvs ∧ RowN names r ∧
  (∀ s' kvs', doRow s r = some s' → Res names out s' kvs' → P .non (dO C self h q s' kvs')) ∧ (doRow s r = none → ∀ w', X w')
def runL (x : Str) (b : Blk) (s : Sn) : Option Sn := iterO (fun i s => s.step.bind fun s => (runB b s (wayAt (wB b) i)).map fun p => p.1) (s.nuGr x).toNat 0 (s.pick (s.nuGr x))
theorem runS_loop (x : Str) (b : Blk) (s : Sn) (v : Way) : runS (.loop x b) s v = (runL x b s).map fun s => (s, v) := by rw [runS]; rfl
theorem runS_row (r : Row) (s : Sn) (v : Way) : runS (.row r) s v = (doRow s r).map fun s => (s, v) := by rw [runS]
theorem runS_alt (o : Bool) (bs : Bls) (s : Sn) (k : Nat) (v : Way) : runS (.alt o bs) s (k :: v) = seqO (runLs bs) (if o then (ordN bs.len).getD k [] else [k]) (s.pick (k : Nat)) v := by rw [runS]
structure Bk (names : List Str) (n : Nat) (b : Blk) : Prop where
  sh : ShB b
  ru : RuB names b
  dp : dB b < n
  sz : szB b ≤ 100
def S_Doing_do_loop (C : Addr) (n : Nat) : DSpec := fun ds w P X => ds.length = 2 ∧ ∃ (self h q : Addr) (s : Sn) (kvs : List (Str × D)) (names : List Str) (x : Str) (b : Blk) (out : Nat), ds = [.adr self, ePS (.loop x b)] ∧ w = dO C self h q s kvs ∧ Res names (out + 1) s kvs ∧ x ∈ names ∧ Bk names n b ∧ Gd (wB b) ∧
  (∀ s' kvs', runL x b s = some s' → Res names out s' kvs' → P .non (dO C self h q s' kvs')) ∧ (runL x b s = none → ∀ w', X w')
def S_Doing_do_block (C : Addr) (n : Nat) : DSpec := fun ds w P X => ds.length = 4 ∧ ∃ (self h q : Addr) (s : Sn) (kvs : List (Str × D)) (names : List Str) (b : Blk) (out : Nat) (pre ws post : Way), ds = [.adr self, .tup (ePB b), eWay (pre ++ ws ++ post), .int pre.length] ∧ w = dO C self h q s kvs ∧ Res names (out + szB b) s kvs ∧ Bk names n b ∧ ws ∈ wB b ∧
  (∀ s' kvs', runB b s (ws ++ post) = some (s', post) → Res names out s' kvs' → P (.int ((pre ++ ws).length : Nat)) (dO C self h q s' kvs')) ∧ (runB b s (ws ++ post) = none → ∀ w', X w')
section
variable {P : Program} {w : World} {K : PySem.W.Frag} {mg : Str → Option Value} {base : Heap} {T C : Addr}
abbrev st_Doing_one_step : Stmt := inClass (top 57) 1
abbrev N_Doing_one_step : List Str := ["self"]
theorem sc_Doing_one_step : FnScope N_Doing_one_step ["self"] (defScope st_Doing_one_step) := ⟨rfl, rfl, rfl, by decide +kernel, rfl, by decide +kernel, by decide +kernel⟩

theorem ok_Doing_one_step {k : Nat} (bl : Blt mg) (F : MethAt K C "one_step" "Doing.one_step" st_Doing_one_step ["self"]) (tl : ExcAt K mg "TooLong" T) (df : DoF K C) (c_MOST_STEPS : HasC K mg "MOST_STEPS" cd_MOST_STEPS) : HasM P w K mg base (L2.CX P w) C "one_step" ["self"] (k + 1) (spOf K T (S_Doing_one_step C)) := by
  refine methX F sc_Doing_one_step (fun _ _ _ _ h => h.1) fun f cdv A outer s H E tk hr => ?_
  have hu := hu_of hr
  have hu64 := hr.units
  have nd := sc_Doing_one_step.nd
  refine ⟨_, (pss_cons (k_sfld (K := K) rfl (pv 0) (pe_op (k_plus (K := K) rfl) (k_fld (K := K) rfl (pv 0) rfl) pe_int) rfl)
      (pss_one (ps_if (pt_cmpR op_gt (k_fld (K := K) rfl (pv 0) rfl) (k_glob (K := K) rfl c_MOST_STEPS rfl) (nomark _))
        (pss_one (ps_rz rfl tk tl rfl))
        pss_nil))), ?_⟩
  rintro ds w P X ⟨-, self, h, q, s, kvs, rfl, rfl, hP, hX⟩
  walk_at "w"
  refine we_fldO ?_
  walk_at "w"
  refine ⟨self, 1, C, _, _, rfl, rfl, df.cl, df.count, rfl, ?_⟩
  walk_at "w"
  refine ⟨self, 1, C, _, rfl, rfl, df.cl, df.count, Nat.le_of_ble_eq_true rfl, ?_⟩
  walk_at "w"
  refine we_fldO ?_
  walk_at "w"
  refine ⟨self, 1, C, _, _, rfl, rfl, df.cl, df.count, rfl, ?_⟩
  walk_at "w"
  by_cases hs : s.n + 1 ≤ 10000
  · refine rd_gt_f (by omega) ?_
    walk_at "w"
    exact hP { s with n := s.n + 1 } (by unfold Sn.step; rw [if_pos hs])
  · refine rd_gt_t (by omega) ?_
    walk_at "w"
    exact ws_rz rfl rfl (hX (by unfold Sn.step; rw [if_neg hs]) _)
theorem step_res {names : List Str} {out : Nat} {s s' : Sn} {kvs : List (Str × D)} (h : Res names out s kvs) (e : s.step = some s') : Res names (out + 100) s' kvs := by
  unfold Sn.step at e
  split at e
  · rename_i hn
    cases e
    have := h.bd
    exact ⟨h.nu, h.nb, by show s.pk.length + (out + 100) ≤ 100 * (s.n + 1 + 1); omega, hn, h.sl⟩
  · cases e
theorem Res.less {names : List Str} {out out' : Nat} {s : Sn} {kvs : List (Str × D)} (h : Res names out s kvs) (l : out' ≤ out) : Res names out' s kvs := ⟨h.nu, h.nb, by have := h.bd; omega, h.n, h.sl⟩
theorem Res.pick {names : List Str} {out : Nat} {s : Sn} {kvs : List (Str × D)} (h : Res names (out + 1) s kvs) (i : Int) : Res names out (s.pick i) kvs := ⟨h.nu, h.nb, by have := h.bd; show (s.pk ++ [i]).length + out ≤ _; rw [List.length_append]; show s.pk.length + 1 + out ≤ 100 * (s.n + 1); omega, h.n, h.sl⟩
abbrev st_Doing_do_row : Stmt := inClass (top 57) 2
abbrev N_Doing_do_row : List Str := ["self", "row"]
theorem sc_Doing_do_row : FnScope N_Doing_do_row ["self", "row"] (defScope st_Doing_do_row) := ⟨rfl, rfl, rfl, by decide +kernel, rfl, by decide +kernel, by decide +kernel⟩

theorem ok_Doing_do_row {k : Nat} (bl : Blt mg) (F : MethAt K C "do_row" "Doing.do_row" st_Doing_do_row ["self", "row"]) (tl : ExcAt K mg "TooLong" T) (df : DoF K C) (cl : Cls K C) (m_one_step : HasM P w K mg base (L2.CX P w) C "one_step" ["self"] k (spOf K T (S_Doing_one_step C))) (h_changed : Has P w K mg base CX0 "changed" ["row", "numbers"] k (spOf K T S_changed)) :
    HasM P w K mg base (L2.CX P w) C "do_row" ["self", "row"] (k + 1) (spOf K T (S_Doing_do_row C)) := by
  refine methX F sc_Doing_do_row (fun _ _ _ _ h => h.1) fun f cdv A outer s H E tk hr => ?_
  have hu := hu_of hr
  have hu64 := hr.units
  have nd := sc_Doing_do_row.nd
  refine ⟨_, (pss_cons (ps_expr (pe_methH0 m_one_step cl hr (passX tk) (pv 0)))
      (pss_cons (ps_asg (pe_callH h_changed hr rfl pass0 (pa_cons (pv 1) (pa_cons (k_fld (K := K) rfl (pv 0) rfl) pa_nil))) (pg_sub (k_fld (K := K) rfl (pv 0) rfl) (pe_ix (k_ix (K := K) rfl hu) (pv 1) pe_int (fun _ _ => rfl)) (set_X hu)))
      (pss_one (ps_if (pt_cmpR op_gt (pe_ix (k_ix (K := K) rfl hu) (k_fld (K := K) rfl (pv 0) rfl) (pe_ix (k_ix (K := K) rfl hu) (pv 1) pe_int (fun _ _ => rfl)) (fun _ _ => rfl)) (k_fld (K := K) rfl (pv 0) rfl) (nomark _))
        (pss_one (ps_rz rfl tk tl rfl))
        pss_nil)))), ?_⟩
  rintro ds w P X ⟨-, self, h, q, s, kvs, names, r, out, rfl, rfl, hR, hN, hP, hX⟩
  walk_at "w"
  refine we_meth rfl rfl ?_
  walk_at "w"
  refine ⟨self, 1, _, rfl, rfl, rfl, ?_⟩
  walk_at "w"
  refine cpW ⟨rfl, self, h, q, s, kvs, rfl, rfl, fun s1 h1 => ?_, fun h1 w' => hX (by unfold doRow; rw [h1]; rfl) _⟩
  have hR1 := step_res hR h1
  have ed : doRow s r = s1.put r := by unfold doRow; rw [h1]; rfl
  rw [ed] at hP hX
  have hx := hN.tgt_mem
  have h1' := rowV_pos hR1.nb hN
  walk_at "w"
  refine we_fldO ?_
  walk_at "w"
  refine ⟨self, 1, C, _, _, rfl, rfl, df.cl, df.held, rfl, ?_⟩
  walk_at "w"
  refine cpF (mine := [(h, .dct kvs)]) rfl ⟨rfl, r, h, kvs, names, s1.nuGr, rfl, rfl, hR1.nu, hR1.nb, hN, ?_⟩
  refine wg_subD (we_fldO ?_)
  walk_at "w"
  refine ⟨self, 1, C, _, _, rfl, rfl, df.cl, df.held, rfl, h, rfl, ?_⟩
  have rest : ∀ (d : D), d = eR r → WS ⟨K, E, T, X⟩ (tIfS (tTest (tOp (rI0 fun i j => .bl (decide (j < i))) (tOp (rIxX K) (tFld K (tVar 0) "held") (tOp (rIxX K) (tVar 1) (tC (.int 1)))) (tFld K (tVar 0) "most"))) (tRz T E) tNext)
      [some (.adr self), some d] (dO C self h q { s1 with nuGr := setN s1.nuGr r.tgt (rowV s1.nuGr r) } (putD kvs r.tgt (.int (rowV s1.nuGr r)))) (Post P) := by
    rintro d rfl
    have hnu := hR1.nu.put hx (rowV s1.nuGr r)
    have hat := hnu.at_ _ hx
    have e0 : setN s1.nuGr r.tgt (rowV s1.nuGr r) r.tgt = rowV s1.nuGr r := by unfold setN; rw [if_pos rfl]
    rw [e0] at hat
    have tail : RD ⟨K, E, T, X⟩ (rI0 fun i j => .bl (decide (j < i))) (.int (rowV s1.nuGr r)) (.int TOP) (dO C self h q { s1 with nuGr := setN s1.nuGr r.tgt (rowV s1.nuGr r) } (putD kvs r.tgt (.int (rowV s1.nuGr r)))) (fun d w1 => ∃ b, d = .bl b ∧ (b = true → WS ⟨K, E, T, X⟩ (tRz T E) [some (.adr self), some (eR r)] w1 (Post P)) ∧ (b = false → WS ⟨K, E, T, X⟩ tNext [some (.adr self), some (eR r)] w1 (Post P))) := by
      by_cases hv : rowV s1.nuGr r ≤ TOP
      · refine rd_gt_f (by omega) ?_
        walk_at "w"
        exact hP _ _ (by unfold Sn.put; rw [if_pos hv]) ⟨hnu, hR1.nb.put h1' hv, (hR1.less (by omega)).bd, hR1.n, (hR1.nu.putLen hx _).trans hR1.sl⟩
      · refine rd_gt_t (by omega) ?_
        walk_at "w"
        exact ws_rz rfl rfl (hX (by unfold Sn.put; rw [if_neg hv]) _)
    cases r with
    | add x ts =>
      walk_at "w"
      refine we_fldO ?_
      walk_at "w"
      refine ⟨self, 1, C, _, _, rfl, rfl, df.cl, df.held, rfl, ?_⟩
      walk_at "w"
      refine rd_ix_dctO 0 rfl hat ?_
      refine we_fldO ?_
      walk_at "w"
      exact ⟨self, 1, C, _, _, rfl, rfl, df.cl, df.most, rfl, tail⟩
    | lift x t =>
      walk_at "w"
      refine we_fldO ?_
      walk_at "w"
      refine ⟨self, 1, C, _, _, rfl, rfl, df.cl, df.held, rfl, ?_⟩
      walk_at "w"
      refine rd_ix_dctO 0 rfl hat ?_
      refine we_fldO ?_
      walk_at "w"
      exact ⟨self, 1, C, _, _, rfl, rfl, df.cl, df.most, rfl, tail⟩
    | set x ts =>
      walk_at "w"
      refine we_fldO ?_
      walk_at "w"
      refine ⟨self, 1, C, _, _, rfl, rfl, df.cl, df.held, rfl, ?_⟩
      walk_at "w"
      refine rd_ix_dctO 0 rfl hat ?_
      refine we_fldO ?_
      walk_at "w"
      exact ⟨self, 1, C, _, _, rfl, rfl, df.cl, df.most, rfl, tail⟩
  have hlen : kvs.length < 10000000 := by have := hR1.nu.len; omega
  cases r with
  | add x ts =>
    walk_at "w"
    exact ⟨x, rfl, 0, kvs, rfl, hR1.nu.nd, hlen, rest _ rfl⟩
  | lift x t =>
    walk_at "w"
    exact ⟨x, rfl, 0, kvs, rfl, hR1.nu.nd, hlen, rest _ rfl⟩
  | set x ts =>
    walk_at "w"
    exact ⟨x, rfl, 0, kvs, rfl, hR1.nu.nd, hlen, rest _ rfl⟩
end
end Hw
/-! HwR -/
namespace Hw
theorem alt_split {o : Bool} {bs : Bls} (hl : bs.len = 2 ∨ bs.len = 3) {x : Way} (h : x ∈ wS (.alt o bs)) : ∃ (k : Nat) (v : Way) (os : List Nat), x = k :: v ∧ os = (if o then (ordN bs.len).getD k [] else [k]) ∧ (∀ i ∈ os, i < bs.len) ∧ Seqs (wLs bs) os v ∧ sumO bs os ≤ szLs bs ∧ (o = true → (ordN bs.len)[k]? = some os) := by
  have hwl := wLs_len bs
  cases o with
  | false =>
    have ew : wS (.alt false bs) = altE 0 (wLs bs) := by simp [wS]
    rw [ew] at h
    obtain ⟨i, us, v, g1, g2, rfl⟩ := mem_altE h
    rw [wLs_get] at g1
    obtain ⟨c, hc, rfl⟩ := Option.map_eq_some_iff.mp g1
    have hi := lt_get _ _ _ hc
    have hz := szLs_get _ i _ hc
    refine ⟨i, v, [i], by rw [Nat.zero_add], rfl, fun j hj => by simp at hj; omega, ⟨v, ?_, [], rfl, by simp⟩, ?_, fun z => by cases z⟩
    · rw [List.getD_eq_getElem?_getD, wLs_get, hc]; exact g2
    · simp [sumO, hc]; omega
  | true =>
    have ew : wS (.alt true bs) = altO (wLs bs) 0 (ordN (wLs bs).length) := by simp [wS]
    rw [ew, hwl] at h
    obtain ⟨i, o, v, g1, g2, rfl⟩ := mem_altO h
    have ho := List.mem_of_getElem? g1
    refine ⟨i, v, o, by rw [Nat.zero_add], ?_, (ordN_lt hl o ho).1, g2, sumO_le hl o ho, fun _ => g1⟩
    simp only [if_true]
    rw [List.getD_eq_getElem?_getD, g1]; rfl
theorem wayAt_mem {ws : List Way} (h : ws ≠ []) (i : Nat) : wayAt ws i ∈ ws ∧ (ws.map eWay)[i % ws.length]? = some (eWay (wayAt ws i)) := by
  have hl : 0 < ws.length := List.length_pos_iff.mpr h
  have hi := Nat.mod_lt i hl
  unfold wayAt
  rw [List.getD_eq_getElem?_getD, List.getElem?_eq_getElem hi, List.getElem?_map, List.getElem?_eq_getElem hi]
  exact ⟨List.getElem_mem hi, rfl⟩
section
variable {P : Program} {w : World} {K : PySem.W.Frag} {mg : Str → Option Value} {base : Heap} {T C : Addr}
abbrev st_Doing_do_loop : Stmt := inClass (top 57) 3
abbrev N_Doing_do_loop : List Str := ["self", "statement", "rounds", "ways", "done"]
theorem sc_Doing_do_loop : FnScope N_Doing_do_loop ["self", "statement"] (defScope st_Doing_do_loop) := ⟨rfl, rfl, rfl, by decide +kernel, rfl, by decide +kernel, by decide +kernel⟩

theorem ok_Doing_do_loop {k n : Nat} (bl : Blt mg) (F : MethAt K C "do_loop" "Doing.do_loop" st_Doing_do_loop ["self", "statement"]) (tl : ExcAt K mg "TooLong" T) (df : DoF K C) (cl : Cls K C) (m_one_step : HasM P w K mg base (L2.CX P w) C "one_step" ["self"] k (spOf K T (S_Doing_one_step C))) (m_do_block : HasM P w K mg base (L2.CX P w) C "do_block" ["self", "block", "way", "at"] k (spOf K T (S_Doing_do_block C n))) :
    HasM P w K mg base (L2.CX P w) C "do_loop" ["self", "statement"] (k + 1) (spOf K T (S_Doing_do_loop C n)) := by
  refine methX F sc_Doing_do_loop (fun _ _ _ _ h => h.1) fun f cdv A outer s H E tk hr => ?_
  have hu := hu_of hr
  have hu64 := hr.units
  have nd := sc_Doing_do_loop.nd
  refine ⟨_, (pss_cons (ps_set (i := 2) nd rfl (Or.inl rfl) (pe_ix (k_ix (K := K) rfl hu) (k_fld (K := K) rfl (pv 0) rfl) (pe_ix (k_ix (K := K) rfl hu) (pv 1) pe_int (fun _ _ => rfl)) (fun _ _ => rfl)))
      (pss_cons (ps_expr (pe_bm PySem.F.plainAttrs_list PySem.F.slot_list_append PySem.F.type_list_append mt_append (k_fld (K := K) rfl (pv 0) rfl) (pa_cons (pv 2) pa_nil)))
      (pss_cons (ps_set (i := 3) nd rfl (Or.inl rfl) (pe_ix (k_ix (K := K) rfl hu) (pv 1) pe_int (fun _ _ => rfl)))
      (pss_cons (ps_set (i := 4) nd rfl (Or.inl rfl) pe_int)
      (pss_one (ps_while (passes_of rfl) (pt_cmpR (k_lt (K := K) rfl hu64) (pv 4) (pv 2) (nomark _))
        (pss_cons (ps_expr (pe_methH0 m_one_step cl hr (passX tk) (pv 0)))
        (pss_cons (ps_expr (pe_methH m_do_block cl hr (passX tk) (pv 0) (pa_cons (pe_ix (k_ix (K := K) rfl hu) (pv 1) pe_int (fun _ _ => rfl)) (pa_cons (pe_ix (k_ix (K := K) rfl hu) (pv 3) (pe_op op_mod (pv 4) (pe_callB (k_len (K := K) rfl) rfl bl.len bt_len (pa_cons (pv 3) pa_nil))) (fun _ _ => rfl)) (pa_cons pe_int pa_nil)))))
        (pss_one (ps_set (i := 4) nd rfl (Or.inl rfl) (pe_op (k_plus (K := K) rfl) (pv 4) pe_int))))))))))), ?_⟩
  rintro ds w P X ⟨-, self, h, q, s, kvs, names, x, b, out, rfl, rfl, hR, hx, hB, hG, hP, hX⟩
  have ee : ePS (.loop x b) = .tup [.str "loop", .str x, .tup (ePB b), eWays (wB b)] := by simp [ePS]
  rw [ee]
  have hne := wB_ne b hB.sh
  have hnx := (hR.nb x hx).1
  have hwl : 0 < (wB b).length := List.length_pos_iff.mpr hne
  walk_at "w"
  refine we_fldO ?_
  walk_at "w"
  refine ⟨self, 1, C, _, _, rfl, rfl, df.cl, df.held, rfl, ?_⟩
  walk_at "w"
  refine rd_ix_dctO 0 rfl (hR.nu.at_ x hx) ?_
  walk_at "w"
  refine we_append (we_fldO ?_)
  walk_at "w"
  refine ⟨self, 1, C, _, _, rfl, rfl, df.cl, df.picks, rfl, q, rfl, ⟨2, _, rfl⟩, ?_⟩
  walk_at "w"
  refine ⟨2, _, rfl, by rw [List.length_map]; have := hR.bd; have := hR.n; omega, ?_⟩
  have hR1 := hR.pick (s.nuGr x)
  have eo : (dO C self h q s kvs).set 2 (q, .lst (s.pk.map D.int ++ [.int (s.nuGr x)])) = dO C self h q (s.pick (s.nuGr x)) kvs := by
    show [_, _, (q, D.lst (s.pk.map D.int ++ [.int (s.nuGr x)]))] = [_, _, (q, D.lst ((s.pk ++ [s.nuGr x]).map D.int))]
    rw [List.map_append]; rfl
  rw [eo]
  walk_at "w"
  have el : runL x b s = iterO (fun i s => s.step.bind fun s => (runB b s (wayAt (wB b) i)).map fun p => p.1) (s.nuGr x).toNat 0 (s.pick (s.nuGr x)) := rfl
  generalize hF : (fun (i : Nat) (s : Sn) => s.step.bind fun s => (runB b s (wayAt (wB b) i)).map fun p => p.1) = Ff at el
  refine ws_while (fun m rhGr' w' => ∃ (i : Nat) (s1 : Sn) (kvs1 : List (Str × D)), m + i = (s.nuGr x).toNat ∧ rhGr' = [some (.adr self), some (.tup [.str "loop", .str x, .tup (ePB b), eWays (wB b)]), some (.int (s.nuGr x)), some (eWays (wB b)), some (.int i)] ∧ w' = dO C self h q s1 kvs1 ∧ Res names out s1 kvs1 ∧ iterO Ff m i s1 = runL x b s) (s.nuGr x).toNat ⟨0, _, kvs, rfl, rfl, rfl, hR1, el.symm⟩ ?_
  rintro m rhGr' w' ⟨i, s1, kvs1, hm, rfl, rfl, hR2, he⟩
  walk_at "w"
  cases m with
  | zero =>
    refine rd_lt_int_f (by omega) ?_
    walk_at "w"
    have e1 : some s1 = runL x b s := he
    exact hP s1 kvs1 e1.symm hR2
  | succ m =>
    have e2 : (Ff i s1).bind (fun s => iterO Ff m (i + 1) s) = runL x b s := he
    refine rd_lt_int_t (by omega) ?_
    walk_at "w"
    refine we_meth rfl rfl ?_
    walk_at "w"
    refine ⟨self, 1, _, rfl, rfl, rfl, ?_⟩
    walk_at "w"
    refine cpW ⟨rfl, self, h, q, s1, kvs1, rfl, rfl, fun s2 h2 => ?_, fun h2 w' => hX (by rw [← e2, ← hF]; simp [h2]) _⟩
    have hR3 := step_res hR2 h2
    have e3 : Ff i s1 = (runB b s2 (wayAt (wB b) i)).map fun p => p.1 := by rw [← hF]; simp [h2]
    rw [e3] at e2
    obtain ⟨wm, wa⟩ := wayAt_mem hne i
    walk_at "w"
    refine we_meth rfl rfl ?_
    walk_at "w"
    refine ⟨self, 1, _, rfl, rfl, rfl, ?_⟩
    walk_at "w"
    refine rd_mod (by rw [List.length_map]; omega) ?_
    rw [List.length_map, show ((i : Int) % ((wB b).length : Nat)) = ((i % (wB b).length : Nat) : Int) from (Int.natCast_emod ..).symm]
    refine rd_ix_lst (d := eWay (wayAt (wB b) i)) (by omega) (by rw [Int.toNat_natCast]; exact wa) ?_
    walk_at "w"
    refine cpW ⟨rfl, self, h, q, s2, kvs1, names, b, out, [], wayAt (wB b) i, [], ?_, rfl, hR3.less (by have := hB.sz; omega), hB, wm, fun s3 kvs3 h3 hR4 => ?_, fun h3 w' => hX ?_ _⟩
    · rw [List.nil_append, List.append_nil]; rfl
    · rw [List.append_nil] at h3
      rw [h3] at e2
      walk_at "w"
      refine ⟨m, by omega, i + 1, s3, kvs3, by omega, ?_, rfl, hR4, e2⟩
      rw [show ((i : Int) + 1) = ((i + 1 : Nat) : Int) by omega]
      rfl
    · rw [List.append_nil] at h3
      rw [← e2, h3]
      rfl
abbrev st_Doing_do_block : Stmt := inClass (top 57) 4
abbrev N_Doing_do_block : List Str := ["self", "block", "way", "at", "statement", "picked", "each"]
theorem sc_Doing_do_block : FnScope N_Doing_do_block ["self", "block", "way", "at"] (defScope st_Doing_do_block) := ⟨rfl, rfl, rfl, by decide +kernel, rfl, by decide +kernel, by decide +kernel⟩

theorem ok_Doing_do_block {k n : Nat} (bl : Blt mg) (F : MethAt K C "do_block" "Doing.do_block" st_Doing_do_block ["self", "block", "way", "at"]) (tl : ExcAt K mg "TooLong" T) (df : DoF K C) (cl : Cls K C) (c_ROWS : HasC K mg "ROWS" cd_ROWS) (h_orders_of : Has P w K mg base CX0 "orders_of" ["many"] k (spOf K T S_orders_of))
    (m_do_row : HasM P w K mg base (L2.CX P w) C "do_row" ["self", "row"] k (spOf K T (S_Doing_do_row C))) (m_do_loop : HasM P w K mg base (L2.CX P w) C "do_loop" ["self", "statement"] k (spOf K T (S_Doing_do_loop C n))) (m_do_block : HasM P w K mg base (L2.CX P w) C "do_block" ["self", "block", "way", "at"] k (spOf K T (S_Doing_do_block C n))) :
    HasM P w K mg base (L2.CX P w) C "do_block" ["self", "block", "way", "at"] (k + 1) (spOf K T (S_Doing_do_block C (n + 1))) := by
  refine methX F sc_Doing_do_block (fun _ _ _ _ h => h.1) fun f cdv A outer s H E tk hr => ?_
  have hu := hu_of hr
  have hu64 := hr.units
  have nd := sc_Doing_do_block.nd
  refine ⟨_, (pss_cons (ps_for (passes_of rfl) rfl (k_walk (K := K) rfl (pv 1)) (pg_name (i := 4) nd rfl (Or.inl rfl))
        (pss_one (ps_if (pt_cmpR (k_in (K := K) rfl hu) (pe_ix (k_ix (K := K) rfl hu) (pv 4) pe_int (fun _ _ => rfl)) (k_glob (K := K) rfl c_ROWS rfl) rfl)
          (pss_one (ps_expr (pe_methH m_do_row cl hr (passX tk) (pv 0) (pa_cons (pv 4) pa_nil))))
          (pss_one (ps_if (pt_cmpR (k_eq (K := K) rfl hu64) (pe_ix (k_ix (K := K) rfl hu) (pv 4) pe_int (fun _ _ => rfl)) pe_str (nomark _))
            (pss_one (ps_expr (pe_methH m_do_loop cl hr (passX tk) (pv 0) (pa_cons (pv 4) pa_nil))))
            (pss_cons (ps_set (i := 5) nd rfl (Or.inl rfl) (pe_tup (pa_cons (pe_ix (k_ix (K := K) rfl hu) (pv 2) (pv 3) (fun _ _ => rfl)) pa_nil)))
            (pss_cons (ps_if (pt_cmpR (k_eq (K := K) rfl hu64) (pe_ix (k_ix (K := K) rfl hu) (pv 4) pe_int (fun _ _ => rfl)) pe_str (nomark _))
              (pss_one (ps_set (i := 5) nd rfl (Or.inl rfl) (pe_ix (k_ix (K := K) rfl hu) (pe_callH h_orders_of hr rfl pass0 (pa_cons (pe_callB (k_len (K := K) rfl) rfl bl.len bt_len (pa_cons (pe_ix (k_ix (K := K) rfl hu) (pv 4) pe_int (fun _ _ => rfl)) pa_nil)) pa_nil)) (pe_ix (k_ix (K := K) rfl hu) (pv 2) (pv 3) (fun _ _ => rfl)) (fun _ _ => rfl))))
              pss_nil)
            (pss_cons (ps_expr (pe_bm PySem.F.plainAttrs_list PySem.F.slot_list_append PySem.F.type_list_append mt_append (k_fld (K := K) rfl (pv 0) rfl) (pa_cons (pe_ix (k_ix (K := K) rfl hu) (pv 2) (pv 3) (fun _ _ => rfl)) pa_nil)))
            (pss_cons (ps_set (i := 3) nd rfl (Or.inl rfl) (pe_op (k_plus (K := K) rfl) (pv 3) pe_int))
            (pss_one (ps_for (passes_of rfl) rfl (k_walk (K := K) rfl (pv 5)) (pg_name (i := 6) nd rfl (Or.inl rfl))
              (pss_one (ps_set (i := 3) nd rfl (Or.inl rfl) (pe_methH m_do_block cl hr (passX tk) (pv 0) (pa_cons (pe_ix (k_ix (K := K) rfl hu) (pe_ix (k_ix (K := K) rfl hu) (pv 4) pe_int (fun _ _ => rfl)) (pv 6) (fun _ _ => rfl)) (pa_cons (pv 2) (pa_cons (pv 3) pa_nil)))))))))))))))))
      (pss_one (ps_ret (pv 3)))), ?_⟩
  rintro ds w P X ⟨-, self, h, q, s, kvs, names, b, out, pre, ws, post, rfl, rfl, hR, hB, hws, hP, hX⟩
  walk_at "w"
  refine wi_anyT ?_
  walk_at "w"
  refine ⟨_, rfl, fun _ => trivial, ?_⟩
  refine turns_ind (A := Sn × List (Str × D) × Way × Way × Blk) (fun z ds rhGr w' => ds = ePB z.2.2.2.2 ∧ Bk names (n + 1) z.2.2.2.2 ∧ z.2.2.2.1 ∈ wB z.2.2.2.2 ∧ z.2.2.1 ++ z.2.2.2.1 = pre ++ ws ∧ runB z.2.2.2.2 z.1 (z.2.2.2.1 ++ post) = runB b s (ws ++ post) ∧ Res names (out + szB z.2.2.2.2) z.1 z.2.1 ∧
    (∃ v4 v5 v6, rhGr = [some (.adr self), some (.tup (ePB b)), some (eWay (pre ++ ws ++ post)), some (.int z.2.2.1.length), v4, v5, v6]) ∧ w' = dO C self h q z.1 z.2.1) ?_ ?_ (s, kvs, pre, ws, b) ⟨rfl, hB, hws, rfl, rfl, hR, ⟨none, none, none, rfl⟩, rfl⟩
  · rintro ⟨s1, kvs1, pr, wz, rest⟩ rhGr w' ⟨h1, h2, h3, h4, h5, h6, ⟨v4, v5, v6, rfl⟩, rfl⟩
    cases rest with
    | cons st rest => simp [ePB] at h1
    | nil =>
      have e1 : wz = [] := by simpa [wB] using h3
      subst e1
      have e2 : pr = pre ++ ws := by rw [← h4]; simp
      subst e2
      walk_at "w"
      have h5' : runB .nil s1 post = runB b s (ws ++ post) := h5
      rw [runB_nil] at h5'
      exact hP s1 kvs1 h5'.symm (h6.less (by omega))
  · rintro ⟨s1, kvs1, pr, wz, rest⟩ x xs rhGr w' ⟨h1, h2, h3, h4, h5, h6, ⟨v4, v5, v6, rfl⟩, rfl⟩
    cases rest with
    | nil => simp [ePB] at h1
    | cons st rest =>
      have h1' : x :: xs = ePS st :: ePB rest := by rw [h1]; simp [ePB]
      obtain ⟨rfl, rfl⟩ := List.cons.inj h1'
      have h3' : wz ∈ both (wS st) (wB rest) := by simpa [wB] using h3
      obtain ⟨x, hx, y, hy, rfl⟩ := both_mem.mp h3'
      obtain ⟨f1, f2, f3, f4⟩ := h2
      obtain ⟨s1', s2'⟩ : ShS st ∧ ShB rest := by simpa [ShB] using f1
      obtain ⟨r1, r2⟩ : RuS names st ∧ RuB names rest := by simpa [RuB] using f2
      have d1 : dS st < n + 1 ∧ dB rest < n + 1 := by simp only [dB] at f3; omega
      have z1 : szS st + szB rest ≤ 100 := by simpa [szB] using f4
      have hBr : Bk names (n + 1) rest := ⟨s2', r2, d1.2, by omega⟩
      have h6' : Res names (out + szB rest + szS st) s1 kvs1 := h6.less (by show _ ≤ out + szB (.cons st rest); simp only [szB]; omega)
      have h4' : (pr ++ x) ++ y = pre ++ ws := by rw [List.append_assoc]; exact h4
      have h5' : (runS st s1 (x ++ (y ++ post))).bind (fun p => runB rest p.1 p.2) = runB b s (ws ++ post) := by rw [← runB_cons, ← List.append_assoc]; exact h5
      have fin : ∀ (v4 v5 v6 : Option D) (s2 : Sn) (kvs2 : List (Str × D)) (rhGr2 : Sl) (w2 : Own), runS st s1 (x ++ (y ++ post)) = some (s2, y ++ post) → Res names (out + szB rest) s2 kvs2 → rhGr2 = [some (.adr self), some (.tup (ePB b)), some (eWay (pre ++ ws ++ post)), some (.int (((pr ++ x).length : Nat) : Int)), v4, v5, v6] → w2 = dO C self h q s2 kvs2 →
        ∃ z : Sn × List (Str × D) × Way × Way × Blk, ePB rest = ePB z.2.2.2.2 ∧ Bk names (n + 1) z.2.2.2.2 ∧ z.2.2.2.1 ∈ wB z.2.2.2.2 ∧ z.2.2.1 ++ z.2.2.2.1 = pre ++ ws ∧ runB z.2.2.2.2 z.1 (z.2.2.2.1 ++ post) = runB b s (ws ++ post) ∧ Res names (out + szB z.2.2.2.2) z.1 z.2.1 ∧
          (∃ v4 v5 v6, rhGr2 = [some (.adr self), some (.tup (ePB b)), some (eWay (pre ++ ws ++ post)), some (.int z.2.2.1.length), v4, v5, v6]) ∧ w2 = dO C self h q z.1 z.2.1 := by
        rintro v4 v5 v6 s2 kvs2 rhGr2 w2 g1 g2 rfl rfl
        exact ⟨(s2, kvs2, pr ++ x, y, rest), rfl, hBr, hy, h4', by rw [← h5', g1]; rfl, g2, ⟨_, _, _, rfl⟩, rfl⟩
      cases st with
      | row r =>
        have ex : x = [] := by simpa [wS] using hx
        subst ex
        rw [List.append_nil] at fin
        rw [List.nil_append, runS_row] at fin h5'
        have hr' : RowN names r := by simpa [RuS] using r1
        have ep : ePS (.row r) = eR r := by simp [ePS]
        have call : CP (S_Doing_do_row C) [.adr self, eR r] (dO C self h q s1 kvs1) (fun _ w2 => ∃ s2 kvs2, doRow s1 r = some s2 ∧ Res names (out + szB rest) s2 kvs2 ∧ w2 = dO C self h q s2 kvs2) X := by
          refine cpW ⟨rfl, self, h, q, s1, kvs1, names, r, out + szB rest, rfl, rfl, h6'.less (by omega), hr', fun s2 kvs2 g1 g2 => ⟨s2, kvs2, g1, g2, rfl⟩, fun g1 w' => hX (by rw [← h5', g1]; rfl) _⟩
        have callM : ∀ {Q : D → Own → Prop}, (∀ s2 kvs2, doRow s1 r = some s2 → Res names (out + szB rest) s2 kvs2 → Q .non (dO C self h q s2 kvs2)) → CP (S_Doing_do_row C) [.adr self, eR r] (dO C self h q s1 kvs1) Q X := fun hq => by
          refine cpW ⟨rfl, self, h, q, s1, kvs1, names, r, out + szB rest, rfl, rfl, h6'.less (by omega), hr', fun s2 kvs2 g1 g2 => hq s2 kvs2 g1 g2, fun g1 w' => hX (by rw [← h5', g1]; rfl) _⟩
        rw [ep]
        cases r with
        | add z ts =>
          walk_at "w"
          refine we_meth rfl rfl ?_
          walk_at "w"
          refine ⟨self, 1, _, rfl, rfl, rfl, ?_⟩
          walk_at "w"
          exact callM fun s2 kvs2 g1 g2 => fin _ _ _ s2 kvs2 _ _ (by rw [g1]; rfl) g2 rfl rfl
        | lift z ts =>
          walk_at "w"
          refine we_meth rfl rfl ?_
          walk_at "w"
          refine ⟨self, 1, _, rfl, rfl, rfl, ?_⟩
          walk_at "w"
          exact callM fun s2 kvs2 g1 g2 => fin _ _ _ s2 kvs2 _ _ (by rw [g1]; rfl) g2 rfl rfl
        | set z ts =>
          walk_at "w"
          refine we_meth rfl rfl ?_
          walk_at "w"
          refine ⟨self, 1, _, rfl, rfl, rfl, ?_⟩
          walk_at "w"
          exact callM fun s2 kvs2 g1 g2 => fin _ _ _ s2 kvs2 _ _ (by rw [g1]; rfl) g2 rfl rfl
      | call z => simp [ShS] at s1'
      | loop z c =>
        have ex : x = [] := by simpa [wS] using hx
        subst ex
        rw [List.append_nil] at fin
        rw [List.nil_append, runS_loop] at fin h5'
        obtain ⟨k1, k2, k3⟩ : c.len ≤ 40 ∧ Gd (wB c) ∧ ShB c := by simpa [ShS] using s1'
        obtain ⟨q1, q2⟩ : z ∈ names ∧ RuB names c := by simpa [RuS] using r1
        have dx : dB c + 1 < n + 1 := by simpa [dS] using d1.1
        have zx : szB c + 1 + szB rest ≤ 100 := by simpa [szS] using z1
        have callM : ∀ {Q : D → Own → Prop}, (∀ s2 kvs2, runL z c s1 = some s2 → Res names (out + szB rest) s2 kvs2 → Q .non (dO C self h q s2 kvs2)) → CP (S_Doing_do_loop C n) [.adr self, ePS (.loop z c)] (dO C self h q s1 kvs1) Q X := fun hq => by
          refine cpW ⟨rfl, self, h, q, s1, kvs1, names, z, c, out + szB rest, rfl, rfl, h6'.less (by simp only [szS]; omega), q1, ⟨k3, q2, by omega, by omega⟩, k2, fun s2 kvs2 g1 g2 => hq s2 kvs2 g1 g2, fun g1 w' => hX (by rw [← h5', g1]; rfl) _⟩
        have ep : ePS (.loop z c) = .tup [.str "loop", .str z, .tup (ePB c), eWays (wB c)] := by simp [ePS]
        rw [ep] at callM ⊢
        walk_at "w"
        refine we_meth rfl rfl ?_
        walk_at "w"
        refine ⟨self, 1, _, rfl, rfl, rfl, ?_⟩
        walk_at "w"
        exact callM fun s2 kvs2 g1 g2 => fin _ _ _ s2 kvs2 _ _ (by rw [g1]; rfl) g2 rfl rfl
      | alt o bs =>
        obtain ⟨k1, k2, k3⟩ : 2 ≤ bs.len ∧ bs.len ≤ 3 ∧ ShBs bs := by simpa [ShS] using s1'
        have hn : bs.len = 2 ∨ bs.len = 3 := by omega
        obtain ⟨kk, v, os, rfl, eos, hlt, hsq, hsum, hord⟩ := alt_split hn hx
        have ru : RuLs names bs := by simpa [RuS] using r1
        have dx : dBs bs + 1 < n + 1 := by simpa [dS] using d1.1
        have zx : szLs bs + 1 + szB rest ≤ 100 := by simpa [szS] using z1
        have ep : ePS (.alt o bs) = .tup [.str (eW o), .tup (ePBs bs)] := by simp [ePS]
        have er : runS (.alt o bs) s1 (kk :: v ++ (y ++ post)) = seqO (runLs bs) os (s1.pick (kk : Nat)) (v ++ (y ++ post)) := by rw [eos]; exact runS_alt o bs s1 kk _
        rw [er] at fin h5'
        have hway : pre ++ ws ++ post = pr ++ (kk :: (v ++ y)) ++ post := by rw [← h4']; simp
        have hat : ((pre ++ ws ++ post).map fun (k : Nat) => D.int (k : Int))[((pr.length : Nat) : Int).toNat]? = some (.int (kk : Nat)) := by rw [hway]; exact way_at pr (v ++ y) post kk
        have h7 := (h6'.less (out' := out + szB rest + sumO bs os + 1) (by simp only [szS]; omega)).pick (kk : Nat)
        have eo : (dO C self h q s1 kvs1).set 2 (q, .lst (s1.pk.map D.int ++ [.int (kk : Nat)])) = dO C self h q (s1.pick (kk : Nat)) kvs1 := by
          show [_, _, (q, D.lst (s1.pk.map D.int ++ [.int (kk : Nat)]))] = [_, _, (q, D.lst ((s1.pk ++ [((kk : Nat) : Int)]).map D.int))]
          rw [List.map_append]; rfl
        have hpl : (s1.pk.map D.int).length < 10000000 := by rw [List.length_map]; have := h6'.bd; have := h6'.n; omega
        have inner : ∀ vv6 : Option D, WS ⟨K, E, T, X⟩ (tFor (iAny K (tVar 5)) (gName 6) (tAsg (tMeth C "do_block" (spOf K T (S_Doing_do_block C n)) [] E (tVar 0) (tCons (tOp (rIxX K) (tOp (rIxX K) (tVar 4) (tC (.int 1))) (tVar 6)) (tCons (tVar 2) (tCons (tVar 3) tNil)))) (gName 3)))
            [some (.adr self), some (.tup (ePB b)), some (eWay (pre ++ ws ++ post)), some (.int ((pr.length : Int) + 1)), some (.tup [.str (eW o), .tup (ePBs bs)]), some (eWay os), vv6] (dO C self h q (s1.pick (kk : Nat)) kvs1)
            (fun oo => ∃ s2 kvs2 v6, oo = .nx [some (.adr self), some (.tup (ePB b)), some (eWay (pre ++ ws ++ post)), some (.int (((pr ++ kk :: v).length : Nat) : Int)), some (.tup [.str (eW o), .tup (ePBs bs)]), some (eWay os), v6] (dO C self h q s2 kvs2) ∧ seqO (runLs bs) os (s1.pick (kk : Nat)) (v ++ (y ++ post)) = some (s2, y ++ post) ∧ Res names (out + szB rest) s2 kvs2) := by
          intro vv6
          walk_at "w"
          refine wi_anyT ?_
          walk_at "w"
          refine ⟨_, rfl, fun _ => trivial, ?_⟩
          refine turns_ind (A := Sn × List (Str × D) × Way × Way × List Nat) (fun z ds rhGr w' => ds = z.2.2.2.2.map (fun k : Nat => D.int (k : Int)) ∧ (∀ i ∈ z.2.2.2.2, i < bs.len) ∧ Seqs (wLs bs) z.2.2.2.2 z.2.2.2.1 ∧ z.2.2.1 ++ z.2.2.2.1 = pr ++ kk :: v ∧ seqO (runLs bs) z.2.2.2.2 z.1 (z.2.2.2.1 ++ (y ++ post)) = seqO (runLs bs) os (s1.pick (kk : Nat)) (v ++ (y ++ post)) ∧ Res names (out + szB rest + sumO bs z.2.2.2.2) z.1 z.2.1 ∧
            (∃ v6, rhGr = [some (.adr self), some (.tup (ePB b)), some (eWay (pre ++ ws ++ post)), some (.int z.2.2.1.length), some (.tup [.str (eW o), .tup (ePBs bs)]), some (eWay os), v6]) ∧ w' = dO C self h q z.1 z.2.1) ?_ ?_ (s1.pick (kk : Nat), kvs1, pr ++ [kk], v, os) ⟨rfl, hlt, hsq, by simp, rfl, h7, ⟨_, by simp; rfl⟩, rfl⟩
          · rintro ⟨s3, kvs3, p3, v3, o3⟩ rhGr w' ⟨g1, g2, g3, g4, g5, g6, ⟨v6, rfl⟩, rfl⟩
            cases o3 with
            | cons i o3 => cases g1
            | nil =>
              have e1 : v3 = [] := g3
              subst e1
              have e2 : p3 = pr ++ kk :: v := by rw [← g4]; simp
              subst e2
              exact ⟨s3, kvs3, v6, rfl, g5.symm, g6.less (by omega)⟩
          · rintro ⟨s3, kvs3, p3, v3, o3⟩ x xs rhGr w' ⟨g1, g2, g3, g4, g5, g6, ⟨v6, rfl⟩, rfl⟩
            cases o3 with
            | nil => cases g1
            | cons i o3 =>
              obtain ⟨rfl, rfl⟩ := List.cons.inj g1
              have hi := g2 i (by simp)
              obtain ⟨c, hc⟩ := get_lt bs i hi
              obtain ⟨x, hx, y3, hy3, rfl⟩ := g3
              have hx2 : x ∈ wB c := by
                rw [List.getD_eq_getElem?_getD, wLs_get, hc] at hx
                exact hx
              have hso : sumO bs (i :: o3) = szB c + sumO bs o3 := by simp [sumO, hc]
              have hzc := szLs_get _ i _ hc
              have hdc := dBs_get _ i _ hc
              have g4' : (p3 ++ x) ++ y3 = pr ++ kk :: v := by rw [List.append_assoc]; exact g4
              have hw2 : pre ++ ws ++ post = p3 ++ x ++ (y3 ++ (y ++ post)) := by
                rw [hway, show pr ++ (kk :: (v ++ y)) ++ post = (pr ++ kk :: v) ++ (y ++ post) by simp, ← g4']
                simp
              have g5' : (runB c s3 (x ++ (y3 ++ (y ++ post)))).bind (fun p => seqO (runLs bs) o3 p.1 p.2) = seqO (runLs bs) os (s1.pick (kk : Nat)) (v ++ (y ++ post)) := by
                rw [← g5]
                show _ = (((runLs bs).getD i fun _ _ => none) s3 (x ++ y3 ++ (y ++ post))).bind _
                rw [runLs_get, hc, List.append_assoc]
              have g6' : Res names (out + szB rest + sumO bs o3 + szB c) s3 kvs3 := g6.less (by rw [hso]; omega)
              walk_at "w"
              refine we_meth rfl rfl ?_
              walk_at "w"
              refine ⟨self, 1, _, rfl, rfl, rfl, ?_⟩
              walk_at "w"
              refine rd_ix_tup (d := .tup (ePB c)) (by omega) (by rw [Int.toNat_natCast, ePBs_get, hc]; rfl) ?_
              walk_at "w"
              refine cpW ⟨rfl, self, h, q, s3, kvs3, names, c, out + szB rest + sumO bs o3, p3, x, y3 ++ (y ++ post), by rw [← hw2], rfl, g6', ⟨(ShBs_at _ i _ hc k3).2, RuLs_get _ i _ hc ru, by omega, by omega⟩, hx2, fun s4 kvs4 q1 q2 => ?_, fun q1 w' => hX (by rw [← h5', ← g5', q1]; rfl) _⟩
              refine ⟨(s4, kvs4, p3 ++ x, y3, o3), rfl, fun z hz => g2 z (List.mem_cons_of_mem _ hz), hy3, g4', by rw [← g5', q1]; rfl, q2, ⟨_, rfl⟩, rfl⟩
        rw [ep]
        cases o with
        | true =>
          have hord' := hord rfl
          walk_at "w"
          refine rd_ix_tup (by omega) hat ?_
          walk_at "w"
          rw [ePBs_len]
          refine cs0 ⟨rfl, bs.len, rfl, hn, ?_⟩
          walk_at "w"
          refine rd_ix_tup (by omega) hat ?_
          refine rd_ix_tup (d := eWay os) (by omega) (by rw [Int.toNat_natCast, List.getElem?_map, hord']; rfl) ?_
          walk_at "w"
          refine we_append (we_fldO ?_)
          walk_at "w"
          refine ⟨self, 1, C, _, _, rfl, rfl, df.cl, df.picks, rfl, q, rfl, ⟨2, _, rfl⟩, ?_⟩
          walk_at "w"
          refine rd_ix_tup (by omega) hat ?_
          refine ⟨2, _, rfl, hpl, ?_⟩
          refine WS.own eo ?_
          refine ws_seq (ws_asg (we_op (we_var rfl (we_int (rd_plus_int ?_)))))
          refine (inner _).imp ?_
          rintro oo ⟨s2, kvs2, v6', rfl, g1, g2⟩
          exact fin _ _ _ s2 kvs2 _ _ g1 g2 rfl rfl
        | false =>
          walk_at "w"
          refine rd_ix_tup (by omega) hat ?_
          walk_at "w"
          refine we_append (we_fldO ?_)
          walk_at "w"
          refine ⟨self, 1, C, _, _, rfl, rfl, df.cl, df.picks, rfl, q, rfl, ⟨2, _, rfl⟩, ?_⟩
          walk_at "w"
          refine rd_ix_tup (by omega) hat ?_
          refine ⟨2, _, rfl, hpl, ?_⟩
          have eos2 : os = [kk] := eos
          rw [eos2] at inner fin
          refine WS.own eo ?_
          refine ws_seq (ws_asg (we_op (we_var rfl (we_int (rd_plus_int ?_)))))
          refine (inner _).imp ?_
          rintro oo ⟨s2, kvs2, v6', rfl, g1, g2⟩
          exact fin _ _ _ s2 kvs2 _ _ g1 g2 rfl rfl
end
end Hw
/-! HwS -/
namespace Hw
def eNu (names : List Str) (nuGr : Str → Int) : List (Str × D) := names.map fun x => (x, .int (nuGr x))
def S_check_starts (C : Addr) : DSpec := fun ds w P _ => ds.length = 2 ∧ ∃ (names : List Str) (W : Wd) (b : Blk) (siGr : List (Str × D)) (nuGr : Str → Int), ds = [eProg C names W b, .dct siGr] ∧ Nu siGr names nuGr ∧ NuB names nuGr ∧ siGr.length = names.length ∧ P .non w
def S_in_order (C : Addr) : DSpec := fun ds w P _ => ds.length = 2 ∧ ∃ (names : List Str) (W : Wd) (b : Blk) (h : Addr) (kvs : List (Str × D)) (nuGr : Str → Int), ds = [eProg C names W b, .adr h] ∧ w = [(h, .dct kvs)] ∧ Nu kvs names nuGr ∧ names.Nodup ∧ names.length ≤ 4 ∧ ∀ p, P (.adr p) [(h, .dct kvs), (p, .dct (eNu names nuGr))]
def S_Doing___init__ (C : Addr) : DSpec := fun ds w P _ => ds.length = 2 ∧ ∃ (self : Addr) (siGr : List (Str × D)) (nuGr : Str → Int), ds = [.adr self, .dct siGr] ∧ w = [(self, .ins C [])] ∧ ∀ h q, P .non (dO C self h q ⟨nuGr, 0, []⟩ siGr)
structure FrOk (W : Wd) (e : En) (n : Nat) (names : List Str) (b : Blk) (v : Way) (siGr : List (Str × D)) (nuGr : Str → Int) : Prop where
  GaGr : e.GaGr = W.held
  en : EnOk e
  fo : Fo e n b
  v : v ∈ wB (woB e.f b)
  bk : Bk names n (woB e.f b)
  nu : Nu siGr names nuGr
  nb : NuB names nuGr
  sl : siGr.length = names.length
  nd : names.Nodup
  nl : names.length ≤ 4
def S_full_run (C : Addr) (n : Nat) : DSpec := fun ds w P X => ds.length = 3 ∧ ∃ (names : List Str) (W : Wd) (b : Blk) (e : En) (v : Way) (siGr : List (Str × D)) (nuGr : Str → Int), ds = [eProg C names W b, eWay v, .dct siGr] ∧ w = [] ∧ FrOk W e n names b v siGr nuGr ∧
  (∀ s', runB (woB e.f b) ⟨nuGr, 0, []⟩ v = some (s', []) → NuB names s'.nuGr → ∀ p q, P (.tup [.adr p, .adr q]) [(p, .dct (eNu names s'.nuGr)), (q, .lst (s'.pk.map D.int))]) ∧ (runB (woB e.f b) ⟨nuGr, 0, []⟩ v = none → ∀ w', X w')
section
variable {P : Program} {w : World} {K : PySem.W.Frag} {mg : Str → Option Value} {base : Heap} {T C Cd : Addr}
abbrev st_check_starts : Stmt := top 52
abbrev N_check_starts : List Str := ["program", "starts", "name"]
theorem sc_check_starts : FnScope N_check_starts ["program", "starts"] (defScope st_check_starts) := ⟨rfl, rfl, rfl, by decide +kernel, rfl, by decide +kernel, by decide +kernel⟩

theorem ok_check_starts {k : Nat} (cl : Cls K C) (na1 : NoAttr K C "names") (bl : Blt mg) (F : DefAt K mg "check_starts" st_check_starts ["program", "starts"]) (h_is_integer : Has P w K mg base CX0 "is_integer" ["thing"] k (spOf K T S_is_integer)) : Has P w K mg base CX0 "check_starts" ["program", "starts"] (k + 1) (spOf K T (S_check_starts C)) := by
  refine defD F sc_check_starts (fun _ _ _ _ h => h.1) fun f cdv A outer s H E hr => ?_
  have hu := hu_of hr
  have hu64 := hr.units
  have nd := sc_check_starts.nd
  refine ⟨_, (pss_cons (ps_if (PW.pt (pw_or (pt_not (pt_val (pe_callB (k_isi (K := K) rfl) rfl bl.isinstance bt_isinstance (pa_cons (pv 1) (pa_cons (pe_bltn (v := .ty "dict") rfl bl.dict bt_dict rfl) pa_nil))))) (pw_or1 (pt_cmpR (k_ne (K := K) rfl hu64) (pe_callB (k_len (K := K) rfl) rfl bl.len bt_len (pa_cons (pv 1) pa_nil)) (pe_callB (k_len (K := K) rfl) rfl bl.len bt_len (pa_cons (k_fld (K := K) rfl (pv 0) rfl) pa_nil)) (nomark _)))))
        (pss_one ps_dead)
        pss_nil)
      (pss_one (ps_for PassesOwn.never rfl (k_walk (K := K) rfl (k_fld (K := K) rfl (pv 0) rfl)) (pg_name (i := 2) nd rfl (Or.inl rfl))
        (pss_one (ps_if (PW.pt (pw_or (pt_cmpR (k_notIn (K := K) rfl hu) (pv 2) (pv 1) rfl) (pw_or (pt_not (pt_val (pe_callH h_is_integer hr rfl pass0 (pa_cons (pe_ix (k_ix (K := K) rfl hu) (pv 1) (pv 2) (fun _ _ => rfl)) pa_nil)))) (pw_or1 (pt_cmpR (k_lt (K := K) rfl hu64) (pe_ix (k_ix (K := K) rfl hu) (pv 1) (pv 2) (fun _ _ => rfl)) pe_int (nomark _))))))
          (pss_one ps_dead)
          pss_nil))))), ?_⟩
  rintro ds w P X ⟨-, names, W, b, siGr, nuGr, rfl, hN, hB, hl, hP⟩
  walk_at "w"
  refine rc_len_dct ?_
  walk_at "w"
  refine we_fld ?_
  walk_at "w"
  refine ⟨C, _, _, rfl, cl, na1, rfl, ?_⟩
  walk_at "w"
  rw [show (nms names).length = names.length from List.length_map ..]
  refine rd_ne_int ?_
  rw [hl, decide_eq_true rfl]
  walk_at "w"
  refine wi_anyT (we_fld ?_)
  walk_at "w"
  refine ⟨C, _, _, rfl, cl, na1, rfl, _, rfl, fun _ => trivial, ?_⟩
  refine turns_ind (A := List Str) (fun s ds rhGr w' => ds = nms s ∧ (∀ x ∈ s, x ∈ names) ∧ (∃ v2, rhGr = [some (eProg C names W b), some (.dct siGr), v2]) ∧ w' = w) ?_ ?_ names ⟨rfl, fun _ h => h, ⟨none, rfl⟩, rfl⟩
  · rintro s rhGr w' ⟨h1, h2, ⟨v2, rfl⟩, rfl⟩
    exact hP
  · rintro s x xs rhGr w' ⟨h1, h2, ⟨v2, rfl⟩, rfl⟩
    cases s with
    | nil => cases h1
    | cons y s =>
      obtain ⟨rfl, rfl⟩ := List.cons.inj h1
      have hy := h2 y (by simp)
      have ha := hN.at_ y hy
      have hb := (hB y hy).1
      walk_at "w"
      refine rd_notin_dct ?_
      rw [ha]
      walk_at "w"
      refine rd_ix_dct ha ?_
      walk_at "w"
      refine cs0 ⟨rfl, nuGr y, rfl, ?_⟩
      walk_at "w"
      refine rd_ix_dct ha ?_
      walk_at "w"
      refine rd_lt_int_f (by omega) ?_
      walk_at "w"
      exact ⟨s, rfl, fun z hz => h2 z (List.mem_cons_of_mem _ hz), ⟨_, rfl⟩, rfl⟩
abbrev st_in_order : Stmt := top 54
abbrev N_in_order : List Str := ["program", "numbers", "name"]
theorem sc_in_order : FnScope N_in_order ["program", "numbers"] (defScope st_in_order) := ⟨rfl, rfl, rfl, by decide +kernel, rfl, by decide +kernel, by decide +kernel⟩

theorem ok_in_order {k : Nat} (cl : Cls K C) (na1 : NoAttr K C "names") (bl : Blt mg) (F : DefAt K mg "in_order" st_in_order ["program", "numbers"]) : Has P w K mg base CX0 "in_order" ["program", "numbers"] (k + 1) (spOf K T (S_in_order C)) := by
  refine defD F sc_in_order (fun _ _ _ _ h => h.1) fun f cdv A outer s H E hr => ?_
  have hu := hu_of hr
  have hu64 := hr.units
  have nd := sc_in_order.nd
  refine ⟨_, (pss_one (ps_ret (pe_dc (own := [("name", 2)]) (g := gName 2) (tt := tYes) rfl nd (k_walk (K := K) rfl (k_fld (K := K) rfl (pv 0) rfl)) (blkOk_by (N := N_in_order) (sc := defScope st_in_order) (by decide +kernel)) (fun _ _ _ _ _ => pg_name (i := 2) nd rfl (Or.inl rfl)) (fun _ _ _ _ _ => pts_nil) (fun _ _ _ _ _ => (pv 2)) (fun _ _ _ _ _ => (pe_ix (k_ix (K := K) rfl hu) (pv 1) (pv 2) (fun _ _ => rfl)))))), ?_⟩
  rintro ds w P X ⟨-, names, W, b, h, kvs, nuGr, rfl, rfl, hN, hnd, hnl, hP⟩
  refine ws_ret (we_dc (Nat.le_of_ble_eq_true rfl) (wi_anyT (we_fld ?_)))
  walk_at "w"
  refine ⟨C, _, _, rfl, cl, na1, rfl, _, rfl, names, fun x => .int (nuGr x), rfl, hnd, by omega, fun _ => trivial, ?_, ?_⟩
  · intro x hx
    walk_at "w"
    exact rd_ix_dctO 0 rfl (hN.at_ x hx) ⟨rfl, rfl⟩
  · exact hP
abbrev st_Doing___init__ : Stmt := inClass (top 57) 0
abbrev N_Doing___init__ : List Str := ["self", "starts"]
theorem sc_Doing___init__ : FnScope N_Doing___init__ ["self", "starts"] (defScope st_Doing___init__) := ⟨rfl, rfl, rfl, by decide +kernel, rfl, by decide +kernel, by decide +kernel⟩

theorem ok_Doing___init__ {k : Nat} (bl : Blt mg) (F : InitAt K mg C "Doing" "Doing.__init__" st_Doing___init__ ["self", "starts"]) (df : DoF K C) (h_greatest_number : Has P w K mg base CX0 "greatest_number" [] k (spOf K T S_greatest_number)) : HasI P w K mg base CX0 C "Doing" ["self", "starts"] (k + 1) (spOf K T (S_Doing___init__ C)) := by
  refine initD F sc_Doing___init__ (fun _ _ _ _ h => h.1) fun f cdv A outer s H E hr => ?_
  have hu := hu_of hr
  have hu64 := hr.units
  have nd := sc_Doing___init__.nd
  refine ⟨_, (pss_cons (k_sfld (K := K) rfl (pv 0) (pe_callTy call_dictD rfl bl.dict bt_dict (pa_cons (pv 1) pa_nil)) rfl)
      (pss_cons (k_sfld (K := K) rfl (pv 0) pe_int rfl)
      (pss_cons (k_sfld (K := K) rfl (pv 0) (pe_lst pa_nil) rfl)
      (pss_one (k_sfld (K := K) rfl (pv 0) (pe_callH0 h_greatest_number hr rfl pass0) rfl))))), ?_⟩
  rintro ds w P X ⟨-, self, siGr, nuGr, rfl, rfl, hP⟩
  walk_at "w"
  refine rc_dictO ?_
  intro h
  walk_at "w"
  refine ⟨self, 0, C, _, rfl, rfl, df.cl, df.held, Nat.le_of_ble_eq_true rfl, ?_⟩
  walk_at "w"
  refine ⟨self, 0, C, _, rfl, rfl, df.cl, df.count, Nat.le_of_ble_eq_true rfl, ?_⟩
  walk_at "w"
  refine we_lstO ?_
  walk_at "w"
  intro q
  walk_at "w"
  refine ⟨self, 0, C, _, rfl, rfl, df.cl, df.picks, Nat.le_of_ble_eq_true rfl, ?_⟩
  refine WS.perm (w' := [(h, .dct siGr), (self, .ins C [("held", .adr h), ("count", .int 0), ("picks", .adr q)]), (q, .lst [])]) ?_ (List.Perm.swap ..)
  walk_at "w"
  refine cs0 ⟨rfl, rfl, ?_⟩
  walk_at "w"
  refine ⟨self, 1, C, _, rfl, rfl, df.cl, df.most, Nat.le_of_ble_eq_true rfl, ?_⟩
  exact hP h q
abbrev st_full_run : Stmt := top 58
abbrev N_full_run : List Str := ["program", "way", "starts", "doing"]
theorem sc_full_run : FnScope N_full_run ["program", "way", "starts"] (defScope st_full_run) := ⟨rfl, rfl, rfl, by decide +kernel, rfl, by decide +kernel, by decide +kernel⟩

theorem ok_full_run {k n : Nat} (bl : Blt mg) (F : DefAt K mg "full_run" st_full_run ["program", "way", "starts"]) (clp : Cls K C) (na2 : NoAttr K C "held") (na3 : NoAttr K C "main") (df : DoF K Cd) (cl : Cls K Cd)
    (h_is_way : Has P w K mg base CX0 "is_way" ["program", "thing"] k (spOf K T (S_is_way C n))) (h_check_starts : Has P w K mg base CX0 "check_starts" ["program", "starts"] k (spOf K T (S_check_starts C))) (i_Doing : HasI P w K mg base CX0 Cd "Doing" ["self", "starts"] k (spOf K T (S_Doing___init__ Cd)))
    (m_do_block : HasM P w K mg base (L2.CX P w) Cd "do_block" ["self", "block", "way", "at"] (k + 1) (spOf K T (S_Doing_do_block Cd n))) (h_prepared : Has P w K mg base CX0 "prepared" ["block"] (k + 1) (spOf K T (S_prepared n))) (h_written_out : Has P w K mg base CX0 "written_out" ["block", "bodies"] (k + 1) (spOf K T (S_written_out n))) (h_in_order : Has P w K mg base CX0 "in_order" ["program", "numbers"] (k + 1) (spOf K T (S_in_order C))) :
    Has P w K mg base (L2.CX P w) "full_run" ["program", "way", "starts"] (k + 2) (spOf K T (S_full_run C n)) := by
  replace h_is_way := h_is_way.mono (Nat.le_succ k)
  replace h_check_starts := h_check_starts.mono (Nat.le_succ k)
  refine defX F sc_full_run (fun _ _ _ _ h => h.1) fun f cdv A outer s H E tk hr => ?_
  have hu := hu_of hr
  have hu64 := hr.units
  have nd := sc_full_run.nd
  refine ⟨_, (pss_cons (ps_if (pt_not (pt_val (pe_callH h_is_way hr rfl pass0 (pa_cons (pv 0) (pa_cons (pv 1) pa_nil)))))
        (pss_one ps_dead)
        pss_nil)
      (pss_cons (ps_expr (pe_callH h_check_starts hr rfl pass0 (pa_cons (pv 0) (pa_cons (pv 2) pa_nil))))
      (pss_cons (ps_set (i := 3) nd rfl (Or.inl rfl) (pe_makeH i_Doing hr rfl pass0 (pa_cons (pv 2) pa_nil)))
      (pss_cons (ps_expr (pe_methH m_do_block cl hr (passX tk) (pv 3) (pa_cons (pe_callH h_prepared hr rfl pass0 (pa_cons (pe_callH h_written_out hr rfl pass0 (pa_cons (k_fld (K := K) rfl (pv 0) rfl) (pa_cons (k_fld (K := K) rfl (pv 0) rfl) pa_nil))) pa_nil)) (pa_cons (pv 1) (pa_cons pe_int pa_nil)))))
      (pss_one (ps_ret (pe_tup (pa_cons (pe_callH h_in_order hr rfl pass0 (pa_cons (pv 0) (pa_cons (k_fld (K := K) rfl (pv 3) rfl) pa_nil))) (pa_cons (k_fld (K := K) rfl (pv 3) rfl) pa_nil))))))))), ?_⟩
  rintro ds w P X ⟨-, names, W, b, e, v, siGr, nuGr, rfl, rfl, hF, hP, hX⟩
  have hfb := hF.fo
  walk_at "w"
  refine cs0 ⟨rfl, names, W, b, e, v, rfl, rfl, hF.GaGr, hF.en, hF.fo, hF.v, ?_⟩
  walk_at "w"
  refine cs0 ⟨rfl, names, W, b, siGr, nuGr, rfl, hF.nu, hF.nb, hF.sl, ?_⟩
  walk_at "w"
  refine we_make ?_
  walk_at "w"
  intro self
  refine cpW ⟨rfl, self, siGr, nuGr, rfl, rfl, fun h q => ⟨rfl, ?_⟩⟩
  walk_at "w"
  refine we_meth rfl rfl ?_
  walk_at "w"
  refine ⟨self, 1, _, rfl, rfl, rfl, ?_⟩
  walk_at "w"
  refine we_fld ?_
  walk_at "w"
  refine ⟨C, _, _, rfl, clp, na3, rfl, ?_⟩
  walk_at "w"
  refine we_fld ?_
  walk_at "w"
  refine ⟨C, _, _, rfl, clp, na2, rfl, ?_⟩
  walk_at "w"
  have hsz := hF.bk.sz
  refine cs0 ⟨rfl, b, e, by rw [hF.GaGr], rfl, hF.en, hfb.ca, hfb.dp, by omega, ?_⟩
  walk_at "w"
  refine cs0 ⟨rfl, woB e.f b, rfl, rfl, hfb.sh, hF.bk.dp, by omega, ?_⟩
  walk_at "w"
  have hR : Res names (0 + szB (woB e.f b)) ⟨nuGr, 0, []⟩ siGr := ⟨hF.nu, hF.nb, by show 0 + (0 + szB (woB e.f b)) ≤ 100 * (0 + 1); omega, Nat.zero_le _, hF.sl⟩
  refine cpW ⟨rfl, self, h, q, ⟨nuGr, 0, []⟩, siGr, names, woB e.f b, 0, [], v, [], by rw [List.nil_append, List.append_nil]; rfl, rfl, hR, hF.bk, hF.v, fun s' kvs' g1 g2 => ?_, fun g1 w' => hX (by rw [List.append_nil] at g1; exact g1) _⟩
  rw [List.append_nil] at g1
  refine ws_ret (we_keep ?_)
  walk_at "w"
  refine we_fldO ?_
  walk_at "w"
  refine ⟨self, 1, Cd, _, _, rfl, rfl, df.cl, df.held, rfl, ?_⟩
  walk_at "w"
  refine cpF (mine := [(h, .dct kvs')]) rfl ⟨rfl, names, W, b, h, kvs', s'.nuGr, rfl, rfl, g2.nu, hF.nd, hF.nl, fun p => ?_⟩
  refine wa_cons (we_fldO ?_)
  walk_at "w"
  refine ⟨self, 2, Cd, _, _, rfl, rfl, df.cl, df.picks, rfl, ?_⟩
  walk_at "w"
  refine ⟨[(p, .dct (eNu names s'.nuGr)), (q, .lst (s'.pk.map D.int))], [(h, .dct kvs'), (self, .ins Cd [("held", .adr h), ("count", .int s'.n), ("picks", .adr q), ("most", .int TOP)])], ?_, hP s' g1 g2.nb p q⟩
  refine (List.Perm.cons _ (List.Perm.cons _ (List.Perm.swap _ _ []))).trans ?_
  refine List.perm_append_comm (l₁ := [_]) |>.trans ?_
  exact (List.Perm.cons _ (List.Perm.cons _ (List.Perm.swap _ _ [])))
end
end Hw
/-! HwAA -/
namespace Hw
def dD (beGr : Str → Ms) (b : Blk) : Int := (joinM (mL beGr b)).d
def mxd (i : Int) (ps : List Ms) : Int := ps.foldl (fun i p => imax i p.d) i
theorem foldl_d : ∀ (ps : List Ms) (m : Ms), (ps.foldl Ms.add m).d = mxd m.d ps
  | [], _ => rfl
  | p :: ps, m => foldl_d ps (m.add p)
theorem joinM_d (ps : List Ms) : (joinM ps).d = mxd 0 ps := foldl_d ps ms0
theorem imax_assoc (i j k : Int) : imax (imax i j) k = imax i (imax j k) := by
  unfold imax
  repeat' split
  all_goals (first | rfl | omega)
theorem imax_mxd : ∀ (ps : List Ms) (i j : Int), mxd (imax i j) ps = imax i (mxd j ps)
  | [], _, _ => rfl
  | p :: ps, i, j => by
    show mxd (imax (imax i j) p.d) ps = imax i (mxd (imax j p.d) ps)
    rw [imax_assoc, imax_mxd ps]
theorem mxd_pos {ps : List Ms} {D : Int} (h : 0 ≤ D) : mxd D ps = imax D (mxd 0 ps) := by
  rw [← imax_mxd]
  congr 1
  unfold imax
  rw [if_neg (by omega)]
theorem mxd_ge : ∀ (ps : List Ms) (D : Int), D ≤ mxd D ps
  | [], _ => Int.le_refl _
  | p :: ps, D => Int.le_trans (le_imax (Int.le_refl D)) (mxd_ge ps (imax D p.d))
def S_law_loops (n : Nat) : DSpec := fun ds w P _ => ds.length = 2 ∧ ∃ (b : Blk) (hp : Addr) (hk : List (Str × D)) (beGr : Str → Ms), ds = [.tup (eB b), .adr hp] ∧ w = [(hp, .dct hk)] ∧ CaB (fun v => lk hk v = some (.int (beGr v).d)) b ∧ dB b < n ∧ P (.int (dD beGr b)) w
def S_law_starts : DSpec := fun ds w P _ => ds.length = 3 ∧ ∃ (p : Addr) (d : Dc) (names : List Str), ds = [.adr p, .tup (nms names), .int 3] ∧ w = dw p d ∧ DcOk d ∧ names.Nodup ∧ names.length ≤ 4 ∧ ∀ (nuGr : Str → Int) d', NuB names nuGr → DcOk d' → P (.dct (eNu names nuGr)) (dw p d')
def S_law_turned : DSpec := fun ds w P _ => ds.length = 2 ∧ ∃ (p : Addr) (d : Dc) (names : List Str) (nuGr : Str → Int), ds = [.adr p, .dct (eNu names nuGr)] ∧ w = dw p d ∧ DcOk d ∧ names.Nodup ∧ names.length ≤ 4 ∧ ∀ (siGr : List (Str × D)) d', Nu siGr names nuGr → siGr.length = names.length → DcOk d' → P (.dct siGr) (dw p d')
def S_law_orders : DSpec := fun ds w P _ => ds.length = 1 ∧ ∃ n : Nat, ds = [.int n] ∧ (n = 2 ∨ n = 3) ∧ P (.lst ((ordN n).map fun o => .lst (o.map fun k : Nat => .int (k : Int)))) w
theorem putD_new {x : Str} {d : D} : ∀ {kvs : List (Str × D)}, ¬ x ∈ kvs.map (·.1) → putD kvs x d = kvs ++ [(x, d)]
  | [], _ => rfl
  | (k, e) :: r, h => by
    simp only [List.map_cons, List.mem_cons, not_or] at h
    unfold putD
    rw [if_neg (fun e => h.1 e.symm), putD_new h.2]; rfl
theorem eNu_keys (names : List Str) (nuGr : Str → Int) : (eNu names nuGr).map (·.1) = names := by unfold eNu; rw [List.map_map]; exact List.map_id _
theorem lk_eNu {nuGr : Str → Int} : ∀ {names : List Str} {x : Str}, x ∈ names → lk (eNu names nuGr) x = some (.int (nuGr x))
  | [], x, h => by cases h
  | y :: ys, x, h => by
    show (if y = x then _ else lk (eNu ys nuGr) x) = _
    by_cases e : y = x
    · rw [if_pos e, e]
    · rw [if_neg e]
      rcases List.mem_cons.mp h with h | h
      · exact absurd h.symm e
      · exact lk_eNu h
theorem eNu_set {nuGr : Str → Int} {x : Str} {v : Int} {names : List Str} (h : x ∉ names) : eNu names (setN nuGr x v) = eNu names nuGr := by
  unfold eNu
  refine List.map_congr_left fun y hy => ?_
  unfold setN
  rw [if_neg (by rintro rfl; exact h hy)]
theorem eNu_app (a b : List Str) (nuGr : Str → Int) : eNu (a ++ b) nuGr = eNu a nuGr ++ eNu b nuGr := by unfold eNu; rw [List.map_append]
theorem TOP3 : (3 : Int) ≤ TOP := by rw [TOP_nat]; exact Int.ofNat_le.mpr (Nat.le_trans (by decide : 3 ≤ 10 ^ 1) (Nat.pow_le_pow_right (by decide) (by decide)))
section
variable {P : Program} {w : World} {K : PySem.W.Frag} {mg : Str → Option Value} {base : Heap} {T : Addr}
abbrev st_law_loops : Stmt := top 80
abbrev N_law_loops : List Str := ["_law_block_here", "_law_held", "_law_deep", "_law_statement_here", "_law_inner"]
theorem sc_law_loops : FnScope N_law_loops ["_law_block_here", "_law_held"] (defScope st_law_loops) := ⟨rfl, rfl, rfl, by decide +kernel, rfl, by decide +kernel, by decide +kernel⟩

theorem ok_law_loops {k : Nat} {n : Nat} (bl : Blt mg) (F : DefAt K mg "_law_loops" st_law_loops ["_law_block_here", "_law_held"]) (h__law_loops : Has P w K mg base CX0 "_law_loops" ["_law_block_here", "_law_held"] k (spOf K T (S_law_loops n))) : Has P w K mg base CX0 "_law_loops" ["_law_block_here", "_law_held"] (k + 1) (spOf K T (S_law_loops (n + 1))) := by
  refine defD F sc_law_loops (fun _ _ _ _ h => h.1) fun f cdv A outer s H E hr => ?_
  have hu := hu_of hr
  have hu64 := hr.units
  have nd := sc_law_loops.nd
  refine ⟨_, (pss_cons (ps_set (i := 2) nd rfl (Or.inl rfl) pe_int)
      (pss_cons (ps_for PassesOwn.never rfl (k_walk (K := K) rfl (pv 0)) (pg_name (i := 3) nd rfl (Or.inl rfl))
        (pss_one (ps_if (pt_cmpR (k_eq (K := K) rfl hu64) (pe_ix (k_ix (K := K) rfl hu) (pv 3) pe_int (fun _ _ => rfl)) pe_str (nomark _))
          (pss_one (ps_set (i := 2) nd rfl (Or.inl rfl) (pe_callB (call_max2 rfl) rfl bl.max bt_max (pa_cons (pv 2) (pa_cons (pe_ix (k_ix (K := K) rfl hu) (pv 1) (pe_ix (k_ix (K := K) rfl hu) (pv 3) pe_int (fun _ _ => rfl)) (fun _ _ => rfl)) pa_nil)))))
          (pss_one (ps_if (pt_cmpR (k_eq (K := K) rfl hu64) (pe_ix (k_ix (K := K) rfl hu) (pv 3) pe_int (fun _ _ => rfl)) pe_str (nomark _))
            (pss_one (ps_set (i := 2) nd rfl (Or.inl rfl) (pe_callB (call_max2 rfl) rfl bl.max bt_max (pa_cons (pv 2) (pa_cons (pe_op (k_plus (K := K) rfl) pe_int (pe_callH h__law_loops hr rfl pass0 (pa_cons (pe_ix (k_ix (K := K) rfl hu) (pv 3) pe_int (fun _ _ => rfl)) (pa_cons (pv 1) pa_nil)))) pa_nil)))))
            (pss_one (ps_if (PW.pt (pw_or (pt_cmpR (k_eq (K := K) rfl hu64) (pe_ix (k_ix (K := K) rfl hu) (pv 3) pe_int (fun _ _ => rfl)) pe_str (nomark _)) (pw_or1 (pt_cmpR (k_eq (K := K) rfl hu64) (pe_ix (k_ix (K := K) rfl hu) (pv 3) pe_int (fun _ _ => rfl)) pe_str (nomark _)))))
              (pss_one (ps_for PassesOwn.never rfl (k_walk (K := K) rfl (pe_ix (k_ix (K := K) rfl hu) (pv 3) pe_int (fun _ _ => rfl))) (pg_name (i := 4) nd rfl (Or.inl rfl))
                (pss_one (ps_set (i := 2) nd rfl (Or.inl rfl) (pe_callB (call_max2 rfl) rfl bl.max bt_max (pa_cons (pv 2) (pa_cons (pe_callH h__law_loops hr rfl pass0 (pa_cons (pv 4) (pa_cons (pv 1) pa_nil))) pa_nil)))))))
              pss_nil)))))))
      (pss_one (ps_ret (pv 2))))), ?_⟩
  rintro ds w P X ⟨-, b, hp, hk, beGr, rfl, rfl, hC, hd, hP⟩
  walk_at "w"
  refine wi_anyT ?_
  walk_at "w"
  refine ⟨_, rfl, fun _ => trivial, ?_⟩
  refine turns_ind (A := Int × Blk) (fun s ds rhGr w' => ds = eB s.2 ∧ 0 ≤ s.1 ∧ CaB (fun v => lk hk v = some (.int (beGr v).d)) s.2 ∧ dB s.2 < n + 1 ∧ mxd s.1 (mL beGr s.2) = dD beGr b ∧ (∃ v3 v4, rhGr = [some (.tup (eB b)), some (.adr hp), some (.int s.1), v3, v4]) ∧ w' = [(hp, .dct hk)]) ?_ ?_ (0, b) ⟨rfl, Int.le_refl _, hC, hd, (joinM_d _).symm, ⟨none, none, rfl⟩, rfl⟩
  · rintro ⟨m, rest⟩ rhGr w' ⟨h1, h2, h3, h4, h5, ⟨v3, v4, rfl⟩, rfl⟩
    cases rest with
    | cons s rest => cases h1
    | nil =>
      have e : m = dD beGr b := h5
      walk_at "w"
      rw [← e] at hP
      exact hP
  · rintro ⟨m, rest⟩ x xs rhGr w' ⟨h1, h2, h3, h4, h5, ⟨v3, v4, rfl⟩, rfl⟩
    cases rest with
    | nil => cases h1
    | cons s rest =>
      obtain ⟨rfl, rfl⟩ := List.cons.inj h1
      obtain ⟨c1, c2⟩ : CaS (fun v => lk hk v = some (.int (beGr v).d)) s ∧ CaB (fun v => lk hk v = some (.int (beGr v).d)) rest := by simpa [CaB] using h3
      have d1 : dS s < n + 1 ∧ dB rest < n + 1 := by simp only [dB] at h4; omega
      have h5' : mxd (imax m (mS beGr s).d) (mL beGr rest) = dD beGr b := h5
      have fin : ∀ (i : Int) (v3 v4 : Option D), i = imax m (mS beGr s).d → ∃ s' : Int × Blk, eB rest = eB s'.2 ∧ 0 ≤ s'.1 ∧ CaB (fun v => lk hk v = some (.int (beGr v).d)) s'.2 ∧ dB s'.2 < n + 1 ∧ mxd s'.1 (mL beGr s'.2) = dD beGr b ∧ (∃ u3 u4, [some (.tup (eB b)), some (.adr hp), some (.int i), v3, v4] = [some (.tup (eB b)), some (.adr hp), some (.int s'.1), u3, u4]) ∧ [(hp, D.dct hk)] = [(hp, D.dct hk)] := by
        rintro i v3 v4 rfl
        exact ⟨(imax m (mS beGr s).d, rest), rfl, le_imax h2, c2, d1.2, h5', ⟨_, _, rfl⟩, rfl⟩
      cases s with
      | row r =>
        have em : (mS beGr (.row r)).d = 0 := by simp only [mS]
        have e0 : m = imax m (mS beGr (.row r)).d := by rw [em]; unfold imax; rw [if_neg (by have : 0 ≤ m := h2; omega)]
        cases r with
        | add y ts => walk_at "w"; exact fin _ _ _ e0
        | lift y ts => walk_at "w"; exact fin _ _ _ e0
        | set y ts => walk_at "w"; exact fin _ _ _ e0
      | call v =>
        have cv : lk hk v = some (.int (beGr v).d) := by simpa [CaS] using c1
        walk_at "w"
        refine rd_ix_dctO 0 rfl cv ?_
        walk_at "w"
        exact fin _ _ _ (by simp only [mS]; rfl)
      | loop y c =>
        have cv : CaB (fun v => lk hk v = some (.int (beGr v).d)) c := by simpa [CaS] using c1
        have dx : dB c + 1 < n + 1 := by simpa [dS] using d1.1
        walk_at "w"
        refine csW ⟨rfl, c, hp, hk, beGr, rfl, rfl, cv, by omega, ?_⟩
        walk_at "w"
        exact fin _ _ _ (by simp only [mS]; rw [Int.add_comm]; rfl)
      | alt o bs =>
        have cv : CaLs (fun v => lk hk v = some (.int (beGr v).d)) bs := by simpa [CaS] using c1
        have dx : dBs bs + 1 < n + 1 := by simpa [dS] using d1.1
        have ed : (mS beGr (.alt o bs)).d = mxd 0 (mLs beGr bs) := by simp only [mS]; exact joinM_d _
        have hm : 0 ≤ m := h2
        cases o with
        | true =>
          walk_at "w"
          refine wi_anyT ?_
          walk_at "w"
          refine ⟨_, rfl, fun _ => trivial, ?_⟩
          refine turns_ind (A := Int × Bls) (fun s ds rhGr w' => ds = eBs s.2 ∧ CaLs (fun v => lk hk v = some (.int (beGr v).d)) s.2 ∧ dBs s.2 < n ∧ mxd s.1 (mLs beGr s.2) = imax m (mS beGr (.alt true bs)).d ∧ (∃ v4, rhGr = [some (.tup (eB b)), some (.adr hp), some (.int s.1), some (.tup [.str (eW true), .tup (eBs bs)]), v4]) ∧ w' = [(hp, .dct hk)]) ?_ ?_ (m, bs) ⟨rfl, cv, by show dBs bs < n; omega, by rw [ed]; exact mxd_pos hm, ⟨_, rfl⟩, rfl⟩
          · rintro ⟨i, rest2⟩ rhGr w' ⟨g1, g2, g3, g4, ⟨v4, rfl⟩, rfl⟩
            cases rest2 with
            | cons c rest2 => cases g1
            | nil =>
              have e : i = imax m (mS beGr (.alt true bs)).d := g4
              exact fin _ _ _ e
          · rintro ⟨i, rest2⟩ x xs rhGr w' ⟨g1, g2, g3, g4, ⟨v4, rfl⟩, rfl⟩
            cases rest2 with
            | nil => cases g1
            | cons c rest2 =>
              obtain ⟨rfl, rfl⟩ := List.cons.inj g1
              obtain ⟨k1, k2⟩ : CaB (fun v => lk hk v = some (.int (beGr v).d)) c ∧ CaLs (fun v => lk hk v = some (.int (beGr v).d)) rest2 := by simpa [CaLs] using g2
              have d2 : dB c < n ∧ dBs rest2 < n := by simp only [dBs] at g3; omega
              walk_at "w"
              refine csW ⟨rfl, c, hp, hk, beGr, rfl, rfl, k1, d2.1, ?_⟩
              walk_at "w"
              exact ⟨(imax i (dD beGr c), rest2), rfl, k2, d2.2, g4, ⟨_, rfl⟩, rfl⟩
        | false =>
          walk_at "w"
          refine wi_anyT ?_
          walk_at "w"
          refine ⟨_, rfl, fun _ => trivial, ?_⟩
          refine turns_ind (A := Int × Bls) (fun s ds rhGr w' => ds = eBs s.2 ∧ CaLs (fun v => lk hk v = some (.int (beGr v).d)) s.2 ∧ dBs s.2 < n ∧ mxd s.1 (mLs beGr s.2) = imax m (mS beGr (.alt false bs)).d ∧ (∃ v4, rhGr = [some (.tup (eB b)), some (.adr hp), some (.int s.1), some (.tup [.str (eW false), .tup (eBs bs)]), v4]) ∧ w' = [(hp, .dct hk)]) ?_ ?_ (m, bs) ⟨rfl, cv, by show dBs bs < n; omega, by rw [ed]; exact mxd_pos hm, ⟨_, rfl⟩, rfl⟩
          · rintro ⟨i, rest2⟩ rhGr w' ⟨g1, g2, g3, g4, ⟨v4, rfl⟩, rfl⟩
            cases rest2 with
            | cons c rest2 => cases g1
            | nil =>
              have e : i = imax m (mS beGr (.alt false bs)).d := g4
              exact fin _ _ _ e
          · rintro ⟨i, rest2⟩ x xs rhGr w' ⟨g1, g2, g3, g4, ⟨v4, rfl⟩, rfl⟩
            cases rest2 with
            | nil => cases g1
            | cons c rest2 =>
              obtain ⟨rfl, rfl⟩ := List.cons.inj g1
              obtain ⟨k1, k2⟩ : CaB (fun v => lk hk v = some (.int (beGr v).d)) c ∧ CaLs (fun v => lk hk v = some (.int (beGr v).d)) rest2 := by simpa [CaLs] using g2
              have d2 : dB c < n ∧ dBs rest2 < n := by simp only [dBs] at g3; omega
              walk_at "w"
              refine csW ⟨rfl, c, hp, hk, beGr, rfl, rfl, k1, d2.1, ?_⟩
              walk_at "w"
              exact ⟨(imax i (dD beGr c), rest2), rfl, k2, d2.2, g4, ⟨_, rfl⟩, rfl⟩
abbrev st_law_starts : Stmt := top 86
abbrev N_law_starts : List Str := ["_law_dice_here", "_law_names_here", "_law_top", "_law_starts_here", "_law_name"]
theorem sc_law_starts : FnScope N_law_starts ["_law_dice_here", "_law_names_here", "_law_top"] (defScope st_law_starts) := ⟨rfl, rfl, rfl, by decide +kernel, rfl, by decide +kernel, by decide +kernel⟩

theorem ok_law_starts {k : Nat} (bl : Blt mg) (F : DefAt K mg "_law_starts" st_law_starts ["_law_dice_here", "_law_names_here", "_law_top"]) (h__law_draw : Has P w K mg base CX0 "_law_draw" ["_law_dice_here", "_law_many"] k (spOf K T S_law_draw)) : Has P w K mg base CX0 "_law_starts" ["_law_dice_here", "_law_names_here", "_law_top"] (k + 1) (spOf K T S_law_starts) := by
  refine defD F sc_law_starts (fun _ _ _ _ h => h.1) fun f cdv A outer s H E hr => ?_
  have hu := hu_of hr
  have hu64 := hr.units
  have nd := sc_law_starts.nd
  refine ⟨_, (pss_cons (ps_set (i := 3) nd rfl (Or.inl rfl) pe_dnewK)
      (pss_cons (ps_for PassesOwn.never rfl (k_walk (K := K) rfl (pv 1)) (pg_name (i := 4) nd rfl (Or.inl rfl))
        (pss_one (ps_asg (pe_op (k_plus (K := K) rfl) pe_int (pe_callH h__law_draw hr rfl pass0 (pa_cons (pv 0) (pa_cons (pv 2) pa_nil)))) (pg_sub (pv 3) (pv 4) (set_X hu)))))
      (pss_one (ps_ret (pv 3))))), ?_⟩
  rintro ds w P X ⟨-, p, d, names, rfl, rfl, hd, hnd, hn4, hP⟩
  walk_at "w"
  intro q
  walk_at "w"
  refine wi_anyT ?_
  walk_at "w"
  refine ⟨_, rfl, fun _ => trivial, ?_⟩
  refine turns_ind (A := Dc × List Str × List Str × (Str → Int)) (fun z ds rhGr w' => ds = nms z.2.2.1 ∧ z.2.1 ++ z.2.2.1 = names ∧ DcOk z.1 ∧ NuB z.2.1 z.2.2.2 ∧ (∃ v4, rhGr = [some (.adr p), some (.tup (nms names)), some (.int 3), some (.adr q), v4]) ∧ w' = [(p, .lst (eDc z.1)), (q, .dct (eNu z.2.1 z.2.2.2))]) ?_ ?_ (d, [], names, fun _ => 1) ⟨rfl, rfl, hd, fun x h => (by cases h), ⟨none, rfl⟩, rfl⟩
  · rintro ⟨d1, done, rest, nuGr⟩ rhGr w' ⟨h1, h2, h3, h4, ⟨v4, rfl⟩, rfl⟩
    cases rest with
    | cons y rest => cases h1
    | nil =>
      have e : done = names := by rw [← h2]; exact (List.append_nil done).symm
      subst e
      refine ws_ret (we_freeze ?_)
      walk_at "w"
      exact ⟨1, q, _, rfl, rfl, hP nuGr d1 h4 h3⟩
  · rintro ⟨d1, done, rest, nuGr⟩ x xs rhGr w' ⟨h1, h2, h3, h4, ⟨v4, rfl⟩, rfl⟩
    cases rest with
    | nil => cases h1
    | cons y rest =>
      obtain ⟨rfl, rfl⟩ := List.cons.inj h1
      have h2' : (done ++ [y]) ++ rest = names := by rw [List.append_assoc]; exact h2
      have hy : y ∉ done := by
        rw [← h2'] at hnd
        have := (List.nodup_append.mp hnd).1
        intro h
        exact (List.nodup_append.mp this).2.2 y h y (by simp) rfl
      have hdl : done.length ≤ 4 := by
        have := congrArg List.length h2'
        rw [List.length_append, List.length_append] at this
        omega
      walk_at "w"
      refine cpF (mine := [(p, .lst (eDc d1))]) rfl ⟨rfl, p, d1, 3, rfl, rfl, h3, by decide, by decide, fun r d2 hr hd2 => ?_⟩
      walk_at "w"
      refine wg_subD ?_
      walk_at "w"
      refine ⟨q, rfl, ?_⟩
      walk_at "w"
      refine ⟨y, rfl, 1, eNu done nuGr, rfl, by rw [eNu_keys]; exact (List.nodup_append.mp (List.nodup_append.mp (h2' ▸ hnd)).1).1, by unfold eNu; rw [List.length_map]; omega, ?_⟩
      refine ⟨(d2, done ++ [y], rest, setN nuGr y (1 + (r : Nat))), rfl, h2', hd2, ?_, ⟨_, rfl⟩, ?_⟩
      · intro z hz
        have t3 := TOP3
        show 1 ≤ (if z = y then _ else nuGr z) ∧ (if z = y then _ else nuGr z) ≤ TOP
        by_cases hne : z = y
        · rw [if_pos hne]
          exact ⟨by omega, by omega⟩
        · rw [if_neg hne]
          rcases List.mem_append.mp hz with hz | hz
          · exact h4 z hz
          · exact absurd (by simpa using hz) hne
      · rw [putD_new (by rw [eNu_keys]; exact hy)]
        show [(p, D.lst (eDc d2)), (q, D.dct (eNu done nuGr ++ [(y, .int (1 + (r : Nat)))]))] = [(p, D.lst (eDc d2)), (q, D.dct (eNu (done ++ [y]) (setN nuGr y (1 + (r : Nat)))))]
        rw [eNu_app, eNu_set hy]
        have : eNu [y] (setN nuGr y (1 + (r : Nat))) = [(y, .int (1 + (r : Nat)))] := by simp [eNu, setN]
        rw [this]
end
end Hw
/-! HwAK -/
section
open PySem.W (AllAlike alike alikeAll dataLt)
namespace Hw
def nkP : Prd → NestedKey
  | none => .tup []
  | some x => .tup [.tup [.text x, .num 1]]
theorem nkP_inj : ∀ {p q : Prd}, nkP p = nkP q → p = q
  | none, none, _ => rfl
  | none, some y, h => by simp [nkP] at h
  | some x, none, h => by simp [nkP] at h
  | some x, some y, h => by simp [nkP] at h; rw [h]
theorem nkP_depth (p : Prd) : (nkP p).depth ≤ 8 := by
  cases p with
  | none => decide
  | some x => simp [nkP, NestedKey.depth, NestedKey.depthAll]
section
variable {X : Cx} {pins : List (Addr × Obj)} {siGr : L2.St} {H : Hp} {s : Shared}
theorem nested_eP (I : Inv X pins siGr H s) {a : Addr} {p : Prd} (h : Dp X.K H (.ref a) (py (eP p))) : NestedIs s.heap (nkP p) (.ref a) := by
  cases p with
  | none =>
    have h' : Dp X.K H (.ref a) (.tuple []) := h
    cases h' with
    | tup hs hd =>
      cases hd
      obtain ⟨its, rv, ⟨o, ho, hc, n, hdd⟩, _⟩ := I.tuple hs
      cases rv
      exact .tup ho hc hdd (by simpa using NestedAll.nil)
  | some x =>
    have h' : Dp X.K H (.ref a) (.tuple [.tuple [.str x, .int 1]]) := h
    cases h' with
    | tup hs hd =>
      cases hd with
      | cons h1 h2 =>
        cases h2
        cases h1 with
        | @tup b _ _ hs2 hd2 =>
          cases hd2 with
          | cons g1 g2 =>
            cases g2 with
            | cons g3 g4 =>
              cases g4
              cases g1
              cases g3
              obtain ⟨its, rv, ⟨o, ho, hc, n, hdd⟩, _⟩ := I.tuple hs
              obtain ⟨its2, rv2, ⟨o2, ho2, hc2, n2, hdd2⟩, _⟩ := I.tuple hs2
              cases rv with
              | cons r1 r2 =>
                cases r2
                cases r1
                cases rv2 with
                | cons q1 q2 =>
                  cases q2 with
                  | cons q3 q4 =>
                    cases q4
                    obtain ⟨t1, rfl⟩ := q1
                    obtain ⟨t2, rfl⟩ := q3
                    refine .tup ho hc hdd ?_
                    refine .cons (.tup ho2 hc2 hdd2 ?_) .nil
                    exact .cons (.text _ _) (.cons (.int _ _) .nil)
end
/-- what stands in the dict: a product, the address of its tuple, a number -/
abbrev Er4 := Prd × Addr × Int × Tok
def xsL (L : List Er4) : List (NestedKey × Addr × Value) := L.map fun l => (nkP l.1, l.2.1, .int l.2.2.1 l.2.2.2)
def EntF (P : Program) (w : World) (q : Addr) (L : List Er4) : Heap → Prop := fun h => (q == sysModules) = false ∧ (∃ o es ep, h.get? q = some o ∧ o.ExactDict ∧ o.data = .dict es ep ∧ es.toList = (xsL L).map (entryOfKey (nestedKind P w))) ∧ ((xsL L).map (·.1)).Nodup
def pdD (P : Program) (w : World) (q : Addr) (L : List Er4) : D := .exb (EntF P w q L) (L.map fun l => (l.2.1, eP l.1))
theorem entF_ok {P : Program} {w : World} {H : Hp} {h : Heap} {q : Addr} {L : List Er4} (x : EntF P w q L h) : ObjOk P w H h q (.ext (EntF P w q L)) := by
  have ⟨h1, ⟨o, es, ep, ho, r⟩, h3⟩ := x
  refine ⟨x, ⟨o, ho⟩, fun ha hb y k => ?_⟩
  obtain ⟨g1, ⟨o', es', ep', ho', r'⟩, g3⟩ := y
  exact ⟨g1, ⟨o', es', ep', k _ ho', r'⟩, g3⟩
def putE (L : List Er4) (p : Prd) (b : Addr) (j : Int) (t : Tok) : List Er4 := if L.any fun l => decide (l.1 = p) then L.map fun l => if l.1 = p then (l.1, l.2.1, j, t) else l else L ++ [(p, b, j, t)]
theorem atKey_iff (L : List Er4) (p : Prd) : (atKey (xsL L) (nkP p)).isSome = L.any fun l => decide (l.1 = p) := by
  induction L with
  | nil => rfl
  | cons l L ih =>
    unfold atKey xsL at ih ⊢
    rw [List.map_cons, List.find?_cons, List.any_cons]
    by_cases h : l.1 = p
    · have : decide ((nkP l.1) = nkP p) = true := decide_eq_true (by rw [h])
      simp only [this, decide_eq_true h, Bool.true_or]; rfl
    · have : decide ((nkP l.1) = nkP p) = false := decide_eq_false fun e => h (nkP_inj e)
      simp only [this, decide_eq_false h, Bool.false_or]
      exact ih
theorem xsL_put (L : List Er4) (p : Prd) (b : Addr) (j : Int) (t : Tok) : xsL (putE L p b j t) = storedH (xsL L) (nkP p) b (.int j t) := by
  unfold storedH putE
  rw [atKey_iff]
  split
  · unfold xsL
    rw [List.map_map, List.map_map]
    refine List.map_congr_left fun l _ => ?_
    show _ = putAt (nkP p) (.int j t) (nkP l.1, l.2.1, .int l.2.2.1 l.2.2.2)
    unfold putAt
    by_cases h : l.1 = p
    · simp [h]
    · have : ¬ nkP l.1 = nkP p := fun e => h (nkP_inj e)
      simp [h, this]
  · unfold xsL
    rw [List.map_append]; rfl
theorem atKey_mem {L : List Er4} {l : Er4} (h : l ∈ L) (nd : ((xsL L).map (·.1)).Nodup) : atKey (xsL L) (nkP l.1) = some (l.2.1, .int l.2.2.1 l.2.2.2) := by
  induction L with
  | nil => cases h
  | cons m L ih =>
    have nd' : nkP m.1 ∉ (xsL L).map (·.1) ∧ ((xsL L).map (·.1)).Nodup := List.nodup_cons.mp nd
    unfold atKey xsL at ih ⊢
    rw [List.map_cons, List.find?_cons]
    rcases List.mem_cons.mp h with rfl | hm
    · simp
    · have : decide ((nkP m.1) = nkP l.1) = false := decide_eq_false fun e => nd'.1 (by
        rw [e]
        exact List.mem_map.mpr ⟨_, List.mem_map_of_mem hm, rfl⟩)
      simp only [this]
      exact ih hm nd'.2
theorem putE_mem {L : List Er4} {p : Prd} {b : Addr} {j : Int} {t : Tok} {l : Er4} (h : l ∈ putE L p b j t) : (l.1 = p ∧ l.2.2.1 = j ∧ (l.2.1 = b ∨ ∃ m ∈ L, m.1 = l.1 ∧ m.2.1 = l.2.1)) ∨ l ∈ L := by
  unfold putE at h
  split at h
  · obtain ⟨m, hm, rfl⟩ := List.mem_map.mp h
    by_cases e : m.1 = p
    · rw [if_pos e]; exact .inl ⟨e, rfl, .inr ⟨m, hm, rfl, rfl⟩⟩
    · rw [if_neg e]; exact .inr hm
  · rcases List.mem_append.mp h with h | h
    · exact .inr h
    · obtain rfl : l = (p, b, j, t) := by simpa using h
      exact .inl ⟨rfl, rfl, .inl rfl⟩
theorem putE_len {L : List Er4} {p : Prd} {b : Addr} {j : Int} {t : Tok} : (putE L p b j t).length ≤ L.length + 1 ∧ 1 ≤ (putE L p b j t).length := by
  unfold putE
  split
  · rename_i h
    rw [List.length_map]
    refine ⟨by omega, ?_⟩
    cases L with
    | nil => cases h
    | cons l L => simp
  · rw [List.length_append]; simp
section
variable {X : Cx} {pins : List (Addr × Obj)} {siGr : L2.St} {H : Hp} {s : Shared}
theorem dictH_of (I : Inv X pins siGr H s) {q : Addr} {L : List Er4} (hq : H q = some (.ext (EntF X.prog X.w q L))) (hk : ∀ l ∈ L, Dp X.K H (.ref l.2.1) (py (eP l.1))) : s.heap.DictOfH (nestedKind X.prog X.w) q (xsL L) ∧ (q == sysModules) = false := by
  have x : ObjOk X.prog X.w H s.heap q (.ext (EntF X.prog X.w q L)) := I.hok q _ hq
  obtain ⟨⟨h1, ⟨o, es, ep, ho, hc, hd, he⟩, h3⟩, _, _⟩ := x
  refine ⟨⟨o, es, ep, ho, hc, hd, he, fun y hy => ?_, h3⟩, h1⟩
  obtain ⟨l, hl, rfl⟩ := List.mem_map.mp hy
  exact ⟨nested_eP I (hk l hl), nkP_depth _⟩
end
section
variable {X : Cx}
/-- {} -/
def tDNewP (P : Program) (w : World) : TE := fun _ H Q => ∀ p, H p = none → Q (.ref p) (upd H p (.ext (EntF P w p [])))
theorem pe_dnewP {P : Program} {w : World} {pos : Pos} (hP : X.prog = P) (hw : X.w = w) : PE X (.Dict [] [] pos) (tDNewP P w) := by
  subst hP hw
  exact ⟨fun pins s siGr H Q I h => wpAny_Dict_empty ⟨.ref s.heap.objs.size, _, I.laid (a := s.heap.objs.size) (o := .ext (EntF X.prog X.w s.heap.objs.size [])) (t' := s.toks) (fun _ _ q => Heap.get?_push_of_some _ q) (Nat.le_refl _)
    (entF_ok ⟨beq_eq_false_iff_ne.mpr (Ne.symm (Nat.ne_of_lt I.big)), ⟨_, #[], 0, Heap.get?_push_size _ rfl, ⟨rfl, rfl, rfl⟩, rfl, rfl⟩, List.nodup_nil⟩), rfl, h _ (I.hok.fresh (Nat.le_refl _))⟩⟩
/-- d[k] = v -/
def rSetP (P : Program) (w : World) (K : PySem.W.Frag) : TSet := fun o i v H Q => ∃ (q b : Addr) (L : List Er4) (p : Prd) (j : Int), o = .ref q ∧ i = .ref b ∧ v = .int j ∧ H q = some (.ext (EntF P w q L)) ∧ (∀ l ∈ L, Dp K H (.ref l.2.1) (py (eP l.1))) ∧ Dp K H (.ref b) (py (eP p)) ∧ L.length ≤ 100 ∧
  ∀ t, Q (upd H q (.ext (EntF P w q (putE L p b j t))))
theorem k_setP {P : Program} {w : World} {K : PySem.W.Frag} (hP : X.prog = P) (hw : X.w = w) (hK : X.K = K) (hu : X.A.units + 64 < cLine) : PSet X (rSetP P w K) := by
  subst hP hw hK
  intro pins s siGr H o i v ov iv u Q I ro ri rv h
  obtain ⟨q, b, L, p, j, rfl, rfl, rfl, hq, hk, hb, hl, hQ⟩ := h
  cases ro
  cases ri
  obtain ⟨t, rfl⟩ := rv
  obtain ⟨hd, hm⟩ := dictH_of I hq hk
  refine wpAny_setItem_heap (knd := nestedKind X.prog X.w) (k := nkP p) (by show X.A.in1.units + 8 < cLine; rw [Around.in1_units]; omega) ⟨nested_eP I hb, nkP_depth p⟩ hd (fun h' hm' hs => ?_) (by unfold xsL; rw [List.length_map, sizeLine_eq]; omega)
  obtain ⟨o, es, ep, ho, hc, hdd, he, _, hn⟩ := hm'
  rw [← xsL_put] at he hn
  exact ⟨_, d_write I (by rw [hq]; trivial) hs ⟨o, ho⟩ (entF_ok ⟨hm, ⟨o, es, ep, ho, hc, hdd, he⟩, hn⟩), hQ t⟩
/-- d[k] -/
def rIxP (P : Program) (w : World) (K : PySem.W.Frag) : R2 := fun x y H Q => rIxX K x y H Q ∨ ∃ (q b : Addr) (L : List Er4) (l : Er4), x = .ref q ∧ y = .ref b ∧ H q = some (.ext (EntF P w q L)) ∧ (∀ l ∈ L, Dp K H (.ref l.2.1) (py (eP l.1))) ∧ Dp K H (.ref b) (py (eP l.1)) ∧ l ∈ L ∧ Q (.int l.2.2.1) H
theorem k_ixP {P : Program} {w : World} {K : PySem.W.Frag} (hP : X.prog = P) (hw : X.w = w) (hK : X.K = K) (hu : X.A.units + 64 < cLine) : IxR X (rIxP P w K) := by
  subst hP hw hK
  refine (ix_X (by omega)).or ?_
  intro value slice pins s siGr H x y v u Q I rx ry h hs
  obtain ⟨q, b, L, l, rfl, rfl, hq, hk, hb, hl, hQ⟩ := h
  cases rx
  cases ry
  obtain ⟨hd, hm⟩ := dictH_of I hq hk
  have nd : ((xsL L).map (·.1)).Nodup := hd.nodup
  refine tail_any hd.typeIs PySem.F.slot_dict_getitem.lookup (wpAny_getItem_heap (knd := nestedKind X.prog X.w) (k := nkP l.1) (by show X.A.in1.units + 8 < cLine; rw [Around.in1_units]; omega) ⟨nested_eP I hb, nkP_depth _⟩ hd (atKey_mem hl nd) ?_) hs
  exact ⟨.int l.2.2.1, H, I.tok _, ⟨_, rfl⟩, hQ⟩
end
/-! ### products by size -/
theorem py_none : py (eP none) = .tuple [] := rfl
theorem py_some (x : Str) : py (eP (some x)) = .tuple [.tuple [.str x, .int 1]] := rfl
theorem alike_eP (p q : Prd) : alike (py (eP p)) (py (eP q)) = true := by
  cases p <;> cases q <;> simp [py_none, py_some, alike, alikeAll]
theorem tup_eP (p : Prd) : ∃ xs, py (eP p) = .tuple xs := by cases p <;> exact ⟨_, rfl⟩
theorem depth_eP (p : Prd) : (py (eP p)).depth ≤ 10 := by
  cases p with
  | none => decide
  | some x => simp [py_some, PyData.depth, PyData.depthAll]
theorem lt_of_not {p q : Prd} (h : dataLt (py (eP q)) (py (eP p)) = false) (hn : p ≠ q) : prdLt p q := by
  cases p with
  | none =>
    cases q with
    | none => exact absurd rfl hn
    | some y => exact trivial
  | some x =>
    cases q with
    | none =>
      exfalso
      rw [py_none, py_some, PySem.W.dataLt_tuple] at h
      have : PyProof.Rows.lexLt PyProof.Rows.itemOrd (PySem.W.keyToksAll []) (PySem.W.keyToksAll [.tuple [.str x, .int 1]]) = true := by
        show PyProof.Rows.lexLt PyProof.Rows.itemOrd (.inl 0 :: []) (.inl 1 :: _) = true
        rw [PyProof.Rows.lex_diff (by simp)]
        rfl
      rw [this] at h
      cases h
    | some y =>
      rw [py_some, py_some, PySem.W.dataLt_tuple, PySem.W.dataLt_cons (by simp [alike, alikeAll])] at h
      have hxy : ¬ y = x := fun e => hn (by rw [e])
      have hev : PyData.eqv (.tuple [.str y, .int 1]) (.tuple [.str x, .int 1]) = false := by
        simp [PyData.eqv, PyData.eqvAll, hxy]
      rw [hev, if_neg Bool.false_ne_true, PySem.W.dataLt_pair (by simp [alike]) (by simp [alike])] at h
      have hev2 : PyData.eqv (.str y) (.str x) = false := by simp [PyData.eqv, hxy]
      rw [hev2, if_neg Bool.false_ne_true, PySem.W.dataLt_str] at h
      have h2 := of_decide_eq_false h
      show x.cps.toList < y.cps.toList
      by_cases h3 : x.cps.toList < y.cps.toList
      · exact h3
      · exact absurd (str_eq (List.le_antisymm h3 h2)) hxy
/-! ### sorted(d) -/
theorem Raw_of {h : Heap} {d : Addr} {xs : List (NestedKey × Addr × Value)} {P : Program} {w : World} (x : h.DictOfH (nestedKind P w) d xs) : ∃ es ep, h.DictRaw d es ep ∧ es.size = xs.length ∧ ∀ (i : Nat) (hi : i < es.size), ∃ y, xs[i]? = some y ∧ es[i].key = .ref y.2.1 := by
  obtain ⟨o, es, ep, ho, hc, hd, he, _, _⟩ := x
  refine ⟨es, ep, ⟨o, ho, hc, hd⟩, by rw [← Array.length_toList, he, List.length_map], fun i hi => ?_⟩
  have e1 : es.toList[i]? = some es[i] := by rw [Array.getElem?_toList, Array.getElem?_eq_getElem hi]
  rw [he, List.getElem?_map] at e1
  obtain ⟨y, hy, e2⟩ := Option.map_eq_some_iff.mp e1
  exact ⟨y, hy, by rw [← e2]; rfl⟩
section
variable {X : Cx}
def rSrtP (P : Program) (w : World) (K : PySem.W.Frag) : List V → Hp → VK → Prop := fun vs H Q => ∃ (q : Addr) (L : List Er4), vs = [.ref q] ∧ H q = some (.ext (EntF P w q L)) ∧ (∀ l ∈ L, Dp K H (.ref l.2.1) (py (eP l.1))) ∧ L.length ≤ 100 ∧
  ∀ L' : List Er4, L'.Perm L → L'.Pairwise (fun a b => prdLt a.1 b.1) → ∀ p, H p = none → Q (.ref p) (upd H p (.lst (L'.map fun l => V.ref l.2.1)))
theorem lift_perm {alGr beGr : Type} (f : alGr → beGr) : ∀ {L : List alGr} {out : List beGr}, out.Perm (L.map f) → ∃ L' : List alGr, L'.Perm L ∧ out = L'.map f := by
  intro L out h
  induction L generalizing out with
  | nil => exact ⟨[], .refl _, List.Perm.eq_nil h⟩
  | cons a L ih =>
    have hm : f a ∈ out := h.mem_iff.mpr (by simp)
    obtain ⟨s, t, rfl⟩ := List.append_of_mem hm
    have h2 : (s ++ t).Perm (L.map f) := by
      have : (f a :: (s ++ t)).Perm (f a :: L.map f) := (List.perm_middle.symm).trans h
      exact List.Perm.cons_inv this
    obtain ⟨L', p1, p2⟩ := ih h2
    obtain ⟨s', t', rfl, hs, ht⟩ := List.map_eq_append_iff.mp p2.symm
    exact ⟨s' ++ a :: t', List.perm_middle.trans (p1.cons a), by rw [List.map_append, List.map_cons, hs, ht]⟩
theorem k_srtP {P : Program} {w : World} {K : PySem.W.Frag} (hP : X.prog = P) (hw : X.w = w) (hK : X.K = K) (hc : X.calm = true) (hu : X.A.units + 64 < cLine) : CallR X (.builtin "sorted") (rSrtP P w K) := by
  subst hP hw hK
  intro pins s siGr H xs us Q I r h
  obtain ⟨q, L, rfl, hq, hk, hl, hQ⟩ := h
  rw [Vals.ref1 r]
  obtain ⟨hd, hm⟩ := dictH_of I hq hk
  have hn := hd.nodup
  obtain ⟨es, ep, hr, hsz, hat⟩ := Raw_of hd
  have hxl : (xsL L).length = L.length := by unfold xsL; rw [List.length_map]
  refine Calls.call_function_entry PyProof.Rows.kind_sorted PyProof.Rows.plain_sorted PyProof.Rows.entry_sorted (PyProof.Rows.args_sorted1 _) ?_
  unfold Builtin.«sorted»
  refine wpAny_bind (m := checkCount "sorted" 1 1 _) (wpAny_pure ?_)
  refine wpAny_bind (PySem.W.kdu_collect (A := X.A.in1) (KdlSrc.rawDict (es := es) (ep := ep) hm) (I.ok.hd hc) hr (by rw [hsz, hxl, sizeLine_eq]; omega) fun h' tk acc hkeep hacc => ?_)
  have hal : acc.toList.length = L.length := by rw [Array.length_toList, hacc.1, hsz, hxl]
  have hvs : acc.toList = L.map fun l => Value.ref l.2.1 := by
    refine List.ext_getElem? fun j => ?_
    rw [List.getElem?_map]
    cases e : acc.toList[j]? with
    | none =>
      have : L.length ≤ j := by have := List.getElem?_eq_none_iff.mp e; omega
      rw [List.getElem?_eq_none this]; rfl
    | some v =>
      obtain ⟨hi, rfl⟩ := hacc.2 j v (by rw [← Array.getElem?_toList]; exact e)
      obtain ⟨y, hy, hky⟩ := hat j hi
      unfold xsL at hy
      rw [List.getElem?_map] at hy
      obtain ⟨l, hl2, rfl⟩ := Option.map_eq_some_iff.mp hy
      rw [hl2, hky]; rfl
  rw [hvs]
  have I1 : Inv X pins siGr H { s with heap := h', toks := tk } := I.kept hkeep
  refine wpAny_bind (wpAny_newList ?_ (by rw [List.length_map, sizeLine_eq]; omega))
  have hoL : (h'.push (seqObj "list" (L.map fun l => Value.ref l.2.1).toArray 0)).get? h'.objs.size = some (seqObj "list" (L.map fun l => Value.ref l.2.1).toArray 0) := Heap.get?_push_size _ rfl
  have kb : ∀ b o, h'.get? b = some o → b ≠ h'.objs.size ∧ (h'.push (seqObj "list" (L.map fun l => Value.ref l.2.1).toArray 0)).get? b = some o := fun b o e => ⟨Nat.ne_of_lt (Heap.lt_size e), Heap.get?_push_of_some _ e⟩
  have each : ∀ M : List Er4, (∀ l ∈ M, l ∈ L) → PySem.W.EachIs (fun (v : Value) (d : PyData) => ∃ as, Reads h' v d as) (M.map fun l => Value.ref l.2.1) (M.map fun l => py (eP l.1)) := by
    intro M hM
    induction M with
    | nil => exact .nil
    | cons l M ih => exact .cons (Dp.reads I1 _ _ _ (hk l (hM l (by simp))) rfl) (ih fun m hm => hM m (List.mem_cons_of_mem _ hm))
  have eL := each L fun _ h => h
  have hAl : AllAlike (L.map fun l => py (eP l.1)) := AllAlike.of fun a b => alike_eP _ _
  have hrd : ∀ l ∈ L, ∃ as, Reads h' (.ref l.2.1) (py (eP l.1)) as := fun l hl => Dp.reads I1 _ _ _ (hk l hl) rfl
  have hlt : ∀ a ∈ L, ∀ b ∈ L, ltK h' (L.map fun l => py (eP l.1)) (.ref a.2.1) (.ref b.2.1) = dataLt (py (eP a.1)) (py (eP b.1)) := fun a ha b hb => by
    obtain ⟨as, r1⟩ := hrd a ha
    obtain ⟨bs, r2⟩ := hrd b hb
    exact ltK_eq hAl (List.mem_map_of_mem (f := fun l : Er4 => py (eP l.1)) ha) (List.mem_map_of_mem (f := fun l : Er4 => py (eP l.1)) hb) r1 r2
  have swo : SrtO.Swo (ltK h' (L.map fun l => py (eP l.1))) := ltK_swo _ _
  show wpAny _ _ _ _ _ { s with heap := h'.push (seqObj "list" (L.map fun l => Value.ref l.2.1).toArray 0), toks := tk }
  refine wpAny_bind (wpAny_holding (wpAny_call_entry PyProof.Rows.slot_list_sort ⟨_, hoL, rfl⟩ PyProof.Rows.entry_list_sort
    (SrtO.list_sort_ord (s := { s with heap := h'.push (seqObj "list" (L.map fun l => Value.ref l.2.1).toArray 0), toks := tk }) swo hoL (by rw [List.length_map, sizeLine_eq]; omega)
      (fun h2 => tups_sortO kb eL hAl (fun d hd => by obtain ⟨l, _, rfl⟩ := List.mem_map.mp hd; exact tup_eP _) (fun d hd => by
        obtain ⟨l, _, rfl⟩ := List.mem_map.mp hd
        have := depth_eP l.1
        have e : X.A.in1.in1.units = X.A.units + 2 := by rw [Around.in1_units, Around.in1_units]
        first | omega | (rw [e]; omega)) h2) fun out hs hb => ⟨_, rfl, ?_⟩)
    (PyProof.Rows.args_list_sort _)))
  obtain ⟨L', pL, rfl⟩ := lift_perm (fun l : Er4 => Value.ref l.2.1) hb.perm
  obtain ⟨e', he'⟩ := PyProof.Rows.sortedHeap_at (vs := L.map fun l => Value.ref l.2.1) (out := (L'.map fun l => Value.ref l.2.1).toArray) hoL
  have hlen : (L'.map fun l => V.ref l.2.1).length ≤ sizeLine := by rw [List.length_map, pL.length_eq, sizeLine_eq]; omega
  have hvals : ∀ M : List Er4, Vals (M.map fun l => V.ref l.2.1) (M.map fun l => Value.ref l.2.1) := by
    intro M
    induction M with
    | nil => exact .nil
    | cons l M ih => exact .cons rfl ih
  have hpw : L'.Pairwise (fun a b => prdLt a.1 b.1) := by
    have h1 : L'.Pairwise (fun x y => ltK h' (L.map fun l => py (eP l.1)) (.ref y.2.1) (.ref x.2.1) = false) := List.pairwise_map.mp hs
    have h2 : (L'.map fun l : Er4 => nkP l.1).Nodup := by
      have : ((xsL L).map (·.1)) = L.map fun l : Er4 => nkP l.1 := by unfold xsL; rw [List.map_map]; rfl
      rw [this] at hn
      exact (pL.map _).nodup_iff.mpr hn
    have h3 : L'.Pairwise (fun x y => nkP x.1 ≠ nkP y.1) := List.pairwise_map.mp h2
    refine List.Pairwise.imp_of_mem (fun {a b} ha hb hab => ?_) (h1.and h3)
    have ha' := pL.mem_iff.mp ha
    have hb' := pL.mem_iff.mp hb
    rw [hlt b hb' a ha'] at hab
    exact lt_of_not hab.1 fun e => hab.2 (by rw [e])
  refine wpAny_pure ⟨_, rfl, .ref h'.objs.size, upd H h'.objs.size (.lst (L'.map fun l => V.ref l.2.1)), I1.laid (t' := tk) (fun b u e => ?_) (Nat.le_refl _)
    (show ObjOk X.prog X.w _ _ _ (.lst (L'.map fun l => V.ref l.2.1)) from ⟨hlen, (L'.map fun l => Value.ref l.2.1), e', hvals L', he'⟩), rfl, hQ L' pL hpw _ (I1.hok.fresh (Nat.le_refl _))⟩
  have hb : b < h'.objs.size := Heap.lt_size e
  rw [PyProof.Rows.sortedHeap_old (Nat.ne_of_lt hb) (by rw [size_push']; exact Nat.lt_succ_of_lt hb)]
  exact Heap.get?_push_of_some _ e
end
end Hw
end
/-! HwAL -/
namespace Hw
theorem reps_each {K : PySem.W.Frag} {B : Hp} {alGr : Type} {f : alGr → V} {g : alGr → D} : ∀ {L : List alGr}, Reps K B (L.map f) (L.map g) → ∀ l ∈ L, Rep K B (f l) (g l)
  | [], _, l, h => by cases h
  | a :: L, r, l, h => by
    cases r with
    | cons r t =>
      rcases List.mem_cons.mp h with rfl | h
      · exact r
      · exact reps_each t l h
theorem each_reps {K : PySem.W.Frag} {B : Hp} {alGr : Type} {f : alGr → V} {g : alGr → D} : ∀ {L : List alGr}, (∀ l ∈ L, Rep K B (f l) (g l)) → Reps K B (L.map f) (L.map g)
  | [], _ => .nil
  | a :: L, h => .cons (h a (by simp)) (each_reps fun l hl => h l (List.mem_cons_of_mem _ hl))
theorem isPy_eP (p : Prd) : isPy (eP p) = true := by cases p <;> rfl
section
variable {Z : Zt} {rhGr : Sl} {w : Own} {PO : D → Own → Prop} {P : Program} {W : World}
theorem pd_reps {B H : Hp} {c : Addr} {L : List Er4} {n : Nat} (k : Ok Z.K B H w) (hn : w[n]? = some (c, pdD P W c L)) : H c = some (.ext (EntF P W c L)) ∧ ∀ l ∈ L, Rep Z.K B (.ref l.2.1) (eP l.1) := by
  obtain ⟨o, ho, hh⟩ := (k.own _ (List.mem_of_getElem? hn)).ob
  have hh' : Holds Z.K B o (.exb (EntF P W c L) (L.map fun l => (l.2.1, eP l.1))) := hh
  cases hh' with
  | exb r =>
    rw [List.map_map, List.map_map] at r
    exact ⟨ho, fun l hl => reps_each r l hl⟩
theorem we_dnewP (p : ∀ c, PO (.adr c) (w ++ [(c, pdD P W c [])])) : WE Z (tDNewP P W) rhGr w PO := fun siGr B H k e er Q q l hl => q _ _ _ _ _ (p l) (To.newO k hl (.exb .nil)) (.adr l)
theorem wg_subP {to ti : TE} {x : D} {k : Sl → Own → Prop} (h : WE Z to rhGr w fun o w1 => ∃ c, o = .adr c ∧ WE Z ti rhGr w1 fun i w2 => ∃ (p : Prd) (L : List Er4) (n : Nat) (j : Int), i = eP p ∧ w2[n]? = some (c, pdD P W c L) ∧ x = .int j ∧ L.length ≤ 100 ∧ ∀ b t, k rhGr (w2.set n (c, pdD P W c (putE L p b j t)))) :
    WG Z (gSub to ti (rSetP P W Z.K)) x rhGr w k := fun siGr B H v ok e er r Q q => by
  refine h siGr B H ok e er _ fun vo o w1 B1 H1 ⟨c, ho, h1⟩ t1 r1 => ?_
  subst ho
  cases r1
  refine h1 siGr B1 H1 t1.ok (e.mono t1.go.b) (er.on t1) _ fun vi i w2 B2 H2 ⟨p, L, n, j, hi, hn, hx, hl, hk⟩ t2 r2 => ?_
  subst hi hx
  have T := t1.trans t2
  have rj := r.mono T.go.b
  cases rj
  obtain ⟨hc, hr⟩ := pd_reps t2.ok hn
  obtain ⟨b, hb⟩ : ∃ b, vi = .ref b := by
    cases p with
    | none => cases r2; exact ⟨_, rfl⟩
    | some y => cases r2; exact ⟨_, rfl⟩
  subst hb
  refine ⟨c, b, L, p, j, rfl, rfl, rfl, hc, fun l hl => (hr l hl).dp t2.ok.l (isPy_eP _), r2.dp t2.ok.l (isPy_eP _), hl, fun t => ?_⟩
  have t3 := To.mut t2.ok hn (d' := pdD P W c (putE L p b j t)) (o' := .ext (EntF P W c (putE L p b j t))) (.exb (by
    rw [List.map_map, List.map_map]
    refine each_reps fun l hl => ?_
    rcases putE_mem hl with ⟨h1, _, h2 | ⟨m, hm, h3, h4⟩⟩ | h1
    · show Rep Z.K B2 (.ref l.2.1) (eP l.1)
      rw [h1, h2]; exact r2
    · show Rep Z.K B2 (.ref l.2.1) (eP l.1)
      rw [← h3, ← h4]; exact hr m hm
    · exact hr l h1))
  exact q _ _ _ _ _ (hk b t) (T.trans t3) ((e.mono T.go.b).mono t3.go.b)
theorem rd_ixP {c : Addr} {L : List Er4} {l : Er4} {p : Prd} (n : Nat) (hn : w[n]? = some (c, pdD P W c L)) (hl : l ∈ L) (hp : l.1 = p) (po : PO (.int l.2.2.1) w) : RD Z (rIxP P W Z.K) (.adr c) (eP p) w PO := fun B H vx vy k er rx ry Q q => by
  subst hp
  cases rx
  obtain ⟨hc, hr⟩ := pd_reps k hn
  obtain ⟨b, hb⟩ : ∃ b, vy = .ref b := by
    revert ry
    cases l.1 with
    | none => intro ry; cases ry; exact ⟨_, rfl⟩
    | some y => intro ry; cases ry; exact ⟨_, rfl⟩
  subst hb
  exact .inr ⟨c, b, L, l, rfl, rfl, hc, fun m hm => (hr m hm).dp k.l (isPy_eP _), ry.dp k.l (isPy_eP _), hl, q _ _ w B H po (.refl k) (.int _)⟩
theorem rc_srtP {c : Addr} {L : List Er4} (n : Nat) (hn : w[n]? = some (c, pdD P W c L)) (hl : L.length ≤ 100) (po : ∀ L' : List Er4, L'.Perm L → L'.Pairwise (fun a b => prdLt a.1 b.1) → PO (.lst (L'.map fun l => eP l.1)) w) : RC Z (rSrtP P W Z.K) [.adr c] w PO := fun B H vs k er r Q q => by
  cases r with
  | cons r rr =>
    cases rr
    cases r
    obtain ⟨hc, hr⟩ := pd_reps k hn
    refine ⟨c, L, rfl, hc, fun m hm => (hr m hm).dp k.l (isPy_eP _), hl, fun L' pL hp x hx => ?_⟩
    have t2 := To.newB (o := .lst (L'.map fun l => V.ref l.2.1)) k hx
    refine q _ _ w _ _ (po L' pL hp) t2 (.lst upd_same ?_)
    exact each_reps fun l hl => (hr l (pL.mem_iff.mp hl)).mono t2.go.b
end
theorem iterN_le {n : Nat} {d : D} {i : Nat} (h : (iterN n)[i]? = some d) : i < n := (iterN_at h).1
section
variable {P : Program} {w : World} {K : PySem.W.Frag} {mg : Str → Option Value} {base : Heap} {T : Addr}
abbrev st_law_sum : Stmt := top 76
abbrev N_law_sum : List Str := ["_law_dice_here", "_law_names_here", "_law_terms", "_law_most", "_law_top", "_law_found", "_law_k", "_law_product_here"]
theorem sc_law_sum : FnScope N_law_sum ["_law_dice_here", "_law_names_here", "_law_terms", "_law_most", "_law_top"] (defScope st_law_sum) := ⟨rfl, rfl, rfl, by decide +kernel, rfl, by decide +kernel, by decide +kernel⟩

theorem ok_law_sum {k : Nat} (bl : Blt mg) (F : DefAt K mg "_law_sum" st_law_sum ["_law_dice_here", "_law_names_here", "_law_terms", "_law_most", "_law_top"]) (h__law_draw : Has P w K mg base CX0 "_law_draw" ["_law_dice_here", "_law_many"] k (spOf K T S_law_draw)) (h__law_product : Has P w K mg base CX0 "_law_product" ["_law_dice_here", "_law_names_here", "_law_most"] k (spOf K T S_law_product)) : Has P w K mg base CX0 "_law_sum" ["_law_dice_here", "_law_names_here", "_law_terms", "_law_most", "_law_top"] (k + 1) (spOf K T S_law_sum) := by
  refine defD F sc_law_sum (fun _ _ _ _ h => h.1) fun f cdv A outer s H E hr => ?_
  have hu := hu_of hr
  have hu64 := hr.units
  have nd := sc_law_sum.nd
  refine ⟨_, (pss_cons (ps_set (i := 5) nd rfl (Or.inr rfl) (pe_dnewP (P := P) (w := w) rfl rfl))
      (pss_cons (ps_for PassesOwn.never rfl (pi_range1 rfl bl.range (pa_cons (pe_op (k_plus (K := K) rfl) pe_int (pe_callH h__law_draw hr rfl pass0 (pa_cons (pv 0) (pa_cons (pv 2) pa_nil)))) pa_nil)) (pg_name (i := 6) nd rfl (Or.inl rfl))
        (pss_cons (ps_set (i := 7) nd rfl (Or.inl rfl) (pe_callH h__law_product hr rfl pass0 (pa_cons (pv 0) (pa_cons (pv 1) (pa_cons (pv 3) pa_nil)))))
        (pss_one (ps_asg (pe_op (k_plus (K := K) rfl) pe_int (pe_callH h__law_draw hr rfl pass0 (pa_cons (pv 0) (pa_cons (pv 4) pa_nil)))) (pg_sub (pv 5) (pv 7) (k_setP (P := P) (w := w) (K := K) rfl rfl rfl hu64))))))
      (pss_one (ps_ret (pe_callTy (k_tuple (K := K) rfl) rfl bl.tuple bt_tuple (pa_cons (pe_lc (own := [("_law_product_here", 7)]) (g := gName 7) (tt := tYes) rfl nd (k_walk (K := K) rfl (pe_callB (k_srtP (P := P) (w := w) (K := K) rfl rfl rfl rfl hu64) rfl bl.sorted bt_sorted (pa_cons (pv 5) pa_nil))) (blkOk_by (N := N_law_sum) (sc := defScope st_law_sum) (by decide +kernel)) (fun _ _ _ _ _ => pg_name (i := 7) nd rfl (Or.inl rfl)) (fun _ _ _ _ _ => pts_nil) (fun _ _ _ _ _ => (pe_tup (pa_cons (pe_ix (k_ixP (P := P) (w := w) (K := K) rfl rfl rfl hu64) (pv 5) (pv 7) (fun _ _ => rfl)) (pa_cons (pv 7) pa_nil))))) pa_nil)))))), ?_⟩
  rintro ds w' P' X ⟨-, p, d, names, rfl, rfl, hd, hnm, hP⟩
  refine ws_seq (ws_asg (we_dnewP fun q => ?_))
  walk_at "w"
  refine wi_rng1 ?_
  walk_at "w"
  refine cpF (mine := dw p d) rfl ⟨rfl, p, d, 3, rfl, rfl, hd, by decide, by decide, fun r d1 hr hd1 => ?_⟩
  walk_at "w"
  refine ⟨_, rfl, by omega, by omega, fun _ => trivial, ?_⟩
  have hl : (iterN (1 + (r : Int)).toNat).length = 1 + r := by rw [iterN_len]; omega
  refine turns_ind (A := Dc × List Er4) (fun z ds rhGr wz => (∃ m, ds.length + m = 1 + r ∧ z.2.length ≤ m ∧ (1 ≤ m → 1 ≤ z.2.length)) ∧ DcOk z.1 ∧ (∀ l ∈ z.2, VP names l.1 ∧ 1 ≤ l.2.2.1 ∧ l.2.2.1 ≤ 3) ∧ (∃ v6 v7, rhGr = [some (.adr p), some (.lst (nms names)), some (.int 3), some (.int 1), some (.int 3), some (.adr q), v6, v7]) ∧ wz = [(p, .lst (eDc z.1)), (q, pdD P w q z.2)]) ?_ ?_ (d1, []) ⟨⟨0, by rw [hl]; rfl, Nat.le_refl _, fun h => absurd h (by omega)⟩, hd1, fun l h => (by cases h), ⟨none, none, rfl⟩, rfl⟩
  · rintro ⟨d2, L⟩ rhGr wz ⟨⟨m, h1, h2, h3⟩, h4, h5, ⟨v6, v7, rfl⟩, rfl⟩
    have h1' : 0 + m = 1 + r := h1
    have h2' : L.length ≤ m := h2
    have h3' : 1 ≤ L.length := h3 (by omega)
    refine ws_ret (we_trim ?_)
    refine we_cb (wa_cons (we_lc (wi_anyL ?_)))
    walk_at "w"
    refine rc_srtP 1 rfl (by omega) fun L' pL hpw => ?_
    refine ⟨_, .inl rfl, L'.map fun l => D.tup [.int l.2.2.1, eP l.1], by rw [List.length_map, List.length_map], by rw [List.length_map, pL.length_eq]; omega, fun _ => trivial, ?_, ?_⟩
    · intro i x hx
      rw [List.getElem?_map] at hx
      obtain ⟨l, hl2, rfl⟩ := Option.map_eq_some_iff.mp hx
      walk_at "w"
      refine rd_ixP 1 rfl (pL.mem_iff.mp (List.mem_of_getElem? hl2)) rfl ?_
      walk_at "w"
      exact ⟨by rw [List.getElem?_map, hl2]; rfl, rfl⟩
    · walk_at "w"
      refine rc_tuple ?_
      have hres := hP (L'.map fun l => (l.2.2.1, l.1)) d2 ⟨?_, ?_, ?_, ?_⟩ h4
      · refine ⟨dw p d2, _, rfl, ?_⟩
        have e : eTs (L'.map fun l => (l.2.2.1, l.1)) = .tup (L'.map fun l => D.tup [.int l.2.2.1, eP l.1]) := by unfold eTs; rw [List.map_map]; rfl
        rw [e] at hres
        exact hres
      · intro e
        have : L'.length = 0 := by rw [← List.length_map (f := fun l : Er4 => (l.2.2.1, l.1)), e]; rfl
        rw [pL.length_eq] at this
        omega
      · rw [List.length_map, pL.length_eq]; omega
      · intro t ht
        obtain ⟨l, hl2, rfl⟩ := List.mem_map.mp ht
        have := h5 l (pL.mem_iff.mp hl2)
        exact ⟨this.2.1, this.2.2, this.1⟩
      · exact List.Pairwise.map _ (fun a b h => h) hpw
  · rintro ⟨d2, L⟩ x xs rhGr wz ⟨⟨m, h1, h2, h3⟩, h4, h5, ⟨v6, v7, rfl⟩, rfl⟩
    have h1' : xs.length + 1 + m = 1 + r := h1
    have h2' : L.length ≤ m := h2
    walk_at "w"
    refine cpF (mine := dw p d2) rfl ⟨rfl, p, d2, names, rfl, rfl, h4, hnm, fun pr d3 hpr hd3 => ?_⟩
    walk_at "w"
    refine cpF (mine := dw p d3) rfl ⟨rfl, p, d3, 3, rfl, rfl, hd3, by decide, by decide, fun c d4 hc hd4 => ?_⟩
    walk_at "w"
    refine wg_subP ?_
    walk_at "w"
    refine ⟨q, rfl, ?_⟩
    walk_at "w"
    refine ⟨pr, L, 1, 1 + (c : Int), rfl, rfl, rfl, by omega, fun b t => ?_⟩
    have hpl := putE_len (L := L) (p := pr) (b := b) (j := 1 + (c : Int)) (t := t)
    refine ⟨(d4, putE L pr b (1 + (c : Int)) t), ⟨m + 1, by omega, by show (putE L pr b (1 + (c : Int)) t).length ≤ _; omega, fun _ => hpl.2⟩, hd4, fun l hl2 => ?_, ⟨_, _, rfl⟩, rfl⟩
    rcases putE_mem hl2 with ⟨g1, g2, _⟩ | g
    · rw [g1, g2]; exact ⟨hpr, by omega, by omega⟩
    · exact h5 l g
end
end Hw
/-! HwAM -/
namespace Hw
/-- the first body, c1: whether it has a choice -/
structure B1Ok (names : List Str) (b1 : Blk) (c1 : Nat) : Prop where
  c : c1 ≤ 1
  v : VB names [] false b1
  k : KB beGr0 [] b1
  d : dB b1 ≤ 2
  l : b1.len ≤ 2
  b0 : 0 ≤ (joinM (mL beGr0 b1)).b
  b : (joinM (mL beGr0 b1)).b ≤ 2
  a0 : 0 ≤ (joinM (mL beGr0 b1)).a
  a : (joinM (mL beGr0 b1)).a ≤ 3 + c1
  cc0 : 0 ≤ (joinM (mL beGr0 b1)).c
  cc : (joinM (mL beGr0 b1)).c ≤ 2
  dd0 : 0 ≤ (joinM (mL beGr0 b1)).d
  dd : (joinM (mL beGr0 b1)).d ≤ 2
  e0 : 1 ≤ (joinM (mL beGr0 b1)).e
  e : (joinM (mL beGr0 b1)).e ≤ Fw2 c1
  f0 : 1 ≤ (joinM (mL beGr0 b1)).f
  f : (joinM (mL beGr0 b1)).f ≤ 24
structure B0Ok (names : List Str) (w1 : Str) (b1 : Blk) (c1 : Nat) (u : Blk) (n : Nat) : Prop where
  c : c1 + n ≤ 1
  v : VB names [w1] false u
  k : KB (beGr1 w1 b1) [(w1, eM (joinM (mL beGr0 b1)))] u
  d : dB u ≤ 2
  l : u.len ≤ 2
  b0 : 0 ≤ (joinM (mL (beGr1 w1 b1) u)).b
  b : (joinM (mL (beGr1 w1 b1) u)).b ≤ 3
  a0 : 0 ≤ (joinM (mL (beGr1 w1 b1) u)).a
  a : (joinM (mL (beGr1 w1 b1) u)).a ≤ 5 + n
  cc0 : 0 ≤ (joinM (mL (beGr1 w1 b1) u)).c
  cc : (joinM (mL (beGr1 w1 b1) u)).c ≤ 4
  dd0 : 0 ≤ (joinM (mL (beGr1 w1 b1) u)).d
  dd : (joinM (mL (beGr1 w1 b1) u)).d ≤ 2
  e0 : 1 ≤ (joinM (mL (beGr1 w1 b1) u)).e
  e : (joinM (mL (beGr1 w1 b1) u)).e ≤ Fw2 n
  f0 : 1 ≤ (joinM (mL (beGr1 w1 b1) u)).f
  f : (joinM (mL (beGr1 w1 b1) u)).f ≤ 24
theorem sumE_nn {g : Ent → Int} : ∀ {es : List Ent}, (∀ en ∈ es, 0 ≤ g en) → 0 ≤ sumE g es
  | [], _ => Int.le_refl _
  | e :: es, h => by
    have h1 := h e (by simp)
    have h2 := sumE_nn (es := es) fun x hx => h x (List.mem_cons_of_mem _ hx)
    have h3 : 0 ≤ (e.c : Int) * g e := Int.mul_nonneg (by omega) h1
    show 0 ≤ (e.c : Int) * g e + sumE g es
    omega
theorem Ac.bounds {x : Cw} {deep loops : Nat} {s s' : Gs} {m : Ms} (h : Ac x deep loops s s' m) (ok : GsOk x s') : m.b ≤ rowP x s ∧ m.a ≤ aP x s ∧ m.e ≤ Fw2 (tP x s) := by
  have h1 := sumE_nn (g := fun e => (x.beGr e.w).b) fun en he => (ok.es en he).b
  have h2 := sumE_nn (g := fun e => (x.beGr e.w).a) fun en he => (ok.es en he).a
  have h3 := h.b
  have h4 := h.a
  have h5 := h.e
  have h6 := Fw_pos (tP x s')
  have h7 := h.e0
  have h8 : m.e * 1 ≤ m.e * Fw2 (tP x s') := Int.mul_le_mul_of_nonneg_left h6 (by omega)
  have h9 : 0 ≤ rowP x s' := by unfold rowP; omega
  have h10 : 0 ≤ aP x s' := by unfold aP; omega
  exact ⟨by omega, by omega, by omega⟩
mutual
theorem CaS_of {names words : List Str} {sets : Bool} {p : Str → Prop} (h : ∀ x ∈ words, p x) : ∀ s : Stm, VS names words sets s → CaS p s
  | .row _, _ => by simp only [CaS]
  | .loop x b, v => by
    simp only [CaS]
    exact CaB_of h b (by simp only [VS] at v; exact v.2.2)
  | .alt o bs, v => by
    simp only [CaS]
    exact CaLs_of h bs (by simp only [VS] at v; exact v.2.2)
  | .call x, v => by
    simp only [CaS]
    exact h x (by simpa [VS] using v)
theorem CaB_of {names words : List Str} {sets : Bool} {p : Str → Prop} (h : ∀ x ∈ words, p x) : ∀ b : Blk, VB names words sets b → CaB p b
  | .nil, _ => by simp only [CaB]
  | .cons s b, v => by
    simp only [CaB]
    simp only [VB] at v
    exact ⟨CaS_of h s v.1, CaB_of h b v.2⟩
theorem CaLs_of {names words : List Str} {sets : Bool} {p : Str → Prop} (h : ∀ x ∈ words, p x) : ∀ bs : Bls, VBs names words sets bs → CaLs p bs
  | .nil, _ => by simp only [CaLs]
  | .cons b bs, v => by
    simp only [CaLs]
    simp only [VBs] at v
    exact ⟨CaB_of h b v.1.2, CaLs_of h bs v.2⟩
end
/-- what is held of the bodies -/
def Wd.hk : Wd → List (Str × D)
  | .n0 => []
  | .n1 w1 b1 => [(w1, .int (joinM (mL beGr0 b1)).d)]
  | .n2 w1 b1 w0 b0 => [(w1, .int (joinM (mL beGr0 b1)).d), (w0, .int (joinM (mL (beGr1 w1 b1) b0)).d)]
/-- the entries, n1 how often the first may be called -/
def Wd.ens (W : Wd) (a1 a0 : Addr) (n1 n0 : Int) : Own := match W with
  | .n0 => []
  | .n1 w1 b1 => [(a1, .lst [.str w1, .int n1, .int (joinM (mL beGr0 b1)).d])]
  | .n2 w1 b1 w0 b0 => [(a1, .lst [.str w1, .int n1, .int (joinM (mL beGr0 b1)).d]), (a0, .lst [.str w0, .int n0, .int (joinM (mL (beGr1 w1 b1) b0)).d])]
def Wd.ads (W : Wd) (a1 a0 : Addr) : List D := match W with
  | .n0 => []
  | .n1 _ _ => [.adr a1]
  | .n2 _ _ _ _ => [.adr a1, .adr a0]
def Wd.ok (names : List Str) (v1 v0 : Str) (c1 c0 : Nat) : Wd → Prop
  | .n0 => c1 = 0 ∧ c0 = 0
  | .n1 w1 b1 => w1 = v1 ∧ c0 = 0 ∧ B1Ok names b1 c1
  | .n2 w1 b1 w0 b0 => w1 = v1 ∧ w0 = v0 ∧ B1Ok names b1 c1 ∧ B0Ok names v1 b1 c1 b0 c0
def Wd.num : Wd → Nat
  | .n0 => 0
  | .n1 _ _ => 1
  | .n2 _ _ _ _ => 2
/-- how many choices a word has -/
def Wd.qq (W : Wd) (c1 c0 : Nat) : Str → Nat := match W with
  | .n0 => fun _ => 0
  | .n1 w1 _ => fun x => if x = w1 then c1 else 0
  | .n2 w1 _ w0 _ => fun x => if x = w0 then c0 else if x = w1 then c1 else 0
def Wd.es (W : Wd) (a1 a0 : Addr) (c0 : Nat) : List Ent := match W with
  | .n0 => []
  | .n1 w1 _ => [⟨a1, w1, 1⟩]
  | .n2 w1 _ w0 _ => [⟨a1, w1, 1⟩, ⟨a0, w0, 2 - c0⟩]
def Wd.cw (W : Wd) (names : List Str) (c1 c0 : Nat) : Cw := ⟨names, W.words, W.beGr, W.ms, W.qq c1 c0, 4⟩
theorem world_ok {names : List Str} {W : Wd} {v1 v0 : Str} {c1 c0 : Nat} (a1 a0 : Addr) {d : Dc} (hd : DcOk d) (hlt : strLt v0 v1) (h : W.ok names v1 v0 c1 c0) :
    GsOk (W.cw names c1 c0) ⟨d, 4, 3 - (c1 + c0), 4, W.es a1 a0 c0⟩ ∧ rowP (W.cw names c1 c0) ⟨d, 4, 3 - (c1 + c0), 4, W.es a1 a0 c0⟩ ≤ 12 ∧ aP (W.cw names c1 c0) ⟨d, 4, 3 - (c1 + c0), 4, W.es a1 a0 c0⟩ ≤ 24 ∧
    c1 + c0 ≤ 1 ∧ (W.es a1 a0 c0).map (fun e => (e.a, D.lst [.str e.w, .int e.c, .int (W.beGr e.w).d])) = W.ens a1 a0 1 (2 - (c0 : Nat)) ∧ (W.es a1 a0 c0).map (fun e => D.adr e.a) = W.ads a1 a0 := by
  have hne := strLt_ne hlt
  have hne1 : ¬ v1 = v0 := fun e => hne e.symm
  cases W with
  | n0 =>
    obtain ⟨rfl, rfl⟩ := h
    exact ⟨⟨hd, fun en he => (by cases he), by show 3 - (0 + 0) + 0 ≤ 3; decide⟩, by show ((4 : Nat) : Int) + 0 ≤ 12; decide, by show ((4 : Nat) : Int) + ((3 - (0 + 0) : Nat) : Int) + ((4 : Nat) : Int) + 0 ≤ 24; decide, by decide, rfl, rfl⟩
  | n1 w1 b1 =>
    obtain ⟨rfl, rfl, hB⟩ := h
    have hx1 : beGr1 w1 b1 w1 = joinM (mL beGr0 b1) := by unfold beGr1; rw [if_pos rfl]
    have hc := hB.c
    have hqq : (Wd.n1 w1 b1).qq c1 0 w1 = c1 := by simp [Wd.qq]
    refine ⟨⟨hd, fun en he => ?_, ?_⟩, ?_, ?_, by omega, ?_, rfl⟩
    · obtain rfl : en = ⟨a1, w1, 1⟩ := by simpa [Wd.es] using he
      exact {
        w := by show w1 ∈ [w1]; simp
        k := by show lk [(w1, eM (joinM (mL beGr0 b1)))] w1 = some (eM (beGr1 w1 b1 w1)); rw [hx1]; simp [lk]
        a := by show 0 ≤ (beGr1 w1 b1 w1).a; rw [hx1]; exact hB.a0
        b := by show 0 ≤ (beGr1 w1 b1 w1).b; rw [hx1]; exact hB.b0
        c0 := by show 0 ≤ (beGr1 w1 b1 w1).c; rw [hx1]; exact hB.cc0
        c := by show (beGr1 w1 b1 w1).c ≤ 4; rw [hx1]; have := hB.cc; omega
        d := by show 0 ≤ (beGr1 w1 b1 w1).d; rw [hx1]; exact hB.dd0
        e0 := by show 1 ≤ (beGr1 w1 b1 w1).e; rw [hx1]; exact hB.e0
        e := by show (beGr1 w1 b1 w1).e ≤ Fw2 ((Wd.n1 w1 b1).qq c1 0 w1); rw [hx1, hqq]; exact hB.e
        f0 := by show 1 ≤ (beGr1 w1 b1 w1).f; rw [hx1]; exact hB.f0
        f := by show (beGr1 w1 b1 w1).f ≤ 24; rw [hx1]; exact hB.f }
    · show 3 - (c1 + 0) + (1 * (Wd.n1 w1 b1).qq c1 0 w1 + 0) ≤ 3
      rw [hqq]; omega
    · show ((4 : Nat) : Int) + (((1 : Nat) : Int) * (beGr1 w1 b1 w1).b + 0) ≤ 12
      rw [hx1]; have := hB.b; omega
    · show ((4 : Nat) : Int) + ((3 - (c1 + 0) : Nat) : Int) + ((4 : Nat) : Int) + (((1 : Nat) : Int) * (beGr1 w1 b1 w1).a + 0) ≤ 24
      rw [hx1]; have := hB.a; omega
    · show [(a1, D.lst [.str w1, .int ((1 : Nat) : Int), .int (beGr1 w1 b1 w1).d])] = _
      rw [hx1]; rfl
  | n2 w1 b1 w0 b0 =>
    obtain ⟨rfl, rfl, hB, hC⟩ := h
    have hx1 : (Wd.n2 w1 b1 w0 b0).beGr w1 = joinM (mL beGr0 b1) := by simp [Wd.beGr, beGr1, hne1]
    have hx0 : (Wd.n2 w1 b1 w0 b0).beGr w0 = joinM (mL (beGr1 w1 b1) b0) := by simp [Wd.beGr]
    have hq1 : (Wd.n2 w1 b1 w0 b0).qq c1 c0 w1 = c1 := by simp [Wd.qq, hne1]
    have hq0 : (Wd.n2 w1 b1 w0 b0).qq c1 c0 w0 = c0 := by simp [Wd.qq]
    have hc := hC.c
    have hc0 : c0 = 0 ∨ c0 = 1 := by omega
    refine ⟨⟨hd, fun en he => ?_, ?_⟩, ?_, ?_, hc, ?_, rfl⟩
    · have he' : en = ⟨a1, w1, 1⟩ ∨ en = ⟨a0, w0, 2 - c0⟩ := by simpa [Wd.es] using he
      rcases he' with rfl | rfl
      · exact {
          w := by show w1 ∈ [w0, w1]; simp
          k := by show lk [(w1, eM (joinM (mL beGr0 b1))), (w0, eM (joinM (mL (beGr1 w1 b1) b0)))] w1 = some (eM ((Wd.n2 w1 b1 w0 b0).beGr w1)); rw [hx1]; simp [lk]
          a := by show 0 ≤ ((Wd.n2 w1 b1 w0 b0).beGr w1).a; rw [hx1]; exact hB.a0
          b := by show 0 ≤ ((Wd.n2 w1 b1 w0 b0).beGr w1).b; rw [hx1]; exact hB.b0
          c0 := by show 0 ≤ ((Wd.n2 w1 b1 w0 b0).beGr w1).c; rw [hx1]; exact hB.cc0
          c := by show ((Wd.n2 w1 b1 w0 b0).beGr w1).c ≤ 4; rw [hx1]; have := hB.cc; omega
          d := by show 0 ≤ ((Wd.n2 w1 b1 w0 b0).beGr w1).d; rw [hx1]; exact hB.dd0
          e0 := by show 1 ≤ ((Wd.n2 w1 b1 w0 b0).beGr w1).e; rw [hx1]; exact hB.e0
          e := by show ((Wd.n2 w1 b1 w0 b0).beGr w1).e ≤ Fw2 ((Wd.n2 w1 b1 w0 b0).qq c1 c0 w1); rw [hx1, hq1]; exact hB.e
          f0 := by show 1 ≤ ((Wd.n2 w1 b1 w0 b0).beGr w1).f; rw [hx1]; exact hB.f0
          f := by show ((Wd.n2 w1 b1 w0 b0).beGr w1).f ≤ 24; rw [hx1]; exact hB.f }
      · exact {
          w := by show w0 ∈ [w0, w1]; simp
          k := by show lk [(w1, eM (joinM (mL beGr0 b1))), (w0, eM (joinM (mL (beGr1 w1 b1) b0)))] w0 = some (eM ((Wd.n2 w1 b1 w0 b0).beGr w0)); rw [hx0]; simp [lk, hne1]
          a := by show 0 ≤ ((Wd.n2 w1 b1 w0 b0).beGr w0).a; rw [hx0]; exact hC.a0
          b := by show 0 ≤ ((Wd.n2 w1 b1 w0 b0).beGr w0).b; rw [hx0]; exact hC.b0
          c0 := by show 0 ≤ ((Wd.n2 w1 b1 w0 b0).beGr w0).c; rw [hx0]; exact hC.cc0
          c := by show ((Wd.n2 w1 b1 w0 b0).beGr w0).c ≤ 4; rw [hx0]; exact hC.cc
          d := by show 0 ≤ ((Wd.n2 w1 b1 w0 b0).beGr w0).d; rw [hx0]; exact hC.dd0
          e0 := by show 1 ≤ ((Wd.n2 w1 b1 w0 b0).beGr w0).e; rw [hx0]; exact hC.e0
          e := by show ((Wd.n2 w1 b1 w0 b0).beGr w0).e ≤ Fw2 ((Wd.n2 w1 b1 w0 b0).qq c1 c0 w0); rw [hx0, hq0]; exact hC.e
          f0 := by show 1 ≤ ((Wd.n2 w1 b1 w0 b0).beGr w0).f; rw [hx0]; exact hC.f0
          f := by show ((Wd.n2 w1 b1 w0 b0).beGr w0).f ≤ 24; rw [hx0]; exact hC.f }
    · show 3 - (c1 + c0) + (1 * (Wd.n2 w1 b1 w0 b0).qq c1 c0 w1 + ((2 - c0) * (Wd.n2 w1 b1 w0 b0).qq c1 c0 w0 + 0)) ≤ 3
      rw [hq1, hq0]
      rcases hc0 with rfl | rfl <;> omega
    · show ((4 : Nat) : Int) + (((1 : Nat) : Int) * ((Wd.n2 w1 b1 w0 b0).beGr w1).b + (((2 - c0 : Nat) : Int) * ((Wd.n2 w1 b1 w0 b0).beGr w0).b + 0)) ≤ 12
      rw [hx1, hx0]
      have := hB.b
      have := hC.b
      have := hC.b0
      rcases hc0 with rfl | rfl
      · show ((4 : Nat) : Int) + (((1 : Nat) : Int) * _ + (((2 : Nat) : Int) * _ + 0)) ≤ 12
        omega
      · show ((4 : Nat) : Int) + (((1 : Nat) : Int) * _ + (((1 : Nat) : Int) * _ + 0)) ≤ 12
        omega
    · show ((4 : Nat) : Int) + ((3 - (c1 + c0) : Nat) : Int) + ((4 : Nat) : Int) + (((1 : Nat) : Int) * ((Wd.n2 w1 b1 w0 b0).beGr w1).a + (((2 - c0 : Nat) : Int) * ((Wd.n2 w1 b1 w0 b0).beGr w0).a + 0)) ≤ 24
      rw [hx1, hx0]
      have := hB.a
      have := hC.a
      have := hC.a0
      rcases hc0 with rfl | rfl
      · show ((4 : Nat) : Int) + ((3 - (c1 + 0) : Nat) : Int) + ((4 : Nat) : Int) + (((1 : Nat) : Int) * _ + (((2 : Nat) : Int) * _ + 0)) ≤ 24
        omega
      · show ((4 : Nat) : Int) + ((3 - (c1 + 1) : Nat) : Int) + ((4 : Nat) : Int) + (((1 : Nat) : Int) * _ + (((1 : Nat) : Int) * _ + 0)) ≤ 24
        omega
    · show [(a1, D.lst [.str w1, .int ((1 : Nat) : Int), .int ((Wd.n2 w1 b1 w0 b0).beGr w1).d]), (a0, D.lst [.str w0, .int ((2 - c0 : Nat) : Int), .int ((Wd.n2 w1 b1 w0 b0).beGr w0).d])] = _
      rw [hx1, hx0, show ((2 - c0 : Nat) : Int) = 2 - (c0 : Nat) by omega]; rfl
theorem perm_call {alGr : Type} (p q1 q2 q3 rp lp : alGr) (E es : List alGr) : (p :: q1 :: q2 :: q3 :: (E ++ (rp :: (es ++ [lp])))).Perm ((p :: rp :: lp :: es) ++ (q1 :: q2 :: q3 :: E)) := by
  refine List.Perm.cons p ?_
  have h1 : ((q1 :: q2 :: q3 :: E) ++ (rp :: (es ++ [lp]))).Perm ((rp :: (es ++ [lp])) ++ (q1 :: q2 :: q3 :: E)) := List.perm_append_comm
  refine h1.trans (List.Perm.append_right _ (List.Perm.cons rp ?_))
  exact List.perm_append_comm (l₁ := es) (l₂ := [lp])
theorem perm_back {alGr : Type} (p rp lp : alGr) (es F : List alGr) : ((p :: rp :: lp :: es) ++ F).Perm ((p :: F) ++ (rp :: lp :: es)) := List.Perm.cons p (List.perm_append_comm (l₁ := rp :: lp :: es))
theorem perm_third {alGr : Type} (a b c : alGr) (F : List alGr) : (a :: b :: c :: F).Perm ([c] ++ (a :: b :: F)) := (List.Perm.cons a (List.Perm.swap c b F)).trans (List.Perm.swap c a (b :: F))
theorem perm_third' {alGr : Type} (a b c : alGr) (F : List alGr) : ([c] ++ (a :: b :: F)).Perm ((a :: b :: c :: F) ++ []) := by
  rw [List.append_nil]
  exact (perm_third a b c F).symm
theorem perm_room {alGr : Type} (p q2 q3 rp blk : alGr) (E : List alGr) : (p :: q2 :: q3 :: (E ++ [rp, blk])).Perm ((p :: rp :: q3 :: E) ++ [q2, blk]) := by
  refine List.Perm.cons p ?_
  have h1 : (E ++ [rp, blk]).Perm (rp :: (E ++ [blk])) := List.perm_middle
  have h2 : (q2 :: q3 :: (E ++ [rp, blk])).Perm (q2 :: q3 :: rp :: (E ++ [blk])) := (h1.cons q3).cons q2
  have h3 : (q2 :: q3 :: rp :: (E ++ [blk])).Perm (rp :: q3 :: q2 :: (E ++ [blk])) := by
    refine (List.Perm.cons q2 (List.Perm.swap rp q3 _)).trans ?_
    refine (List.Perm.swap rp q2 _).trans (List.Perm.cons rp ?_)
    exact List.Perm.swap q3 q2 _
  have h4 : (q2 :: (E ++ [blk])).Perm (E ++ [q2, blk]) := List.perm_middle.symm
  exact (h2.trans h3).trans ((h4.cons q3).cons rp)
/-- what the law draws -/
structure WorldOk (names : List Str) (W : Wd) (u : Blk) : Prop where
  nm : NamesOk names
  w : ∃ v1 v0 c1 c0, WordOk v1 ∧ WordOk v0 ∧ strLt v0 v1 ∧ W.ok names v1 v0 c1 c0
  v : VB names W.words true u
  k : KB W.beGr W.ms u
  d : dB u ≤ 3
  l : u.len ≤ 4
  b : (mM W u).b ≤ 12
  a0 : 0 ≤ (mM W u).a
  a : (mM W u).a ≤ 24
  c : (mM W u).c ≤ 7
  dd : (mM W u).d ≤ 2
  e0 : 1 ≤ (mM W u).e
  e : (mM W u).e ≤ 24
  f0 : 1 ≤ (mM W u).f
  f : (mM W u).f ≤ 24
def S_law_world : DSpec := fun ds w P _ => ds.length = 4 ∧ ∃ (p : Addr) (d : Dc) (m : Nat), ds = [.adr p, .int m, .int 4, .lst [.int 3, .int 1]] ∧ w = dw p d ∧ DcOk d ∧ 1 ≤ m ∧ m ≤ 4 ∧
  ∀ names W b d', WorldOk names W b → DcOk d' → P (.tup [.tup (nms names), .dct W.kvs, .tup (eB b)]) (dw p d')
section
variable {P : Program} {w : World} {K : PySem.W.Frag} {mg : Str → Option Value} {base : Heap} {T : Addr}
abbrev st_law_world : Stmt := top 81
abbrev N_law_world : List Str := ["_law_dice_here", "_law_many", "_law_amount", "_law_top", "_law_names_here", "_law_words", "_law_bodies", "_law_held", "_law_entries", "_law_choosy", "_law_k", "_law_word_here", "_law_room", "_law_inner", "_law_entry", "_law_chooses", "_law_block_here", "_law_statement_here"]
theorem sc_law_world : FnScope N_law_world ["_law_dice_here", "_law_many", "_law_amount", "_law_top"] (defScope st_law_world) := ⟨rfl, rfl, rfl, by decide +kernel, rfl, by decide +kernel, by decide +kernel⟩

theorem ok_law_world {k : Nat} (bl : Blt mg) (F : DefAt K mg "_law_world" st_law_world ["_law_dice_here", "_law_many", "_law_amount", "_law_top"]) (h__law_names : Has P w K mg base CX0 "_law_names" ["_law_dice_here", "_law_many"] k (spOf K T S_law_names)) (h__law_draw : Has P w K mg base CX0 "_law_draw" ["_law_dice_here", "_law_many"] k (spOf K T S_law_draw)) (h__law_block : Has P w K mg base CX0 "_law_block" ["_law_dice_here", "_law_names_here", "_law_words", "_law_room", "_law_deep", "_law_loops_here", "_law_sets", "_law_top", "_law_most"] k (spOf K T (S_law_block 3))) (h__law_loops : Has P w K mg base CX0 "_law_loops" ["_law_block_here", "_law_held"] k (spOf K T (S_law_loops 4))) (h__law_statement : Has P w K mg base CX0 "_law_statement" ["_law_dice_here", "_law_names_here", "_law_words", "_law_room", "_law_deep", "_law_loops_here", "_law_sets", "_law_top"] k (spOf K T (S_law_statement 4))) : Has P w K mg base CX0 "_law_world" ["_law_dice_here", "_law_many", "_law_amount", "_law_top"] (k + 1) (spOf K T S_law_world) := by
  refine defD F sc_law_world (fun _ _ _ _ h => h.1) fun f cdv A outer s H E hr => ?_
  have hu := hu_of hr
  have hu64 := hr.units
  have nd := sc_law_world.nd
  refine ⟨_, (pss_cons (ps_set (i := 4) nd rfl (Or.inl rfl) (pe_callH h__law_names hr rfl pass0 (pa_cons (pv 0) (pa_cons (pv 1) pa_nil))))
      (pss_cons (ps_set (i := 5) nd rfl (Or.inl rfl) (pe_callH h__law_names hr rfl pass0 (pa_cons (pv 0) (pa_cons pe_int pa_nil))))
      (pss_cons (ps_set (i := 6) nd rfl (Or.inl rfl) pe_dnewK)
      (pss_cons (ps_set (i := 7) nd rfl (Or.inl rfl) pe_dnewK)
      (pss_cons (ps_set (i := 8) nd rfl (Or.inl rfl) (pe_lst pa_nil))
      (pss_cons (ps_set (i := 9) nd rfl (Or.inr rfl) pe_int)
      (pss_cons (ps_for PassesOwn.never rfl (pi_range1 rfl bl.range (pa_cons (pe_callH h__law_draw hr rfl pass0 (pa_cons (pv 0) (pa_cons pe_int pa_nil))) pa_nil)) (pg_name (i := 10) nd rfl (Or.inl rfl))
        (pss_cons (ps_set (i := 11) nd rfl (Or.inl rfl) (pe_ix (k_ix (K := K) rfl hu) (pv 5) (pe_op op_sub pe_int (pv 10)) (fun _ _ => rfl)))
        (pss_cons (ps_set (i := 12) nd rfl (Or.inl rfl) (pe_lst (pa_cons (pe_op op_sub pe_int (pv 10)) (pa_cons pe_int (pa_cons pe_int pa_nil)))))
        (pss_cons (ps_if (PW.pt (pw_and (pt_cmpR (k_eq (K := K) rfl hu64) (pv 9) pe_int (nomark _)) (pw_and1 (pt_cmpR (k_eq (K := K) rfl hu64) (pe_callH h__law_draw hr rfl pass0 (pa_cons (pv 0) (pa_cons pe_int pa_nil))) pe_int (nomark _)))))
          (pss_one (ps_asg pe_int (pg_sub (pv 12) pe_int (set_X hu))))
          pss_nil)
        (pss_cons (ps_setLc (i := 13) (own := [("_law_entry", 14)]) (g := gName 14) (tt := _) rfl nd rfl rfl (sw_true rfl rfl rfl (by decide +kernel)) (k_walk (K := K) rfl (pv 8)) (blkOk_by (N := N_law_world) (sc := defScope st_law_world) (by decide +kernel)) (fun _ _ _ _ _ => pg_name (i := 14) nd rfl (Or.inl rfl)) (fun _ _ _ _ _ => (pts_one (pt_cmpR (k_eq (K := K) rfl hu64) (pv 9) pe_int (nomark _)))) (fun _ _ _ _ _ => (pe_lst (pa_cons (pe_ix (k_ix (K := K) rfl hu) (pv 14) pe_int (fun _ _ => rfl)) (pa_cons pe_int (pa_cons (pe_ix (k_ix (K := K) rfl hu) (pv 14) pe_int (fun _ _ => rfl)) pa_nil))))))
        (pss_cons (ps_set (i := 15) nd rfl (Or.inl rfl) (pe_ix (k_ix (K := K) rfl hu) (pv 12) pe_int (fun _ _ => rfl)))
        (pss_cons (ps_asg (pe_callH h__law_block hr rfl pass0 (pa_cons (pv 0) (pa_cons (pv 4) (pa_cons (pv 13) (pa_cons (pv 12) (pa_cons pe_int (pa_cons pe_int (pa_cons pe_bl (pa_cons (pv 3) (pa_cons pe_int pa_nil)))))))))) (pg_sub (pv 6) (pv 11) (set_X hu)))
        (pss_cons (ps_asg (pe_callH h__law_loops hr rfl pass0 (pa_cons (pe_ix (k_ix (K := K) rfl hu) (pv 6) (pv 11) (fun _ _ => rfl)) (pa_cons (pv 7) pa_nil))) (pg_sub (pv 7) (pv 11) (set_X hu)))
        (pss_cons (ps_set (i := 9) nd rfl (Or.inr rfl) (pe_op (k_plus (K := K) rfl) (pv 9) (pv 15)))
        (pss_one (ps_expr (pe_bm PySem.F.plainAttrs_list PySem.F.slot_list_append PySem.F.type_list_append mt_append (pv 8) (pa_cons (pe_lst (pa_cons (pv 11) (pa_cons (pe_op (k_plus (K := K) rfl) (pe_op op_sub (pe_op op_sub pe_int (pv 10)) (pv 15)) (pv 10)) (pa_cons (pe_ix (k_ix (K := K) rfl hu) (pv 7) (pv 11) (fun _ _ => rfl)) pa_nil)))) pa_nil)))))))))))))
      (pss_cons (ps_for PassesOwn.never rfl (k_walk (K := K) rfl (pv 8)) (pg_name (i := 14) nd rfl (Or.inl rfl))
        (pss_one (ps_if (pt_cmpR (k_eq (K := K) rfl hu64) (pe_ix (k_ix (K := K) rfl hu) (pv 14) pe_int (fun _ _ => rfl)) (pe_ix (k_ix (K := K) rfl hu) (pv 5) pe_int (fun _ _ => rfl)) (nomark _))
          (pss_one (ps_asg pe_int (pg_sub (pv 14) pe_int (set_X hu))))
          pss_nil)))
      (pss_cons (ps_set (i := 12) nd rfl (Or.inl rfl) (pe_lst (pa_cons (pv 2) (pa_cons (pe_op op_sub pe_int (pv 9)) (pa_cons pe_int pa_nil)))))
      (pss_cons (ps_set (i := 16) nd rfl (Or.inl rfl) (pe_lst pa_nil))
      (pss_cons (ps_for PassesOwn.never rfl (pi_range1 rfl bl.range (pa_cons (pe_op (k_plus (K := K) rfl) pe_int (pe_callH h__law_draw hr rfl pass0 (pa_cons (pv 0) (pa_cons pe_int pa_nil)))) pa_nil)) (pg_name (i := 10) nd rfl (Or.inl rfl))
        (pss_cons (ps_set (i := 17) nd rfl (Or.inl rfl) (pe_callH h__law_statement hr rfl pass0 (pa_cons (pv 0) (pa_cons (pv 4) (pa_cons (pv 8) (pa_cons (pv 12) (pa_cons pe_int (pa_cons pe_int (pa_cons pe_bl (pa_cons (pv 3) pa_nil))))))))))
        (pss_one (ps_if (pt_cmpR op_notN (pv 17) pe_non (nomark _))
          (pss_one (ps_expr (pe_bm PySem.F.plainAttrs_list PySem.F.slot_list_append PySem.F.type_list_append mt_append (pv 16) (pa_cons (pv 17) pa_nil))))
          pss_nil))))
      (pss_one (ps_ret (pe_tup (pa_cons (pe_callTy (k_tuple (K := K) rfl) rfl bl.tuple bt_tuple (pa_cons (pv 4) pa_nil)) (pa_cons (pv 6) (pa_cons (pe_callTy (k_tuple (K := K) rfl) rfl bl.tuple bt_tuple (pa_cons (pv 16) pa_nil)) pa_nil))))))))))))))))), ?_⟩
  rintro ds w P X ⟨-, p, d, many, rfl, rfl, hd, hm1, hm4, hP⟩
  walk_at "w"
  refine csW ⟨rfl, p, d, many, rfl, rfl, hd, hm1, hm4, fun names d1 hnl hnw hns hd1 => ?_⟩
  walk_at "w"
  refine csW ⟨rfl, p, d1, 2, rfl, rfl, hd1, by decide, by decide, fun words d2 hwl hww hws hd2 => ?_⟩
  obtain ⟨v0, v1, rfl⟩ : ∃ v0 v1, words = [v0, v1] := by
    match words, hwl with
    | [v0, v1], _ => exact ⟨v0, v1, rfl⟩
  have hw0 : WordOk v0 := hww v0 (by simp)
  have hw1 : WordOk v1 := hww v1 (by simp)
  have hlt : strLt v0 v1 := (List.pairwise_cons.mp hws).1 v1 (by simp)
  have hne := strLt_ne hlt
  have hnm : NmsOk names := ⟨by omega, by omega, hnw⟩
  have hnames : NamesOk names := ⟨by omega, by omega, hnw, hns⟩
  walk_at "w"
  intro q1
  walk_at "w"
  intro q2
  refine ws_seq (ws_asg (we_lstO ?_))
  walk_at "w"
  intro q3
  walk_at "w"
  refine wi_rng1 ?_
  walk_at "w"
  refine cpF (mine := dw p d2) rfl ⟨rfl, p, d2, 3, rfl, rfl, hd2, by decide, by decide, fun r d3 hr hd3 => ?_⟩
  walk_at "w"
  refine ⟨_, rfl, by omega, by omega, fun _ => trivial, ?_⟩
  rw [Int.toNat_natCast, iterN_eq]
  refine turns_ind (A := Dc × Wd × Nat × Nat × Addr × Addr) (fun z ds rhGr w' => (∃ m, ds = natsF z.2.1.num m ∧ z.2.1.num + m = r) ∧ DcOk z.1 ∧ z.2.1.ok names v1 v0 z.2.2.1 z.2.2.2.1 ∧
    (∃ v10 v11 v12 v13 v14 v15 v16 v17, rhGr = [some (.adr p), some (.int many), some (.int 4), some (.lst [.int 3, .int 1]), some (.lst (nms names)), some (.lst (nms [v0, v1])), some (.adr q1), some (.adr q2), some (.adr q3), some (.int ((z.2.2.1 + z.2.2.2.1 : Nat) : Int)), v10, v11, v12, v13, v14, v15, v16, v17]) ∧
    w' = (p, .lst (eDc z.1)) :: (q1, .dct z.2.1.kvs) :: (q2, .dct z.2.1.hk) :: (q3, .lst (z.2.1.ads z.2.2.2.2.1 z.2.2.2.2.2)) :: z.2.1.ens z.2.2.2.2.1 z.2.2.2.2.2 (2 - z.2.2.1) (2 - z.2.2.2.1)) ?_ ?_ (d3, .n0, 0, 0, 0, 0) ⟨⟨r, rfl, Nat.zero_add _⟩, hd3, ⟨rfl, rfl⟩, ⟨none, none, none, none, none, none, none, none, rfl⟩, rfl⟩
  · rintro ⟨d4, W, c1, c0, a1, a0⟩ rhGr w' ⟨⟨m, g1, g2⟩, g3, g4, ⟨v10, v11, v12, v13, v14, v15, v16, v17, rfl⟩, rfl⟩
    have g3' : DcOk d4 := g3
    have g4' : W.ok names v1 v0 c1 c0 := g4
    clear g1 g2 g3 g4
    refine ws_seq (WS.imp (PO := fun o => ∃ v14, o = .nx [some (.adr p), some (.int many), some (.int 4), some (.lst [.int 3, .int 1]), some (.lst (nms names)), some (.lst (nms [v0, v1])), some (.adr q1), some (.adr q2), some (.adr q3), some (.int ((c1 + c0 : Nat) : Int)), v10, v11, v12, v13, v14, v15, v16, v17]
      ((p, .lst (eDc d4)) :: (q1, .dct W.kvs) :: (q2, .dct W.hk) :: (q3, .lst (W.ads a1 a0)) :: W.ens a1 a0 1 (2 - (c0 : Nat)))) ?_ ?_)
    · refine ws_for (wi_anyO (we_var rfl ⟨q3, W.ads a1 a0, rfl, by simp, ?_⟩))
      refine ⟨fun i rhGr' w'' => (∃ v14, rhGr' = [some (.adr p), some (.int many), some (.int 4), some (.lst [.int 3, .int 1]), some (.lst (nms names)), some (.lst (nms [v0, v1])), some (.adr q1), some (.adr q2), some (.adr q3), some (.int ((c1 + c0 : Nat) : Int)), v10, v11, v12, v13, v14, v15, v16, v17]) ∧
        w'' = (p, .lst (eDc d4)) :: (q1, .dct W.kvs) :: (q2, .dct W.hk) :: (q3, .lst (W.ads a1 a0)) :: W.ens a1 a0 (if i = 0 then 2 - (c1 : Nat) else 1) (2 - (c0 : Nat)), ⟨⟨_, rfl⟩, rfl⟩, ?_, ?_, ?_⟩
      · rintro i rhGr' w'' ⟨_, rfl⟩
        simp
      · rintro i x rhGr' w'' hx ⟨⟨v14, rfl⟩, rfl⟩
        cases W with
        | n0 => cases i <;> cases hx
        | n1 w1 b1 =>
          obtain ⟨rfl, _, _⟩ := g4'
          match i, hx with
          | 0, hx =>
            obtain rfl : x = .adr a1 := (Option.some.inj hx).symm
            walk_at "w"
            refine rd_ix_lstO 4 rfl (by decide) rfl ?_
            walk_at "w"
            refine wg_subL ?_
            walk_at "w"
            refine ⟨a1, rfl, ?_⟩
            walk_at "w"
            exact ⟨1, rfl, 4, _, rfl, Nat.le_of_ble_eq_true rfl, ⟨_, rfl⟩, rfl⟩
          | i + 1, hx => cases hx
        | n2 w1 b1 w0 b0 =>
          obtain ⟨rfl, rfl, _, _⟩ := g4'
          match i, hx with
          | 0, hx =>
            obtain rfl : x = .adr a1 := (Option.some.inj hx).symm
            walk_at "w"
            refine rd_ix_lstO 4 rfl (by decide) rfl ?_
            walk_at "w"
            refine wg_subL ?_
            walk_at "w"
            refine ⟨a1, rfl, ?_⟩
            walk_at "w"
            exact ⟨1, rfl, 4, _, rfl, Nat.le_of_ble_eq_true rfl, ⟨_, rfl⟩, rfl⟩
          | 1, hx =>
            obtain rfl : x = .adr a0 := (Option.some.inj hx).symm
            walk_at "w"
            refine rd_ix_lstO 5 rfl (by decide) rfl ?_
            walk_at "w"
            refine rd_eq_str_f hne ?_
            walk_at "w"
            exact ⟨⟨_, rfl⟩, rfl⟩
          | i + 2, hx => cases hx
      · rintro rhGr' w'' ⟨⟨v14, rfl⟩, rfl⟩
        refine ⟨v14, ?_⟩
        cases W with
        | n0 => rfl
        | n1 w1 b1 => rfl
        | n2 w1 b1 w0 b0 => rfl
    · rintro o ⟨u14, rfl⟩
      obtain ⟨k1, k2, k3, k4, k5, k6⟩ := world_ok a1 a0 g3' hlt g4'
      refine ws_freeze 1 (p := q1) (d := .dct W.kvs) rfl [some (.adr p), some (.int many), some (.int 4), some (.lst [.int 3, .int 1]), some (.lst (nms names)), some (.lst (nms [v0, v1])), some (.dct W.kvs), some (.adr q2), some (.adr q3), some (.int ((c1 + c0 : Nat) : Int)), v10, v11, v12, v13, u14, v15, v16, v17] rfl ?_ ?_
      · intro j x hx
        match j, hx with
        | 0, hx => exact .inl hx
        | 1, hx => exact .inl hx
        | 2, hx => exact .inl hx
        | 3, hx => exact .inl hx
        | 4, hx => exact .inl hx
        | 5, hx => exact .inl hx
        | 6, hx => exact .inr ⟨rfl, (Option.some.inj (Option.some.inj hx)).symm⟩
        | j + 7, hx => exact .inl hx
      refine ws_seq (ws_asg (we_lstO ?_))
      walk_at "w"
      intro rp
      refine ws_seq (ws_asg (we_lstO (wa_nil ⟨Nat.zero_le _, fun blk => ?_⟩)))
      have hgw : (p, D.lst (eDc d4)) :: (rp, D.lst [.int ((4 : Nat) : Int), .int ((3 - (c1 + c0) : Nat) : Int), .int ((4 : Nat) : Int)]) :: (q3, D.lst (W.ads a1 a0)) :: W.ens a1 a0 1 (2 - (c0 : Nat)) = gw p rp q3 (W.cw names c1 c0) ⟨d4, 4, 3 - (c1 + c0), 4, W.es a1 a0 c0⟩ := by
        unfold gw
        rw [← k6, ← k5]; rfl
      refine WS.perm (w' := gw p rp q3 (W.cw names c1 c0) ⟨d4, 4, 3 - (c1 + c0), 4, W.es a1 a0 c0⟩ ++ [(q2, .dct W.hk), (blk, .lst [])]) ?_ (by
        rw [← hgw, ← show (3 : Int) - ((c1 + c0 : Nat) : Int) = ((3 - (c1 + c0) : Nat) : Int) by omega]
        have := perm_room (p, D.lst (eDc d4)) (q2, D.dct W.hk) (q3, D.lst (W.ads a1 a0)) (rp, D.lst [.int ((4 : Nat) : Int), .int (3 - ((c1 + c0 : Nat) : Int)), .int ((4 : Nat) : Int)]) (blk, D.lst []) (W.ens a1 a0 1 (2 - (c0 : Nat)))
        rw [show W.ens a1 a0 1 (2 - (c0 : Nat)) ++ [(rp, D.lst [.int ((4 : Nat) : Int), .int (3 - ((c1 + c0 : Nat) : Int)), .int ((4 : Nat) : Int)]), (blk, D.lst [])] = (W.ens a1 a0 1 (2 - (c0 : Nat)) ++ [(rp, D.lst [.int ((4 : Nat) : Int), .int (3 - ((c1 + c0 : Nat) : Int)), .int ((4 : Nat) : Int)])]) ++ [(blk, D.lst [])] by simp] at this
        exact this)
      generalize hx : W.cw names c1 c0 = x at k1 k2 k3 ⊢
      generalize hs0 : (⟨d4, 4, 3 - (c1 + c0), 4, W.es a1 a0 c0⟩ : Gs) = s0 at k1 k2 k3 ⊢
      have hxn : x.names = names := by rw [← hx]; rfl
      have hxd : x.dm = 4 := by rw [← hx]; rfl
      refine ws_seq (ws_forU (wi_rng1 ?_))
      walk_at "w"
      refine cpF (mine := dw p s0.d) rfl ⟨rfl, p, s0.d, 4, rfl, rfl, k1.d, by decide, by decide, fun r2 d6 hr2 hd6 => ?_⟩
      walk_at "w"
      refine ⟨_, rfl, by omega, by omega, fun _ => trivial, ?_⟩
      have hl : (iterN (1 + (r2 : Int)).toNat).length = 1 + r2 := by rw [iterN_len]; omega
      refine turns_ind (A := Gs × Blk) (fun z ds rhGr w' => (∃ m, ds.length + m = 1 + r2 ∧ GB x 0 0 m true { s0 with d := d6 } z.1 z.2) ∧ (∃ v10 v17, rhGr = [some (.adr p), some (.int many), some (.int 4), some (.lst [.int 3, .int 1]), some (.lst (nms names)), some (.lst (nms [v0, v1])), some (.dct W.kvs), some (.adr q2), some (.adr q3), some (.int ((c1 + c0 : Nat) : Int)), v10, v11, some (.adr rp), v13, u14, v15, some (.adr blk), v17]) ∧
        w' = gw p rp q3 x z.1 ++ [(q2, .dct W.hk)] ++ [(blk, .lst (eB z.2))]) ?_ ?_ ({ s0 with d := d6 }, .nil) ⟨⟨0, by rw [hl, Nat.add_zero], by simp only [VB], by simp only [KB], Nat.zero_le _, Nat.le_refl _, Ac.nil (by decide) (by decide) (by rw [hxd]; decide), hd6, k1.es, k1.t⟩, ⟨_, _, rfl⟩, by rw [List.append_assoc]; rfl⟩
      · rintro ⟨s1, b⟩ rhGr w' ⟨⟨m, h1, h2⟩, ⟨w10, w17, rfl⟩, rfl⟩
        have h1' : 0 + m = 1 + r2 := h1
        have h2' : GB x 0 0 m true { s0 with d := d6 } s1 b := h2
        have hac := h2'.ac.dl
        obtain ⟨e1, e2, e3⟩ := hac.bounds h2'.ok
        refine ws_ret (we_trim ?_)
        walk_at "w"
        refine rc_tuple ?_
        walk_at "w"
        refine rc_tupleO (gw p rp q3 x s1 ++ [(q2, D.dct W.hk)]).length (own_last _ _) ?_
        walk_at "w"
        refine ⟨dw p s1.d, ([(rp, D.lst [.int s1.r0, .int s1.r1, .int s1.r2]), (q3, D.lst (s1.es.map fun e => .adr e.a))] : Own) ++ (s1.es.map fun e => (e.a, D.lst [.str e.w, .int e.c, .int (x.beGr e.w).d])) ++ [(q2, D.dct W.hk)] ++ [(blk, D.lst (eB b))], rfl, ?_⟩
        have hF := Fw_le (tP x s0)
        have hv := h2'.v
        have hk := h2'.k
        have hd := h2'.d
        have hl := h2'.l
        have a1 := hac.b0
        have a2 := hac.a0
        have a3 := hac.c
        have a4 := hac.d
        have a5 := hac.e0
        have a6 := hac.f0
        have a7 := hac.f
        subst hx
        refine hP names W b s1.d ⟨hnames, ⟨v1, v0, c1, c0, hw1, hw0, hlt, g4'⟩, hv, hk, hd, by omega, Int.le_trans e1 k2, a2, Int.le_trans e2 k3, ?_, a4, a5, Int.le_trans e3 hF, a6, a7⟩ h2'.ok.d
        have a3' : (joinM (mL W.beGr b)).c ≤ 3 - ((0 : Nat) : Int) + 4 := a3
        show (joinM (mL W.beGr b)).c ≤ 7
        omega
      · rintro ⟨s1, b⟩ y ys rhGr w' ⟨⟨m, h1, h2⟩, ⟨w10, w17, rfl⟩, rfl⟩
        have h1' : ys.length + 1 + m = 1 + r2 := h1
        have h2' : GB x 0 0 m true { s0 with d := d6 } s1 b := h2
        have hargs : [D.adr p, .lst (nms names), .adr q3, .adr rp, .int 0, .int 0, .bl true, .lst [.int 3, .int 1]] = gargs p rp q3 x 0 0 true := by unfold gargs; rw [hxn]; rfl
        refine wg_name (WS.own (w' := gw p rp q3 x s1 ++ ([(q2, .dct W.hk)] ++ [(blk, .lst (eB b))])) (List.append_assoc ..) ?_)
        walk_at "w"
        refine cpF (mine := gw p rp q3 x s1) rfl ⟨rfl, x, p, rp, q3, s1, 0, 0, true, hargs, rfl, ⟨by rw [hxn]; exact hnm, rfl, by decide, by decide, by rw [hxd]; decide⟩, h2'.ok, fun s2 a ok => ?_, fun st s2 g => ?_⟩
        · walk_at "w"
          refine rd_notN ?_
          walk_at "w"
          exact ⟨(s2, b), ⟨m + 1, by show ys.length + (m + 1) = 1 + r2; omega, h2'.pass a ok⟩, ⟨_, _, rfl⟩, (List.append_assoc ..).symm⟩
        · walk_at "w"
          refine rd_notN ?_
          rw [eS_non]
          walk_at "w"
          refine we_append ?_
          walk_at "w"
          rw [← List.append_assoc]
          refine ⟨blk, rfl, ⟨(gw p rp q3 x s2 ++ [(q2, D.dct W.hk)]).length, _, own_last _ _⟩, ?_⟩
          walk_at "w"
          refine ⟨(gw p rp q3 x s2 ++ [(q2, D.dct W.hk)]).length, _, own_last _ _, by rw [eB_len]; have hbl : b.len ≤ m := h2'.l; show b.len < _; omega, ?_⟩
          rw [own_last_set]
          exact ⟨(s2, b.app (.cons st .nil)), ⟨m + 1, by show ys.length + (m + 1) = 1 + r2; omega, h2'.snoc g⟩, ⟨_, _, rfl⟩, by rw [eB_app]; rfl⟩
  · rintro ⟨d4, W, c1, c0, a1, a0⟩ x xs rhGr w' ⟨⟨m, g1, g2⟩, g3, g4, ⟨v10, v11, v12, v13, v14, v15, v16, v17, hrhGr⟩, hw'⟩
    cases W with
    | n2 w1 b1 w0 b0 =>
      have g2' : 2 + m = r := g2
      have : m = 0 := by omega
      subst this
      cases g1
    | n0 =>
      obtain ⟨h1, h2⟩ := g4
      have h1' : c1 = 0 := h1
      have h2' : c0 = 0 := h2
      subst h1' h2'
      cases m with
      | zero => cases g1
      | succ m =>
        have g1' : x :: xs = .int ((0 : Nat) : Int) :: natsF 1 m := g1
        obtain ⟨rfl, rfl⟩ := List.cons.inj g1'
        have hrhGr' : rhGr = [some (.adr p), some (.int many), some (.int 4), some (.lst [.int 3, .int 1]), some (.lst (nms names)), some (.lst (nms [v0, v1])), some (.adr q1), some (.adr q2), some (.adr q3), some (.int 0), v10, v11, v12, v13, v14, v15, v16, v17] := hrhGr
        have hw2 : w' = [(p, .lst (eDc d4)), (q1, .dct []), (q2, .dct []), (q3, .lst [])] := hw'
        subst hrhGr' hw2
        walk_at "w"
        refine we_lstO ?_
        walk_at "w"
        intro rp
        refine ws_seq (WS.imp (PO := fun o => ∃ (c : Nat) (d5 : Dc), c ≤ 1 ∧ DcOk d5 ∧ o = .nx [some (.adr p), some (.int many), some (.int 4), some (.lst [.int 3, .int 1]), some (.lst (nms names)), some (.lst (nms [v0, v1])), some (.adr q1), some (.adr q2), some (.adr q3), some (.int 0), some (.int ((0 : Nat) : Int)), some (.str v1), some (.adr rp), v13, v14, v15, v16, v17]
          [(p, .lst (eDc d5)), (q1, .dct []), (q2, .dct []), (q3, .lst []), (rp, .lst [.int ((2 : Nat) : Int), .int (c : Nat), .int ((1 : Nat) : Int)])]) ?_ ?_)
        · walk_at "w"
          refine cpF (mine := dw p d4) rfl ⟨rfl, p, d4, 3, rfl, rfl, g3, by decide, by decide, fun u d5 hu2 hd5 => ?_⟩
          by_cases hz : u = 0
          · subst hz
            walk_at "w"
            refine wg_subL ?_
            walk_at "w"
            refine ⟨rp, rfl, ?_⟩
            walk_at "w"
            exact ⟨1, rfl, 4, _, rfl, Nat.le_of_ble_eq_true rfl, 1, d5, Nat.le_refl _, hd5, rfl⟩
          · walk_at "w"
            refine rd_eq_int_f (by omega) ?_
            walk_at "w"
            exact ⟨0, d5, Nat.zero_le _, hd5, rfl⟩
        · rintro o ⟨c, d5, hc, hd5, rfl⟩
          refine ws_seq (ws_asg (we_lcI (wi_anyO (we_var rfl ⟨q3, [], rfl, by simp, ?_⟩))))
          refine ⟨fun i acc w' => i = 0 ∧ acc = [] ∧ w' = [(p, .lst (eDc d5)), (q1, .dct []), (q2, .dct []), (q3, .lst []), (rp, .lst [.int ((2 : Nat) : Int), .int (c : Nat), .int ((1 : Nat) : Int)])], ⟨rfl, rfl, rfl⟩, Nat.zero_le _, fun i acc w' x h => by rw [h.2.2]; simp, fun i acc w' h => by rw [h.2.1]; exact Nat.zero_le _, fun i acc w' x h => (by cases h), ?_⟩
          rintro acc w' ⟨-, rfl, rfl⟩ lp
          walk_at "w"
          refine rd_ix_lstO 4 rfl (by decide) rfl ?_
          refine ws_seq (ws_asgG (we_keep (we_callP0 ?_)))
          walk_at "w"
          refine ⟨gw p rp lp ⟨names, [], beGr0, [], fun _ => 0, 0⟩ ⟨d5, 2, c, 1, []⟩, [(q1, .dct []), (q2, .dct []), (q3, .lst [])], perm_call _ _ _ _ _ _ [] [], rfl, ⟨names, [], beGr0, [], fun _ => 0, 0⟩, p, rp, lp, ⟨d5, 2, c, 1, []⟩, 1, 0, 2, false, rfl, rfl, ⟨hnm, rfl, by decide, by decide, Int.le_refl _⟩, ⟨hd5, fun en h => (by cases h), by show c + 0 ≤ 3; omega⟩, by decide, fun b s' g => ?_⟩
          obtain ⟨e1, e2, e3⟩ := g.ac.bounds g.ok
          have hB : B1Ok names b c := ⟨hc, g.v, g.k, g.d, g.l, g.ac.b0, e1, g.ac.a0, by have h : (joinM (mL beGr0 b)).a ≤ ((2 : Nat) : Int) + (c : Nat) + ((1 : Nat) : Int) + 0 := e2; omega, g.ac.c0, g.ac.c, g.ac.d0, g.ac.d, g.ac.e0, e3, g.ac.f0, g.ac.f⟩
          refine ⟨[(p, .lst (eDc s'.d)), (q1, .dct []), (q2, .dct []), (q3, .lst [])], _, perm_back _ _ _ _ _, ?_⟩
          refine wg_subD ?_
          walk_at "w"
          refine ⟨q1, rfl, ?_⟩
          walk_at "w"
          refine ⟨v1, rfl, 1, _, rfl, .nil, by decide, ?_⟩
          refine WS.own (w' := [(p, .lst (eDc s'.d)), (q1, .dct [(v1, .tup (eB b))]), (q2, .dct []), (q3, .lst [])]) rfl ?_
          refine ws_seq (ws_asgG (we_keep (we_callP0 ?_)))
          walk_at "w"
          refine rd_ix_dctO (d := .tup (eB b)) 1 rfl (by simp [lk]) ?_
          walk_at "w"
          refine ⟨[(q2, .dct [])], _, perm_third _ _ _ _, rfl, b, q2, [], beGr0, rfl, rfl, CaB_of (fun x h => by cases h) b g.v, by have := g.d; omega, ?_⟩
          refine ⟨[(p, .lst (eDc s'.d)), (q1, .dct [(v1, .tup (eB b))]), (q2, .dct []), (q3, .lst [])], [], perm_third' _ _ _ _, ?_⟩
          refine wg_subD ?_
          walk_at "w"
          refine ⟨q2, rfl, ?_⟩
          walk_at "w"
          refine ⟨v1, rfl, 2, _, rfl, .nil, by decide, ?_⟩
          refine WS.own (w' := [(p, .lst (eDc s'.d)), (q1, .dct [(v1, .tup (eB b))]), (q2, .dct [(v1, .int (joinM (mL beGr0 b)).d)]), (q3, .lst [])]) rfl ?_
          walk_at "w"
          refine we_append ?_
          walk_at "w"
          refine ⟨q3, rfl, ⟨3, _, rfl⟩, ?_⟩
          refine we_lstO ?_
          walk_at "w"
          refine rd_ix_dctO (d := .int (joinM (mL beGr0 b)).d) 2 rfl (by simp [lk]) ?_
          walk_at "w"
          intro na
          refine ⟨3, _, rfl, by decide, ?_⟩
          refine ⟨(s'.d, .n1 v1 b, c, 0, na, 0), ⟨m, rfl, by have g2' : 0 + (m + 1) = r := g2; show 1 + m = r; omega⟩, g.ok.d, ⟨rfl, rfl, hB⟩, ⟨_, _, _, _, _, _, _, _, by rw [show (0 : Int) + (c : Nat) = ((c + 0 : Nat) : Int) by omega]; rfl⟩, ?_⟩
          rw [show (2 : Int) - ((0 : Nat) : Int) - (c : Nat) + ((0 : Nat) : Int) = 2 - (c : Nat) by omega]
          rfl
    | n1 w1 b1 =>
      obtain ⟨h1, h2, hB1⟩ := g4
      have h1' : w1 = v1 := h1
      have h2' : c0 = 0 := h2
      subst h1' h2'
      have hne1 : ¬ w1 = v0 := fun e => hne e.symm
      cases m with
      | zero => cases g1
      | succ m =>
        have g1' : x :: xs = .int ((1 : Nat) : Int) :: natsF 2 m := g1
        obtain ⟨rfl, rfl⟩ := List.cons.inj g1'
        have hB1' : B1Ok names b1 c1 := hB1
        generalize hdv : (joinM (mL beGr0 b1)).d = dv at *
        have hrhGr' : rhGr = [some (.adr p), some (.int many), some (.int 4), some (.lst [.int 3, .int 1]), some (.lst (nms names)), some (.lst (nms [v0, w1])), some (.adr q1), some (.adr q2), some (.adr q3), some (.int (c1 : Nat)), v10, v11, v12, v13, v14, v15, v16, v17] := by rw [hrhGr]; rfl
        have hw2 : w' = [(p, .lst (eDc d4)), (q1, .dct [(w1, .tup (eB b1))]), (q2, .dct [(w1, .int dv)]), (q3, .lst [.adr a1]), (a1, .lst [.str w1, .int (2 - (c1 : Nat)), .int dv])] := by rw [hw', ← hdv]; rfl
        subst hrhGr' hw2
        walk_at "w"
        refine we_lstO ?_
        walk_at "w"
        intro rp
        refine ws_seq (WS.imp (PO := fun o => ∃ (c : Nat) (d5 : Dc), c1 + c ≤ 1 ∧ DcOk d5 ∧ o = .nx [some (.adr p), some (.int many), some (.int 4), some (.lst [.int 3, .int 1]), some (.lst (nms names)), some (.lst (nms [v0, w1])), some (.adr q1), some (.adr q2), some (.adr q3), some (.int (c1 : Nat)), some (.int ((1 : Nat) : Int)), some (.str v0), some (.adr rp), v13, v14, v15, v16, v17]
          ([(p, .lst (eDc d5)), (q1, .dct [(w1, .tup (eB b1))]), (q2, .dct [(w1, .int dv)]), (q3, .lst [.adr a1]), (a1, .lst [.str w1, .int (2 - (c1 : Nat)), .int dv]), (rp, .lst [.int ((1 : Nat) : Int), .int (c : Nat), .int ((1 : Nat) : Int)])])) ?_ ?_)
        · have hc1 := hB1'.c
          by_cases hz1 : c1 = 0
          · subst hz1
            walk_at "w"
            refine cpF (mine := dw p d4) rfl ⟨rfl, p, d4, 3, rfl, rfl, g3, by decide, by decide, fun u d5 hu2 hd5 => ?_⟩
            by_cases hz : u = 0
            · subst hz
              walk_at "w"
              refine wg_subL ?_
              walk_at "w"
              refine ⟨rp, rfl, ?_⟩
              walk_at "w"
              exact ⟨1, rfl, 5, _, rfl, Nat.le_of_ble_eq_true rfl, 1, d5, Nat.le_refl _, hd5, rfl⟩
            · walk_at "w"
              refine rd_eq_int_f (by omega) ?_
              walk_at "w"
              exact ⟨0, d5, by decide, hd5, rfl⟩
          · have : c1 = 1 := by omega
            subst this
            walk_at "w"
            exact ⟨0, d4, by decide, g3, rfl⟩
        · rintro o ⟨c, d5, hc, hd5, rfl⟩
          refine ws_seq (WS.imp (PO := fun o => ∃ (es : List Ent) (lp : Addr), (es = [] ∨ (c1 = 0 ∧ ∃ e, es = [⟨e, w1, 1⟩])) ∧ o = .nx [some (.adr p), some (.int many), some (.int 4), some (.lst [.int 3, .int 1]), some (.lst (nms names)), some (.lst (nms [v0, w1])), some (.adr q1), some (.adr q2), some (.adr q3), some (.int (c1 : Nat)), some (.int ((1 : Nat) : Int)), some (.str v0), some (.adr rp), some (.adr lp), v14, v15, v16, v17]
            ((p, .lst (eDc d5)) :: (q1, .dct [(w1, .tup (eB b1))]) :: (q2, .dct [(w1, .int dv)]) :: (q3, .lst [.adr a1]) :: ([(a1, .lst [.str w1, .int (2 - (c1 : Nat)), .int dv])] ++ ((rp, .lst [.int ((1 : Nat) : Int), .int (c : Nat), .int ((1 : Nat) : Int)]) :: (es.map (fun e => (e.a, D.lst [.str e.w, .int e.c, .int dv])) ++ [(lp, .lst (es.map fun e => .adr e.a))]))))) ?_ ?_)
          · refine ws_asg (we_lcI (wi_anyO (we_var rfl ⟨q3, [.adr a1], rfl, by simp, ?_⟩)))
            refine ⟨fun i acc w' => ∃ es : List Ent, (es = [] ∨ (c1 = 0 ∧ ∃ e, es = [⟨e, w1, 1⟩])) ∧ (i = 0 → es = []) ∧ acc = es.map (fun e => D.adr e.a) ∧ w' = (p, .lst (eDc d5)) :: (q1, .dct [(w1, .tup (eB b1))]) :: (q2, .dct [(w1, .int dv)]) :: (q3, .lst [.adr a1]) :: (a1, .lst [.str w1, .int (2 - (c1 : Nat)), .int dv]) :: (rp, .lst [.int ((1 : Nat) : Int), .int (c : Nat), .int ((1 : Nat) : Int)]) :: es.map (fun e => (e.a, D.lst [.str e.w, .int e.c, .int dv])), ⟨[], .inl rfl, fun _ => rfl, rfl, rfl⟩, Nat.le_of_ble_eq_true rfl, ?_, ?_, ?_, ?_⟩
            · rintro i acc w' x ⟨es, _, _, _, rfl⟩
              simp
            · rintro i acc w' ⟨es, h1, h2, rfl, _⟩
              rcases h1 with rfl | ⟨_, e, rfl⟩
              · exact Nat.zero_le _
              · have : ¬ i = 0 := fun z => by have := h2 z; cases this
                show 1 ≤ i
                omega
            · rintro i acc w' x hx ⟨es, h1, h2, rfl, rfl⟩
              have hi : i = 0 := by
                have := (List.getElem?_eq_some_iff.mp hx).1
                have h3 : i < 1 := this
                omega
              subst hi
              have := h2 rfl
              subst this
              obtain rfl : x = .adr a1 := by simpa using hx.symm
              have hc1 := hB1'.c
              by_cases hz1 : c1 = 0
              · subst hz1
                walk_at "w"
                refine we_lstO ?_
                walk_at "w"
                refine rd_ix_lstO 4 rfl (by decide) rfl ?_
                walk_at "w"
                refine rd_ix_lstO 4 rfl (by decide) rfl ?_
                walk_at "w"
                intro e
                exact ⟨[⟨e, w1, 1⟩], .inr ⟨rfl, e, rfl⟩, fun z => (by cases z), rfl, rfl⟩
              · have : c1 = 1 := by omega
                subst this
                walk_at "w"
                exact ⟨[], .inl rfl, fun _ => rfl, rfl, rfl⟩
            · rintro acc w' ⟨es, h1, h2, rfl, rfl⟩ lp
              exact ⟨es, lp, h1, rfl⟩
          · rintro o ⟨es, lp, hes, rfl⟩
            have hx1 : beGr1 w1 b1 w1 = joinM (mL beGr0 b1) := by unfold beGr1; rw [if_pos rfl]
            have hEs : ∀ en ∈ es, en.w = w1 ∧ en.c = 1 ∧ c1 = 0 := fun en he => by
              rcases hes with rfl | ⟨hc0, e, rfl⟩
              · cases he
              · obtain rfl : en = ⟨e, w1, 1⟩ := by simpa using he
                exact ⟨rfl, rfl, hc0⟩
            have hgw : es.map (fun e => (e.a, D.lst [.str e.w, .int e.c, .int dv])) = es.map fun e => (e.a, D.lst [.str e.w, .int e.c, .int (beGr1 w1 b1 e.w).d]) := List.map_congr_left fun en he => by rw [(hEs en he).1, hx1, hdv]
            refine ws_seq (ws_asg (we_op (we_var rfl (we_int (rd_ix_lstO 5 rfl (by decide) rfl ?_)))))
            refine ws_seq (ws_asgG (we_keep (we_callP0 ?_)))
            walk_at "w"
            have hq : ∀ es : List Ent, sumQ (fun _ => 0) es = 0 := by
              intro es
              induction es with
              | nil => rfl
              | cons e es ih => show e.c * 0 + _ = 0; rw [ih, Nat.mul_zero]
            have hG : GsOk ⟨names, [w1], beGr1 w1 b1, [(w1, eM (joinM (mL beGr0 b1)))], fun _ => 0, 2⟩ ⟨d5, 1, c, 1, es⟩ := ⟨hd5, fun en he => by
              obtain ⟨e1, e2, e3⟩ := hEs en he
              have hfe := hB1'.e
              rw [e3] at hfe
              have he1 : beGr1 w1 b1 en.w = joinM (mL beGr0 b1) := by rw [e1, hx1]
              exact {
                w := by rw [e1]; simp
                k := by show lk [(w1, eM (joinM (mL beGr0 b1)))] en.w = some (eM (beGr1 w1 b1 en.w)); rw [he1, e1]; simp [lk]
                a := by show 0 ≤ (beGr1 w1 b1 en.w).a; rw [he1]; exact hB1'.a0
                b := by show 0 ≤ (beGr1 w1 b1 en.w).b; rw [he1]; exact hB1'.b0
                c0 := by show 0 ≤ (beGr1 w1 b1 en.w).c; rw [he1]; exact hB1'.cc0
                c := by show (beGr1 w1 b1 en.w).c ≤ 2; rw [he1]; exact hB1'.cc
                d := by show 0 ≤ (beGr1 w1 b1 en.w).d; rw [he1, hdv]; have := hB1'.dd0; rw [hdv] at this; exact this
                e0 := by show 1 ≤ (beGr1 w1 b1 en.w).e; rw [he1]; exact hB1'.e0
                e := by show (beGr1 w1 b1 en.w).e ≤ Fw2 0; rw [he1]; exact hfe
                f0 := by show 1 ≤ (beGr1 w1 b1 en.w).f; rw [he1]; exact hB1'.f0
                f := by show (beGr1 w1 b1 en.w).f ≤ 24; rw [he1]; exact hB1'.f }, by show c + sumQ (fun _ => 0) es ≤ 3; rw [hq]; omega⟩
            refine ⟨gw p rp lp ⟨names, [w1], beGr1 w1 b1, [(w1, eM (joinM (mL beGr0 b1)))], fun _ => 0, 2⟩ ⟨d5, 1, c, 1, es⟩, _, by rw [hgw]; exact perm_call _ _ _ _ _ _ _ _, rfl, ⟨names, [w1], beGr1 w1 b1, [(w1, eM (joinM (mL beGr0 b1)))], fun _ => 0, 2⟩, p, rp, lp, ⟨d5, 1, c, 1, es⟩, 1, 0, 2, false, rfl, rfl, ⟨hnm, rfl, by decide, by decide, by show (0 : Int) ≤ 2; decide⟩, hG, by decide, fun b s' g => ?_⟩
            obtain ⟨e1, e2, e3⟩ := g.ac.bounds g.ok
            have hsb : sumE (fun e => (beGr1 w1 b1 e.w).b) es ≤ 2 := by
              rcases hes with rfl | ⟨hc0, e, rfl⟩
              · show (0 : Int) ≤ 2; decide
              · show ((1 : Nat) : Int) * (beGr1 w1 b1 w1).b + 0 ≤ 2
                rw [hx1]; have := hB1'.b; omega
            have hsa : sumE (fun e => (beGr1 w1 b1 e.w).a) es ≤ 3 := by
              rcases hes with rfl | ⟨hc0, e, rfl⟩
              · show (0 : Int) ≤ 3; decide
              · show ((1 : Nat) : Int) * (beGr1 w1 b1 w1).a + 0 ≤ 3
                rw [hx1]; have := hB1'.a; omega
            have e1' : (joinM (mL (beGr1 w1 b1) b)).b ≤ ((1 : Nat) : Int) + sumE (fun e => (beGr1 w1 b1 e.w).b) es := e1
            have e2' : (joinM (mL (beGr1 w1 b1) b)).a ≤ ((1 : Nat) : Int) + (c : Nat) + ((1 : Nat) : Int) + sumE (fun e => (beGr1 w1 b1 e.w).a) es := e2
            have e3' : (joinM (mL (beGr1 w1 b1) b)).e ≤ Fw2 (c + sumQ (fun _ => 0) es) := e3
            rw [hq, Nat.add_zero] at e3'
            have hB : B0Ok names w1 b1 c1 b c := ⟨hc, g.v, g.k, g.d, g.l, g.ac.b0, by omega, g.ac.a0, by omega, g.ac.c0, g.ac.c, g.ac.d0, g.ac.d, g.ac.e0, e3', g.ac.f0, g.ac.f⟩
            refine ⟨[(p, .lst (eDc s'.d)), (q1, .dct [(w1, .tup (eB b1))]), (q2, .dct [(w1, .int dv)]), (q3, .lst [.adr a1]), (a1, .lst [.str w1, .int (2 - (c1 : Nat)), .int dv])], _, perm_back _ _ _ _ _, ?_⟩
            refine wg_subD ?_
            walk_at "w"
            refine ⟨q1, rfl, ?_⟩
            walk_at "w"
            refine ⟨v0, rfl, 1, _, rfl, by simp, by show (1 : Nat) < 10000000; decide, ?_⟩
            refine WS.own (w' := [(p, .lst (eDc s'.d)), (q1, .dct [(w1, .tup (eB b1)), (v0, .tup (eB b))]), (q2, .dct [(w1, .int dv)]), (q3, .lst [.adr a1]), (a1, .lst [.str w1, .int (2 - (c1 : Nat)), .int dv])]) (by simp [putD, hne1]) ?_
            refine ws_seq (ws_asgG (we_keep (we_callP0 ?_)))
            walk_at "w"
            refine rd_ix_dctO (d := .tup (eB b)) 1 rfl (by simp [lk, hne1]) ?_
            walk_at "w"
            refine ⟨[(q2, .dct [(w1, .int dv)])], _, perm_third _ _ _ _, rfl, b, q2, [(w1, .int dv)], beGr1 w1 b1, rfl, rfl, CaB_of (fun x h => by
              obtain rfl : x = w1 := by simpa using h
              rw [hx1, hdv]; simp [lk]) b g.v, by have := g.d; omega, ?_⟩
            refine ⟨[(p, .lst (eDc s'.d)), (q1, .dct [(w1, .tup (eB b1)), (v0, .tup (eB b))]), (q2, .dct [(w1, .int dv)]), (q3, .lst [.adr a1]), (a1, .lst [.str w1, .int (2 - (c1 : Nat)), .int dv])], [], perm_third' _ _ _ _, ?_⟩
            refine wg_subD ?_
            walk_at "w"
            refine ⟨q2, rfl, ?_⟩
            walk_at "w"
            refine ⟨v0, rfl, 2, _, rfl, by simp, by show (1 : Nat) < 10000000; decide, ?_⟩
            refine WS.own (w' := [(p, .lst (eDc s'.d)), (q1, .dct [(w1, .tup (eB b1)), (v0, .tup (eB b))]), (q2, .dct [(w1, .int dv), (v0, .int (joinM (mL (beGr1 w1 b1) b)).d)]), (q3, .lst [.adr a1]), (a1, .lst [.str w1, .int (2 - (c1 : Nat)), .int dv])]) (by simp [putD, hne1, dD]) ?_
            walk_at "w"
            refine we_append ?_
            walk_at "w"
            refine ⟨q3, rfl, ⟨3, _, rfl⟩, ?_⟩
            refine we_lstO ?_
            walk_at "w"
            refine rd_ix_dctO (d := .int (joinM (mL (beGr1 w1 b1) b)).d) 2 rfl (by simp [lk, hne1]) ?_
            walk_at "w"
            intro na
            refine ⟨3, _, rfl, by show (1 : Nat) < 10000000; decide, ?_⟩
            refine ⟨(s'.d, .n2 w1 b1 v0 b, c1, c, a1, na), ⟨m, rfl, by have g2' : 1 + (m + 1) = r := g2; show 2 + m = r; omega⟩, g.ok.d, ⟨rfl, rfl, hB1', hB⟩, ⟨_, _, _, _, _, _, _, _, by rw [show ((c1 : Nat) : Int) + (c : Nat) = ((c1 + c : Nat) : Int) by omega]; rfl⟩, ?_⟩
            rw [show (2 : Int) - ((1 : Nat) : Int) - (c : Nat) + ((1 : Nat) : Int) = 2 - (c : Nat) by omega, ← hdv]
            rfl
end
end Hw
/-! HwAB -/
namespace Hw
def eOrdL (n : Nat) : D := .lst ((ordN n).map fun o => .lst (o.map fun k : Nat => .int (k : Int)))
def S_law_worth : DSpec := fun ds w P _ => ds.length = 2 ∧ ∃ (ts : List Trm) (p : Addr) (kvs : List (Str × D)) (names : List Str) (nuGr : Str → Int), ds = [eTs ts, .adr p] ∧ w = [(p, .dct kvs)] ∧ Nu kvs names nuGr ∧ NuB names nuGr ∧ (∀ t ∈ ts, VPn names t.2 ∧ 1 ≤ t.1 ∧ t.1 ≤ 9) ∧ P (.int (sumV nuGr ts)) w
def S_law_do : DSpec := fun ds w P _ => ds.length = 2 ∧ ∃ (r : Row) (p : Addr) (kvs : List (Str × D)) (names : List Str) (nuGr : Str → Int), ds = [eR r, .adr p] ∧ w = [(p, .dct kvs)] ∧ Nu kvs names nuGr ∧ NuB names nuGr ∧ RowN names r ∧ P .non [(p, .dct (putD kvs r.tgt (.int (rowV nuGr r))))]
theorem eraseIdx_perm {alGr : Type} : ∀ {l : List alGr} {i : Nat} {a : alGr}, l[i]? = some a → l.Perm (a :: l.eraseIdx i)
  | [], _, _, h => by simp at h
  | x :: l, 0, a, h => by simp at h; subst h; exact .refl _
  | x :: l, i + 1, a, h => by
    have := eraseIdx_perm (l := l) (i := i) (by simpa using h)
    exact (List.Perm.cons x this).trans (List.Perm.swap ..)
theorem map_erase {alGr beGr : Type} (f : alGr → beGr) : ∀ (l : List alGr) (i : Nat), (l.map f).eraseIdx i = (l.eraseIdx i).map f
  | [], _ => rfl
  | _ :: _, 0 => rfl
  | x :: l, i + 1 => by show f x :: (l.map f).eraseIdx i = f x :: (l.eraseIdx i).map f; rw [map_erase f l i]
section
variable {P : Program} {w : World} {K : PySem.W.Frag} {mg : Str → Option Value} {base : Heap} {T : Addr}
abbrev st_law_turned : Stmt := top 94
abbrev N_law_turned : List Str := ["_law_dice_here", "_law_starts_here", "_law_names_here", "_law_told", "_law_k", "_law_name"]
theorem sc_law_turned : FnScope N_law_turned ["_law_dice_here", "_law_starts_here"] (defScope st_law_turned) := ⟨rfl, rfl, rfl, by decide +kernel, rfl, by decide +kernel, by decide +kernel⟩

theorem ok_law_turned {k : Nat} (bl : Blt mg) (F : DefAt K mg "_law_turned" st_law_turned ["_law_dice_here", "_law_starts_here"]) (h__law_draw : Has P w K mg base CX0 "_law_draw" ["_law_dice_here", "_law_many"] k (spOf K T S_law_draw)) : Has P w K mg base CX0 "_law_turned" ["_law_dice_here", "_law_starts_here"] (k + 1) (spOf K T S_law_turned) := by
  refine defD F sc_law_turned (fun _ _ _ _ h => h.1) fun f cdv A outer s H E hr => ?_
  have hu := hu_of hr
  have hu64 := hr.units
  have nd := sc_law_turned.nd
  refine ⟨_, (pss_cons (ps_set (i := 2) nd rfl (Or.inl rfl) (pe_callTy (k_list (K := K) rfl rfl) rfl bl.list bt_list (pa_cons (pv 1) pa_nil)))
      (pss_cons (ps_set (i := 3) nd rfl (Or.inl rfl) pe_dnewK)
      (pss_cons (ps_for PassesOwn.never rfl (pi_range1 rfl bl.range (pa_cons (pe_callB (k_len (K := K) rfl) rfl bl.len bt_len (pa_cons (pv 1) pa_nil)) pa_nil)) (pg_name (i := 4) nd rfl (Or.inl rfl))
        (pss_cons (ps_set (i := 5) nd rfl (Or.inl rfl) (pe_bm PySem.F.plainAttrs_list PySem.F.slot_list_pop PySem.F.type_list_pop mt_popAt (pv 2) (pa_cons (pe_callH h__law_draw hr rfl pass0 (pa_cons (pv 0) (pa_cons (pe_callB (k_len (K := K) rfl) rfl bl.len bt_len (pa_cons (pv 2) pa_nil)) pa_nil))) pa_nil)))
        (pss_one (ps_asg (pe_ix (k_ix (K := K) rfl hu) (pv 1) (pv 5) (fun _ _ => rfl)) (pg_sub (pv 3) (pv 5) (set_X hu))))))
      (pss_one (ps_ret (pv 3)))))), ?_⟩
  rintro ds w P X ⟨-, p, d, names, nuGr, rfl, rfl, hd, hnd, hn4, hP⟩
  have el : (eNu names nuGr).length = names.length := by unfold eNu; rw [List.length_map]
  have ek : (eNu names nuGr).map (fun kv => D.str kv.1) = nms names := by unfold eNu nms; rw [List.map_map]; rfl
  walk_at "w"
  refine rc_list_dctO fun q => ?_
  rw [ek]
  walk_at "w"
  intro q2
  walk_at "w"
  refine wi_rng1 ?_
  walk_at "w"
  refine rc_len_dct ?_
  rw [el]
  walk_at "w"
  refine ⟨_, rfl, by omega, by omega, fun _ => trivial, ?_⟩
  rw [Int.toNat_natCast]
  have hl : (iterN names.length).length = names.length := iterN_len _
  refine turns_ind (A := Dc × List Str × List Str) (fun z ds rhGr w' => ds.length = z.2.2.length ∧ (z.2.1 ++ z.2.2).Perm names ∧ DcOk z.1 ∧ (∃ v4 v5, rhGr = [some (.adr p), some (.dct (eNu names nuGr)), some (.adr q), some (.adr q2), v4, v5]) ∧ w' = [(p, .lst (eDc z.1)), (q, .lst (nms z.2.2)), (q2, .dct (eNu z.2.1 nuGr))]) ?_ ?_ (d, [], names) ⟨hl, .refl _, hd, ⟨none, none, rfl⟩, rfl⟩
  · rintro ⟨d1, done, rest⟩ rhGr w' ⟨h1, h2, h3, ⟨v4, v5, rfl⟩, rfl⟩
    cases rest with
    | cons y rest => cases h1
    | nil =>
      rw [List.append_nil] at h2
      have hlen := h2.length_eq
      have hnd2 := h2.symm.nodup_iff.mp hnd
      refine ws_ret (we_trim (we_freeze ?_))
      walk_at "w"
      refine ⟨2, q2, _, rfl, rfl, [(p, .lst (eDc d1))], _, rfl, hP (eNu done nuGr) d1 ⟨fun x hx => lk_eNu (h2.mem_iff.mpr hx), by rw [eNu_keys]; exact hnd2, ?_, fun x hx => by rw [eNu_keys]; exact h2.mem_iff.mpr hx⟩ ?_ h3⟩
      · unfold eNu; rw [List.length_map]; have hl2 : done.length = names.length := hlen; omega
      · unfold eNu; rw [List.length_map]; exact hlen
  · rintro ⟨d1, done, rest⟩ x xs rhGr w' ⟨h1, h2, h3, ⟨v4, v5, rfl⟩, rfl⟩
    have h1' : xs.length + 1 = rest.length := h1
    have h2l : done.length + rest.length = names.length := by have := h2.length_eq; rw [List.length_append] at this; exact this
    have hrl : rest.length ≤ 4 := by omega
    have hdl : done.length ≤ 4 := by omega
    have hnl : (nms rest).length = rest.length := List.length_map ..
    walk_at "w"
    refine we_popAt ?_
    walk_at "w"
    refine ⟨q, rfl, ⟨1, _, rfl⟩, ?_⟩
    walk_at "w"
    refine rc_len_lstO 1 rfl ?_
    rw [hnl]
    walk_at "w"
    refine cpF (mine := [(p, .lst (eDc d1))]) rfl ⟨rfl, p, d1, rest.length, rfl, rfl, h3, by omega, by omega, fun r d2 hr hd2 => ?_⟩
    have hat : rest[r]? = some rest[r] := by simp [hr]
    have hperm := eraseIdx_perm hat
    generalize hy : rest[r] = y at hat hperm
    refine ⟨r, rfl, 1, nms rest, .str y, rfl, by unfold nms; rw [List.getElem?_map, hat]; rfl, by rw [hnl]; omega, ?_⟩
    have hp2 : ((done ++ [y]) ++ rest.eraseIdx r).Perm names := by
      rw [List.append_assoc]
      exact (List.Perm.append_left done hperm.symm).trans h2
    have hmem : y ∈ names := hp2.mem_iff.mp (by simp)
    have hyd : y ∉ done := by
      have := hp2.symm.nodup_iff.mp hnd
      have := (List.nodup_append.mp this).1
      intro h
      exact (List.nodup_append.mp this).2.2 y h y (by simp) rfl
    walk_at "w"
    refine rd_ix_dct (lk_eNu hmem) ?_
    refine wg_subD ?_
    walk_at "w"
    refine ⟨q2, rfl, ?_⟩
    walk_at "w"
    refine ⟨y, rfl, 2, eNu done nuGr, rfl, by rw [eNu_keys]; exact (List.nodup_append.mp (List.nodup_append.mp (hp2.symm.nodup_iff.mp hnd)).1).1, by unfold eNu; rw [List.length_map]; omega, ?_⟩
    refine ⟨(d2, done ++ [y], rest.eraseIdx r), ?_, hp2, hd2, ⟨_, _, rfl⟩, ?_⟩
    · show xs.length = (rest.eraseIdx r).length
      rw [List.length_eraseIdx_of_lt hr]
      omega
    · rw [putD_new (by rw [eNu_keys]; exact hyd)]
      show [(p, D.lst (eDc d2)), (q, D.lst ((nms rest).eraseIdx r)), (q2, D.dct (eNu done nuGr ++ [(y, .int (nuGr y))]))] = [(p, D.lst (eDc d2)), (q, D.lst (nms (rest.eraseIdx r))), (q2, D.dct (eNu (done ++ [y]) nuGr))]
      rw [eNu_app]
      unfold nms
      rw [map_erase]
      rfl
abbrev st_law_orders : Stmt := top 82
abbrev N_law_orders : List Str := ["_law_many"]
theorem sc_law_orders : FnScope N_law_orders ["_law_many"] (defScope st_law_orders) := ⟨rfl, rfl, rfl, by decide +kernel, rfl, by decide +kernel, by decide +kernel⟩

theorem ok_law_orders {k : Nat} (bl : Blt mg) (F : DefAt K mg "_law_orders" st_law_orders ["_law_many"]) : Has P w K mg base CX0 "_law_orders" ["_law_many"] (k + 1) (spOf K T S_law_orders) := by
  refine defD F sc_law_orders (fun _ _ _ _ h => h.1) fun f cdv A outer s H E hr => ?_
  have hu := hu_of hr
  have hu64 := hr.units
  have nd := sc_law_orders.nd
  refine ⟨_, (pss_cons (ps_if (pt_cmpR (k_eq (K := K) rfl hu64) (pv 0) pe_int (nomark _))
        (pss_one (ps_ret (pe_lst (pa_cons (pe_lst (pa_cons pe_int (pa_cons pe_int pa_nil))) (pa_cons (pe_lst (pa_cons pe_int (pa_cons pe_int pa_nil))) pa_nil)))))
        pss_nil)
      (pss_one (ps_ret (pe_lst (pa_cons (pe_lst (pa_cons pe_int (pa_cons pe_int (pa_cons pe_int pa_nil)))) (pa_cons (pe_lst (pa_cons pe_int (pa_cons pe_int (pa_cons pe_int pa_nil)))) (pa_cons (pe_lst (pa_cons pe_int (pa_cons pe_int (pa_cons pe_int pa_nil)))) (pa_cons (pe_lst (pa_cons pe_int (pa_cons pe_int (pa_cons pe_int pa_nil)))) (pa_cons (pe_lst (pa_cons pe_int (pa_cons pe_int (pa_cons pe_int pa_nil)))) (pa_cons (pe_lst (pa_cons pe_int (pa_cons pe_int (pa_cons pe_int pa_nil)))) pa_nil)))))))))), ?_⟩
  rintro ds w P X ⟨-, n, rfl, hn, hP⟩
  rcases hn with rfl | rfl
  · walk_at "w"
    refine we_lst (wa_cons (we_lst ?_))
    walk_at "w"
    refine we_lst ?_
    walk_at "w"
    exact hP
  · walk_at "w"
    refine we_lst (wa_cons (we_lst ?_))
    walk_at "w"
    refine we_lst ?_
    walk_at "w"
    refine we_lst ?_
    walk_at "w"
    refine we_lst ?_
    walk_at "w"
    refine we_lst ?_
    walk_at "w"
    refine we_lst ?_
    walk_at "w"
    exact hP
abbrev st_law_worth : Stmt := top 84
abbrev N_law_worth : List Str := ["_law_terms", "_law_numbers", "_law_worth_here", "_law_term", "_law_part", "_law_pair", "_law_k"]
theorem sc_law_worth : FnScope N_law_worth ["_law_terms", "_law_numbers"] (defScope st_law_worth) := ⟨rfl, rfl, rfl, by decide +kernel, rfl, by decide +kernel, by decide +kernel⟩

theorem ok_law_worth {k : Nat} (bl : Blt mg) (F : DefAt K mg "_law_worth" st_law_worth ["_law_terms", "_law_numbers"]) : Has P w K mg base CX0 "_law_worth" ["_law_terms", "_law_numbers"] (k + 1) (spOf K T S_law_worth) := by
  refine defD F sc_law_worth (fun _ _ _ _ h => h.1) fun f cdv A outer s H E hr => ?_
  have hu := hu_of hr
  have hu64 := hr.units
  have nd := sc_law_worth.nd
  refine ⟨_, (pss_cons (ps_set (i := 2) nd rfl (Or.inl rfl) pe_int)
      (pss_cons (ps_for PassesOwn.never rfl (k_walk (K := K) rfl (pv 0)) (pg_name (i := 3) nd rfl (Or.inl rfl))
        (pss_cons (ps_set (i := 4) nd rfl (Or.inl rfl) (pe_ix (k_ix (K := K) rfl hu) (pv 3) pe_int (fun _ _ => rfl)))
        (pss_cons (ps_for PassesOwn.never rfl (k_walk (K := K) rfl (pe_ix (k_ix (K := K) rfl hu) (pv 3) pe_int (fun _ _ => rfl))) (pg_name (i := 5) nd rfl (Or.inl rfl))
          (pss_one (ps_for PassesOwn.never rfl (pi_range1 rfl bl.range (pa_cons (pe_ix (k_ix (K := K) rfl hu) (pv 5) pe_int (fun _ _ => rfl)) pa_nil)) (pg_name (i := 6) nd rfl (Or.inl rfl))
            (pss_one (ps_set (i := 4) nd rfl (Or.inl rfl) (pe_op op_mulX (pv 4) (pe_ix (k_ix (K := K) rfl hu) (pv 1) (pe_ix (k_ix (K := K) rfl hu) (pv 5) pe_int (fun _ _ => rfl)) (fun _ _ => rfl))))))))
        (pss_one (ps_set (i := 2) nd rfl (Or.inl rfl) (pe_op (k_plus (K := K) rfl) (pv 2) (pv 4)))))))
      (pss_one (ps_ret (pv 2))))), ?_⟩
  rintro ds w P X ⟨-, ts, p, kvs, names, nuGr, rfl, rfl, hN, hB, hT, hP⟩
  walk_at "w"
  refine wi_anyT ?_
  walk_at "w"
  refine ⟨_, rfl, fun _ => trivial, ?_⟩
  refine turns_ind (A := Int × List Trm) (fun s ds rhGr w' => ds = s.2.map eT ∧ (∀ t ∈ s.2, VPn names t.2 ∧ 1 ≤ t.1 ∧ t.1 ≤ 9) ∧ sumV nuGr ts = s.1 + sumV nuGr s.2 ∧ (∃ v3 v4 v5 v6, rhGr = [some (eTs ts), some (.adr p), some (.int s.1), v3, v4, v5, v6]) ∧ w' = [(p, .dct kvs)]) ?_ ?_ (0, ts) ⟨rfl, hT, by rw [Int.zero_add], ⟨none, none, none, none, rfl⟩, rfl⟩
  · rintro ⟨m, rest⟩ rhGr w' ⟨hd, hb, hj, ⟨v3, v4, v5, v6, rfl⟩, rfl⟩
    cases rest with
    | cons p rest => cases hd
    | nil =>
      walk_at "w"
      rw [hj] at hP
      have e : m + sumV nuGr [] = m := Int.add_zero m
      rw [e] at hP
      exact hP
  · rintro ⟨m, rest⟩ x xs rhGr w' ⟨hd, hb, hj, ⟨v3, v4, v5, v6, rfl⟩, rfl⟩
    cases rest with
    | nil => cases hd
    | cons t rest =>
      obtain ⟨rfl, rfl⟩ := List.cons.inj hd
      obtain ⟨c1, c2, c3⟩ := hb t (by simp)
      have fin : ∀ (i : Int) (v3 v4 v5 v6 : Option D), i = m + t.1 * prdV nuGr t.2 → ∃ s' : Int × List Trm, rest.map eT = s'.2.map eT ∧ (∀ t ∈ s'.2, VPn names t.2 ∧ 1 ≤ t.1 ∧ t.1 ≤ 9) ∧ sumV nuGr ts = s'.1 + sumV nuGr s'.2 ∧ (∃ u3 u4 u5 u6, [some (eTs ts), some (.adr p), some (.int i), v3, v4, v5, v6] = [some (eTs ts), some (.adr p), some (.int s'.1), u3, u4, u5, u6]) ∧ [(p, D.dct kvs)] = [(p, D.dct kvs)] := by
        rintro i v3 v4 v5 v6 rfl
        refine ⟨(m + t.1 * prdV nuGr t.2, rest), rfl, fun q hq => hb q (List.mem_cons_of_mem _ hq), ?_, ⟨_, _, _, _, rfl⟩, rfl⟩
        rw [hj]
        show m + (t.1 * prdV nuGr t.2 + sumV nuGr rest) = m + t.1 * prdV nuGr t.2 + sumV nuGr rest
        rw [Int.add_assoc]
      obtain ⟨c, q⟩ := t
      cases q with
      | none =>
        walk_at "w"
        refine wi_anyT ?_
        walk_at "w"
        refine ⟨[], rfl, fun _ => trivial, turns_nil ?_⟩
        walk_at "w"
        exact fin _ _ _ _ _ (by show m + c = m + c * 1; rw [Int.mul_one])
      | some y =>
        have hy := hN.at_ y c1
        walk_at "w"
        refine wi_anyT ?_
        walk_at "w"
        refine ⟨[.tup [.str y, .int 1]], rfl, fun _ => trivial, turns_cons ?_⟩
        walk_at "w"
        refine wi_rng1 ?_
        walk_at "w"
        refine ⟨1, rfl, by decide, by decide, fun _ => trivial, ?_⟩
        show Turns _ _ _ _ [D.int ((0 : Nat) : Int)] _ _
        walk_at "w"
        refine rd_ix_dctO 0 rfl hy ?_
        refine rd_mul (small_mul (by have : 1 ≤ c := c2; omega) (by have : c ≤ 9 := c3; omega)) ?_
        walk_at "w"
        exact fin _ _ _ _ _ rfl
abbrev st_law_do : Stmt := top 85
abbrev N_law_do : List Str := ["_law_row_here", "_law_numbers"]
theorem sc_law_do : FnScope N_law_do ["_law_row_here", "_law_numbers"] (defScope st_law_do) := ⟨rfl, rfl, rfl, by decide +kernel, rfl, by decide +kernel, by decide +kernel⟩

theorem ok_law_do {k : Nat} (bl : Blt mg) (F : DefAt K mg "_law_do" st_law_do ["_law_row_here", "_law_numbers"]) (h__law_worth : Has P w K mg base CX0 "_law_worth" ["_law_terms", "_law_numbers"] k (spOf K T S_law_worth)) : Has P w K mg base CX0 "_law_do" ["_law_row_here", "_law_numbers"] (k + 1) (spOf K T S_law_do) := by
  refine defD F sc_law_do (fun _ _ _ _ h => h.1) fun f cdv A outer s H E hr => ?_
  have hu := hu_of hr
  have hu64 := hr.units
  have nd := sc_law_do.nd
  refine ⟨_, (pss_one (ps_if (pt_cmpR (k_eq (K := K) rfl hu64) (pe_ix (k_ix (K := K) rfl hu) (pv 0) pe_int (fun _ _ => rfl)) pe_str (nomark _))
        (pss_one (ps_asg (pe_op (k_plus (K := K) rfl) (pe_ix (k_ix (K := K) rfl hu) (pv 1) (pe_ix (k_ix (K := K) rfl hu) (pv 0) pe_int (fun _ _ => rfl)) (fun _ _ => rfl)) (pe_callH h__law_worth hr rfl pass0 (pa_cons (pe_ix (k_ix (K := K) rfl hu) (pv 0) pe_int (fun _ _ => rfl)) (pa_cons (pv 1) pa_nil)))) (pg_sub (pv 1) (pe_ix (k_ix (K := K) rfl hu) (pv 0) pe_int (fun _ _ => rfl)) (set_X hu))))
        (pss_one (ps_if (pt_cmpR (k_eq (K := K) rfl hu64) (pe_ix (k_ix (K := K) rfl hu) (pv 0) pe_int (fun _ _ => rfl)) pe_str (nomark _))
          (pss_one (ps_asg (pe_callH h__law_worth hr rfl pass0 (pa_cons (pe_ix (k_ix (K := K) rfl hu) (pv 0) pe_int (fun _ _ => rfl)) (pa_cons (pv 1) pa_nil))) (pg_sub (pv 1) (pe_ix (k_ix (K := K) rfl hu) (pv 0) pe_int (fun _ _ => rfl)) (set_X hu))))
          (pss_one (ps_asg (pe_callB (call_max2 rfl) rfl bl.max bt_max (pa_cons (pe_ix (k_ix (K := K) rfl hu) (pv 1) (pe_ix (k_ix (K := K) rfl hu) (pv 0) pe_int (fun _ _ => rfl)) (fun _ _ => rfl)) (pa_cons (pe_callH h__law_worth hr rfl pass0 (pa_cons (pe_tup (pa_cons (pe_ix (k_ix (K := K) rfl hu) (pv 0) pe_int (fun _ _ => rfl)) pa_nil)) (pa_cons (pv 1) pa_nil))) pa_nil))) (pg_sub (pv 1) (pe_ix (k_ix (K := K) rfl hu) (pv 0) pe_int (fun _ _ => rfl)) (set_X hu)))))))), ?_⟩
  rintro ds w P X ⟨-, r, p, kvs, names, nuGr, rfl, rfl, hN, hB, hR, hP⟩
  have hlen : kvs.length < 10000000 := by have := hN.len; omega
  cases r with
  | add x ts =>
    obtain ⟨h1, h2⟩ := hR
    walk_at "w"
    refine rd_ix_dctO 0 rfl (hN.at_ x h1) ?_
    walk_at "w"
    refine csW ⟨rfl, ts, p, kvs, names, nuGr, rfl, rfl, hN, hB, h2, ?_⟩
    walk_at "w"
    refine wg_subD ?_
    walk_at "w"
    refine ⟨p, rfl, ?_⟩
    walk_at "w"
    exact ⟨x, rfl, 0, kvs, rfl, hN.nd, hlen, hP⟩
  | lift x t =>
    obtain ⟨h1, h2, h3, h4⟩ := hR
    walk_at "w"
    refine rd_ix_dctO 0 rfl (hN.at_ x h1) ?_
    walk_at "w"
    refine csW ⟨rfl, [t], p, kvs, names, nuGr, rfl, rfl, hN, hB, fun t' ht' => ?_, ?_⟩
    · obtain rfl : t' = t := by simpa using ht'
      exact ⟨h2, h3, h4⟩
    · have es : sumV nuGr [t] = t.1 * prdV nuGr t.2 := Int.add_zero _
      rw [es]
      walk_at "w"
      refine wg_subD ?_
      walk_at "w"
      refine ⟨p, rfl, ?_⟩
      walk_at "w"
      exact ⟨x, rfl, 0, kvs, rfl, hN.nd, hlen, hP⟩
  | set x ts =>
    obtain ⟨h1, -, h2⟩ := hR
    walk_at "w"
    refine csW ⟨rfl, ts, p, kvs, names, nuGr, rfl, rfl, hN, hB, h2, ?_⟩
    refine wg_subD ?_
    walk_at "w"
    refine ⟨p, rfl, ?_⟩
    walk_at "w"
    exact ⟨x, rfl, 0, kvs, rfl, hN.nd, hlen, hP⟩
end
end Hw
/-! HwAC -/
namespace Hw
/-- the state as a dict -/
def stD (np cp kp : Addr) (n : Nat) (lg : Bool) : List (Str × D) := [("numbers", .adr np), ("choices", .adr cp), ("at", .int 0), ("steps", .int n), ("due", .non), ("long", .bl lg), ("dice", .non), ("rounds", .int 0), ("trace", .lst []), ("top", .int TOP), ("kept", .adr kp)]
structure Ad where
  np : Addr
  sp : Addr
  cp : Addr
  kp : Addr
/-- what the law owns in its run; ks the ways that are kept -/
def lO (a : Ad) (s : Sn) (lg : Bool) (kvs : List (Str × D)) (ks : List D) : Own := [(a.np, .dct kvs), (a.sp, .dct (stD a.np a.cp a.kp s.n lg)), (a.cp, .lst (s.pk.map D.int)), (a.kp, .lst ks)]
def S_law_step : DSpec := fun ds w P _ => ds.length = 1 ∧ ∃ (a : Ad) (s : Sn) (kvs : List (Str × D)) (ks : List D), ds = [.adr a.sp] ∧ w = lO a s false kvs ks ∧
  (∀ s', s.step = some s' → P (.bl true) (lO a s' false kvs ks)) ∧ (s.step = none → P (.bl false) (lO a { s with n := s.n + 1 } true kvs ks))
def S_law_row_done : DSpec := fun ds w P _ => ds.length = 2 ∧ ∃ (a : Ad) (s : Sn) (kvs : List (Str × D)) (ks : List D) (names : List Str) (r : Row) (out : Nat), ds = [eR r, .adr a.sp] ∧ w = lO a s false kvs ks ∧ Res names out s kvs ∧ RowN names r ∧
  (∀ s' kvs', doRow s r = some s' → Res names out s' kvs' → P (.bl true) (lO a s' false kvs' ks)) ∧ (doRow s r = none → ∀ s' kvs', P (.bl false) (lO a s' true kvs' ks))
theorem stD_nd (np cp kp : Addr) (n : Nat) (lg : Bool) : ((stD np cp kp n lg).map (·.1)).Nodup := by
  show (["numbers", "choices", "at", "steps", "due", "long", "dice", "rounds", "trace", "top", "kept"] : List Str).Nodup
  decide +kernel
section
variable {P : Program} {w : World} {K : PySem.W.Frag} {mg : Str → Option Value} {base : Heap} {T : Addr}
abbrev st_law_step : Stmt := top 88
abbrev N_law_step : List Str := ["_law_state_here"]
theorem sc_law_step : FnScope N_law_step ["_law_state_here"] (defScope st_law_step) := ⟨rfl, rfl, rfl, by decide +kernel, rfl, by decide +kernel, by decide +kernel⟩

theorem ok_law_step {k : Nat} (bl : Blt mg) (F : DefAt K mg "_law_step" st_law_step ["_law_state_here"]) : Has P w K mg base CX0 "_law_step" ["_law_state_here"] (k + 1) (spOf K T S_law_step) := by
  refine defD F sc_law_step (fun _ _ _ _ h => h.1) fun f cdv A outer s H E hr => ?_
  have hu := hu_of hr
  have hu64 := hr.units
  have nd := sc_law_step.nd
  refine ⟨_, (pss_cons (ps_asg (pe_op (k_plus (K := K) rfl) (pe_ix (k_ix (K := K) rfl hu) (pv 0) pe_str (fun _ _ => rfl)) pe_int) (pg_sub (pv 0) pe_str (set_X hu)))
      (pss_cons (ps_asg (pe_cmpR op_gt (pe_ix (k_ix (K := K) rfl hu) (pv 0) pe_str (fun _ _ => rfl)) pe_int (nomark _)) (pg_sub (pv 0) pe_str (set_X hu)))
      (pss_one (ps_ret (pe_not (pe_ix (k_ix (K := K) rfl hu) (pv 0) pe_str (fun _ _ => rfl))))))), ?_⟩
  rintro ds w P X ⟨-, a, s, kvs, ks, rfl, rfl, hP, hX⟩
  have hnd := stD_nd a.np a.cp a.kp s.n false
  walk_at "w"
  refine rd_ix_dctO (d := .int s.n) 1 rfl rfl ?_
  walk_at "w"
  refine wg_subD ?_
  walk_at "w"
  refine ⟨a.sp, rfl, ?_⟩
  walk_at "w"
  refine ⟨"steps", rfl, 1, _, rfl, hnd, by show (11 : Nat) < _; decide, ?_⟩
  refine WS.own (w' := lO a { s with n := s.n + 1 } false kvs ks) rfl ?_
  walk_at "w"
  refine rd_ix_dctO (d := .int ((s.n + 1 : Nat) : Int)) 1 rfl rfl ?_
  walk_at "w"
  by_cases hs : s.n + 1 ≤ 10000
  · refine rd_gt_f (by omega) ?_
    refine wg_subD ?_
    walk_at "w"
    refine ⟨a.sp, rfl, ?_⟩
    walk_at "w"
    refine ⟨"long", rfl, 1, _, rfl, stD_nd .., by show (11 : Nat) < _; decide, ?_⟩
    refine WS.own (w' := lO a { s with n := s.n + 1 } false kvs ks) rfl ?_
    walk_at "w"
    refine rd_ix_dctO (d := .bl false) 1 rfl rfl ?_
    walk_at "w"
    exact hP _ (by unfold Sn.step; rw [if_pos hs])
  · refine rd_gt_t (by omega) ?_
    refine wg_subD ?_
    walk_at "w"
    refine ⟨a.sp, rfl, ?_⟩
    walk_at "w"
    refine ⟨"long", rfl, 1, _, rfl, stD_nd .., by show (11 : Nat) < _; decide, ?_⟩
    refine WS.own (w' := lO a { s with n := s.n + 1 } true kvs ks) rfl ?_
    walk_at "w"
    refine rd_ix_dctO (d := .bl true) 1 rfl rfl ?_
    walk_at "w"
    exact hX (by unfold Sn.step; rw [if_neg hs])
abbrev st_law_row_done : Stmt := top 89
abbrev N_law_row_done : List Str := ["_law_row_here", "_law_state_here"]
theorem sc_law_row_done : FnScope N_law_row_done ["_law_row_here", "_law_state_here"] (defScope st_law_row_done) := ⟨rfl, rfl, rfl, by decide +kernel, rfl, by decide +kernel, by decide +kernel⟩

theorem ok_law_row_done {k : Nat} (bl : Blt mg) (F : DefAt K mg "_law_row_done" st_law_row_done ["_law_row_here", "_law_state_here"]) (h__law_step : Has P w K mg base CX0 "_law_step" ["_law_state_here"] k (spOf K T S_law_step)) (h__law_do : Has P w K mg base CX0 "_law_do" ["_law_row_here", "_law_numbers"] k (spOf K T S_law_do)) : Has P w K mg base CX0 "_law_row_done" ["_law_row_here", "_law_state_here"] (k + 1) (spOf K T S_law_row_done) := by
  refine defD F sc_law_row_done (fun _ _ _ _ h => h.1) fun f cdv A outer s H E hr => ?_
  have hu := hu_of hr
  have hu64 := hr.units
  have nd := sc_law_row_done.nd
  refine ⟨_, (pss_cons (ps_if (pt_not (pt_val (pe_callH h__law_step hr rfl pass0 (pa_cons (pv 1) pa_nil))))
        (pss_one (ps_ret pe_bl))
        pss_nil)
      (pss_cons (ps_expr (pe_callH h__law_do hr rfl pass0 (pa_cons (pv 0) (pa_cons (pe_ix (k_ix (K := K) rfl hu) (pv 1) pe_str (fun _ _ => rfl)) pa_nil))))
      (pss_cons (ps_asg (pe_cmpR op_gt (pe_ix (k_ix (K := K) rfl hu) (pe_ix (k_ix (K := K) rfl hu) (pv 1) pe_str (fun _ _ => rfl)) (pe_ix (k_ix (K := K) rfl hu) (pv 0) pe_int (fun _ _ => rfl)) (fun _ _ => rfl)) (pe_ix (k_ix (K := K) rfl hu) (pv 1) pe_str (fun _ _ => rfl)) (nomark _)) (pg_sub (pv 1) pe_str (set_X hu)))
      (pss_one (ps_ret (pe_not (pe_ix (k_ix (K := K) rfl hu) (pv 1) pe_str (fun _ _ => rfl)))))))), ?_⟩
  rintro ds w P X ⟨-, a, s, kvs, ks, names, r, out, rfl, rfl, hR, hN, hP, hX⟩
  walk_at "w"
  refine csW ⟨rfl, a, s, kvs, ks, rfl, rfl, fun s1 h1 => ?_, fun h1 => ?_⟩
  rotate_left
  · walk_at "w"
    exact hX (by unfold doRow; rw [h1]; rfl) _ _
  have hR1 := step_res hR h1
  have ed : doRow s r = s1.put r := by unfold doRow; rw [h1]; rfl
  rw [ed] at hP hX
  have hx := hN.tgt_mem
  have h1' := rowV_pos hR1.nb hN
  have hnu := hR1.nu.put hx (rowV s1.nuGr r)
  have hat := hnu.at_ _ hx
  have e0 : setN s1.nuGr r.tgt (rowV s1.nuGr r) r.tgt = rowV s1.nuGr r := by unfold setN; rw [if_pos rfl]
  rw [e0] at hat
  walk_at "w"
  refine rd_ix_dctO (d := .adr a.np) 1 rfl rfl ?_
  walk_at "w"
  refine cpF (mine := [(a.np, .dct kvs)]) rfl ⟨rfl, r, a.np, kvs, names, s1.nuGr, rfl, rfl, hR1.nu, hR1.nb, hN, ?_⟩
  refine WS.own (w' := lO a { s1 with nuGr := setN s1.nuGr r.tgt (rowV s1.nuGr r) } false (putD kvs r.tgt (.int (rowV s1.nuGr r))) ks) rfl ?_
  have tail : RD ⟨K, E, T, X⟩ (rI0 fun i j => .bl (decide (j < i))) (.int (rowV s1.nuGr r)) (.int TOP) (lO a { s1 with nuGr := setN s1.nuGr r.tgt (rowV s1.nuGr r) } false (putD kvs r.tgt (.int (rowV s1.nuGr r))) ks)
      (fun d w1 => WG ⟨K, E, T, X⟩ (gSub (tVar 1) (tC (.str "long")) rSetX) d [some (eR r), some (.adr a.sp)] w1 fun rhGr' w2 => WS ⟨K, E, T, X⟩ (tRet (tNotV (tOp (rIxX K) (tVar 1) (tC (.str "long"))))) rhGr' w2 (Post P)) := by
    by_cases hv : rowV s1.nuGr r ≤ TOP
    · refine rd_gt_f (by omega) ?_
      refine wg_subD ?_
      walk_at "w"
      refine ⟨a.sp, rfl, ?_⟩
      walk_at "w"
      refine ⟨"long", rfl, 1, _, rfl, stD_nd .., by show (11 : Nat) < _; decide, ?_⟩
      refine WS.own (w' := lO a { s1 with nuGr := setN s1.nuGr r.tgt (rowV s1.nuGr r) } false (putD kvs r.tgt (.int (rowV s1.nuGr r))) ks) rfl ?_
      walk_at "w"
      refine rd_ix_dctO (d := .bl false) 1 rfl rfl ?_
      walk_at "w"
      exact hP _ _ (by unfold Sn.put; rw [if_pos hv]) ⟨hnu, hR1.nb.put h1' hv, (hR1.less (by omega)).bd, hR1.n, (hR1.nu.putLen hx _).trans hR1.sl⟩
    · refine rd_gt_t (by omega) ?_
      refine wg_subD ?_
      walk_at "w"
      refine ⟨a.sp, rfl, ?_⟩
      walk_at "w"
      refine ⟨"long", rfl, 1, _, rfl, stD_nd .., by show (11 : Nat) < _; decide, ?_⟩
      refine WS.own (w' := lO a { s1 with nuGr := setN s1.nuGr r.tgt (rowV s1.nuGr r) } true (putD kvs r.tgt (.int (rowV s1.nuGr r))) ks) rfl ?_
      walk_at "w"
      refine rd_ix_dctO (d := .bl true) 1 rfl rfl ?_
      walk_at "w"
      exact hX (by unfold Sn.put; rw [if_neg hv]) _ _
  cases r with
  | add x ts =>
      walk_at "w"
      refine rd_ix_dctO (d := .adr a.np) 1 rfl rfl ?_
      walk_at "w"
      refine rd_ix_dctO 0 rfl hat ?_
      walk_at "w"
      refine rd_ix_dctO (d := .int TOP) 1 rfl rfl ?_
      exact tail
  | lift x t =>
      walk_at "w"
      refine rd_ix_dctO (d := .adr a.np) 1 rfl rfl ?_
      walk_at "w"
      refine rd_ix_dctO 0 rfl hat ?_
      walk_at "w"
      refine rd_ix_dctO (d := .int TOP) 1 rfl rfl ?_
      exact tail
  | set x ts =>
      walk_at "w"
      refine rd_ix_dctO (d := .adr a.np) 1 rfl rfl ?_
      walk_at "w"
      refine rd_ix_dctO 0 rfl hat ?_
      walk_at "w"
      refine rd_ix_dctO (d := .int TOP) 1 rfl rfl ?_
      exact tail
end
end Hw
/-! HwAE -/
namespace Hw
/-- a is less than b where they first differ -/
def Lx (a b : Way) : Prop := ∃ (p : Way) (x y : Nat) (a' b' : Way), x < y ∧ a = p ++ x :: a' ∧ b = p ++ y :: b'
theorem Lx.app {a b : Way} (h : Lx a b) (c d : Way) : Lx (a ++ c) (b ++ d) := by
  obtain ⟨p, x, y, a', b', hl, rfl, rfl⟩ := h
  exact ⟨p, x, y, a' ++ c, b' ++ d, hl, by simp, by simp⟩
theorem Lx.pre {a b : Way} (h : Lx a b) (c : Way) : Lx (c ++ a) (c ++ b) := by
  obtain ⟨p, x, y, a', b', hl, rfl, rfl⟩ := h
  exact ⟨c ++ p, x, y, a', b', hl, by simp, by simp⟩
abbrev Asc (ws : List Way) : Prop := ws.Pairwise Lx
theorem asc_one (w : Way) : Asc [w] := by simp
theorem asc_both : ∀ {xs ys : List Way}, Asc xs → Asc ys → Asc (both xs ys)
  | [], ys, _, _ => by simp [both]
  | x :: xs, ys, h, g => by
    obtain ⟨h1, h2⟩ := List.pairwise_cons.mp h
    have e : both (x :: xs) ys = (ys.map fun y => x ++ y) ++ both xs ys := by simp [both]
    rw [e]
    refine List.pairwise_append.mpr ⟨?_, asc_both h2 g, fun a ha b hb => ?_⟩
    · exact List.Pairwise.map _ (fun a b h => h.pre x) g
    · obtain ⟨y, _, rfl⟩ := List.mem_map.mp ha
      obtain ⟨x', hx', y', _, rfl⟩ := both_mem.mp hb
      exact (h1 x' hx').app _ _
theorem altE_head {w : Way} {ws : List (List Way)} {k : Nat} (h : w ∈ altE k ws) : ∃ i v, w = (k + i) :: v := by
  obtain ⟨i, us, v, _, _, rfl⟩ := mem_altE h
  exact ⟨i, v, rfl⟩
theorem asc_altE : ∀ {ws : List (List Way)} {k : Nat}, (∀ w ∈ ws, Asc w) → Asc (altE k ws)
  | [], k, _ => .nil
  | w :: ws, k, h => by
    refine List.pairwise_append.mpr ⟨asc_both (asc_one _) (h w (by simp)), asc_altE fun u hu => h u (List.mem_cons_of_mem _ hu), fun a ha b hb => ?_⟩
    obtain ⟨x, hx, y, _, rfl⟩ := both_mem.mp ha
    obtain rfl : x = [k] := by simpa using hx
    obtain ⟨i, v, rfl⟩ := altE_head hb
    exact ⟨[], k, k + 1 + i, y, v, by omega, rfl, rfl⟩
theorem asc_ordW {ws : List (List Way)} (h : ∀ i, Asc (ws.getD i [])) : ∀ {o : List Nat} {told : List Way}, Asc told → Asc (ordW ws told o)
  | [], told, g => g
  | i :: o, told, g => asc_ordW h (o := o) (told := both told (ws.getD i [])) (asc_both g (h i))
theorem asc_altO {ws : List (List Way)} (h : ∀ i, Asc (ws.getD i [])) : ∀ {os : List (List Nat)} {k : Nat}, Asc (altO ws k os)
  | [], k => .nil
  | o :: os, k => by
    refine List.pairwise_append.mpr ⟨asc_ordW h (asc_one _), asc_altO h, fun a ha b hb => ?_⟩
    obtain ⟨x, hx, v, _, rfl⟩ := mem_ordW ha
    obtain rfl : x = [k] := by simpa using hx
    obtain ⟨i, o', v', _, _, rfl⟩ := mem_altO hb
    exact ⟨[], k, k + 1 + i, v, v', by omega, rfl, rfl⟩
theorem getD_asc {ws : List (List Way)} (h : ∀ w ∈ ws, Asc w) (i : Nat) : Asc (ws.getD i []) := by
  rw [List.getD_eq_getElem?_getD]
  cases e : ws[i]? with
  | none => exact .nil
  | some w => exact h w (List.mem_of_getElem? e)
mutual
theorem asc_wS : ∀ s : Stm, Asc (wS s)
  | .row _ => by simp [wS]
  | .loop _ _ => by simp [wS]
  | .call _ => by simp [wS]
  | .alt o bs => by
    have h := asc_wLs bs
    have e : wS (.alt o bs) = if o then altO (wLs bs) 0 (ordN (wLs bs).length) else altE 0 (wLs bs) := by simp [wS]
    rw [e]
    cases o with
    | true => exact asc_altO (getD_asc h)
    | false => exact asc_altE h
theorem asc_wB : ∀ b : Blk, Asc (wB b)
  | .nil => by simp [wB]
  | .cons s b => by
    have e : wB (.cons s b) = both (wS s) (wB b) := by simp [wB]
    rw [e]
    exact asc_both (asc_wS s) (asc_wB b)
theorem asc_wLs : ∀ bs : Bls, ∀ w ∈ wLs bs, Asc w
  | .nil, w, h => by simp [wLs] at h
  | .cons b bs, w, h => by
    have e : wLs (.cons b bs) = wB b :: wLs bs := by simp [wLs]
    rw [e] at h
    rcases List.mem_cons.mp h with rfl | h
    · exact asc_wB b
    · exact asc_wLs bs w h
end
end Hw
/-! HwAF -/
namespace Hw
def S_law_ways_of (n : Nat) : DSpec := fun ds w P _ => ds.length = 2 ∧ ∃ (b : Blk) (e : En), ds = [.tup (eB b), .dct e.GaGr] ∧ w = [] ∧ EnOk e ∧ CaB e.kn b ∧ dpB e.gaGr b < n ∧ ShB (woB e.f b) ∧ Gd (wB (woB e.f b)) ∧ P (eWays (wB (woB e.f b))) []
theorem catD_map (t : Way) (ys : List Way) : (ys.map eWay).map (catD (eWay t)) = (ys.map fun y => t ++ y).map eWay := by
  rw [List.map_map, List.map_map]
  congr 1
  funext y
  show D.tup (_ ++ _) = D.tup _
  rw [List.map_append]
theorem both_cons (t : Way) (ts ys : List Way) : both (t :: ts) ys = (ys.map fun y => t ++ y) ++ both ts ys := by simp [both]
theorem altE_drop {ws : List (List Way)} {i : Nat} {us : List Way} (h : ws[i]? = some us) : altE i (ws.drop i) = both [[i]] us ++ altE (i + 1) (ws.drop (i + 1)) := by
  obtain ⟨hl, e⟩ := List.getElem?_eq_some_iff.mp h
  rw [List.drop_eq_getElem_cons hl, e]; rfl
theorem altO_drop {ws : List (List Way)} {os : List (List Nat)} {i : Nat} {o : List Nat} (h : os[i]? = some o) : altO ws i (os.drop i) = ordW ws [[i]] o ++ altO ws (i + 1) (os.drop (i + 1)) := by
  obtain ⟨hl, e⟩ := List.getElem?_eq_some_iff.mp h
  rw [List.drop_eq_getElem_cons hl, e]; rfl
theorem way_add {a b : Way} (ha : a.length ≤ 100) (hb : b.length ≤ 100) : (a.map fun (k : Nat) => D.int (k : Int)).length + (b.map fun (k : Nat) => D.int (k : Int)).length ≤ 100000 := by
  rw [List.length_map, List.length_map]; omega
theorem len24 {a b : List Way} (h : (a ++ b).length ≤ 24) : (a.map eWay).length + (b.map eWay).length ≤ 10000000 := by
  rw [List.length_append] at h
  rw [List.length_map, List.length_map]
  omega
theorem ways_ext (q : Addr) (a b : List Way) : [(q, D.lst (a.map eWay ++ b.map eWay))] = [(q, eWays (a ++ b))] := by
  unfold eWays; rw [List.map_append]
theorem ways_ext2 (a b : List Way) : D.lst (a.map eWay ++ b.map eWay) = eWays (a ++ b) := by
  unfold eWays; rw [List.map_append]
section
variable {P : Program} {w : World} {K : PySem.W.Frag} {mg : Str → Option Value} {base : Heap} {T : Addr}
abbrev st_law_ways_of : Stmt := top 83
abbrev N_law_ways_of : List Str := ["_law_block_here", "_law_bodies", "_law_found", "_law_statement_here", "_law_here", "_law_k", "_law_way", "_law_orders_here", "_law_told", "_law_each", "_law_longer", "_law_more"]
theorem sc_law_ways_of : FnScope N_law_ways_of ["_law_block_here", "_law_bodies"] (defScope st_law_ways_of) := ⟨rfl, rfl, rfl, by decide +kernel, rfl, by decide +kernel, by decide +kernel⟩

theorem ok_law_ways_of {k : Nat} {n : Nat} (bl : Blt mg) (F : DefAt K mg "_law_ways_of" st_law_ways_of ["_law_block_here", "_law_bodies"]) (h__law_ways_of : Has P w K mg base CX0 "_law_ways_of" ["_law_block_here", "_law_bodies"] k (spOf K T (S_law_ways_of n))) (h__law_orders : Has P w K mg base CX0 "_law_orders" ["_law_many"] k (spOf K T S_law_orders)) : Has P w K mg base CX0 "_law_ways_of" ["_law_block_here", "_law_bodies"] (k + 1) (spOf K T (S_law_ways_of (n + 1))) := by
  refine defD F sc_law_ways_of (fun _ _ _ _ h => h.1) fun f cdv A outer s H E hr => ?_
  have hu := hu_of hr
  have hu64 := hr.units
  have nd := sc_law_ways_of.nd
  refine ⟨_, (pss_cons (ps_set (i := 2) nd rfl (Or.inl rfl) (pe_lst (pa_cons (pe_tup pa_nil) pa_nil)))
      (pss_cons (ps_for PassesOwn.never rfl (k_walk (K := K) rfl (pv 0)) (pg_name (i := 3) nd rfl (Or.inl rfl))
        (pss_cons (ps_set (i := 4) nd rfl (Or.inl rfl) (pe_lst (pa_cons (pe_tup pa_nil) pa_nil)))
        (pss_cons (ps_if (pt_cmpR (k_eq (K := K) rfl hu64) (pe_ix (k_ix (K := K) rfl hu) (pv 3) pe_int (fun _ _ => rfl)) pe_str (nomark _))
          (pss_one (ps_set (i := 4) nd rfl (Or.inl rfl) (pe_callH h__law_ways_of hr rfl pass0 (pa_cons (pe_ix (k_ix (K := K) rfl hu) (pv 1) (pe_ix (k_ix (K := K) rfl hu) (pv 3) pe_int (fun _ _ => rfl)) (fun _ _ => rfl)) (pa_cons (pv 1) pa_nil)))))
          (pss_one (ps_if (pt_cmpR (k_eq (K := K) rfl hu64) (pe_ix (k_ix (K := K) rfl hu) (pv 3) pe_int (fun _ _ => rfl)) pe_str (nomark _))
            (pss_cons (ps_set (i := 4) nd rfl (Or.inl rfl) (pe_lst pa_nil))
            (pss_one (ps_for PassesOwn.never rfl (pi_range1 rfl bl.range (pa_cons (pe_callB (k_len (K := K) rfl) rfl bl.len bt_len (pa_cons (pe_ix (k_ix (K := K) rfl hu) (pv 3) pe_int (fun _ _ => rfl)) pa_nil)) pa_nil)) (pg_name (i := 5) nd rfl (Or.inr rfl))
              (pss_one (ps_expr (pe_bm PySem.F.plainAttrs_list PySem.F.slot_list_extend PySem.F.type_list_extend (mt_extX (K := K) rfl) (pv 4) (pa_cons (pe_lc (own := [("_law_way", 6)]) (g := gName 6) (tt := tYes) rfl nd (k_walk (K := K) rfl (pe_callH h__law_ways_of hr rfl pass0 (pa_cons (pe_ix (k_ix (K := K) rfl hu) (pe_ix (k_ix (K := K) rfl hu) (pv 3) pe_int (fun _ _ => rfl)) (pv 5) (fun _ _ => rfl)) (pa_cons (pv 1) pa_nil)))) (blkOk_by (N := N_law_ways_of) (sc := defScope st_law_ways_of) (by decide +kernel)) (fun _ _ _ _ _ => pg_name (i := 6) nd rfl (Or.inl rfl)) (fun _ _ _ _ _ => pts_nil) (fun _ _ _ _ _ => (pe_op (k_plus (K := K) rfl) (pe_tup (pa_cons (pv 5) pa_nil)) (pv 6)))) pa_nil)))))))
            (pss_one (ps_if (pt_cmpR (k_eq (K := K) rfl hu64) (pe_ix (k_ix (K := K) rfl hu) (pv 3) pe_int (fun _ _ => rfl)) pe_str (nomark _))
              (pss_cons (ps_set (i := 4) nd rfl (Or.inl rfl) (pe_lst pa_nil))
              (pss_cons (ps_set (i := 7) nd rfl (Or.inl rfl) (pe_callH h__law_orders hr rfl pass0 (pa_cons (pe_callB (k_len (K := K) rfl) rfl bl.len bt_len (pa_cons (pe_ix (k_ix (K := K) rfl hu) (pv 3) pe_int (fun _ _ => rfl)) pa_nil)) pa_nil)))
              (pss_one (ps_for PassesOwn.never rfl (pi_range1 rfl bl.range (pa_cons (pe_callB (k_len (K := K) rfl) rfl bl.len bt_len (pa_cons (pv 7) pa_nil)) pa_nil)) (pg_name (i := 5) nd rfl (Or.inr rfl))
                (pss_cons (ps_set (i := 8) nd rfl (Or.inl rfl) (pe_lst (pa_cons (pe_tup (pa_cons (pv 5) pa_nil)) pa_nil)))
                (pss_cons (ps_for PassesOwn.never rfl (k_walk (K := K) rfl (pe_ix (k_ix (K := K) rfl hu) (pv 7) (pv 5) (fun _ _ => rfl))) (pg_name (i := 9) nd rfl (Or.inl rfl))
                  (pss_cons (ps_set (i := 10) nd rfl (Or.inl rfl) (pe_lst pa_nil))
                  (pss_cons (ps_for PassesOwn.never rfl (k_walk (K := K) rfl (pv 8)) (pg_name (i := 6) nd rfl (Or.inr rfl))
                    (pss_one (ps_expr (pe_bm PySem.F.plainAttrs_list PySem.F.slot_list_extend PySem.F.type_list_extend (mt_extX (K := K) rfl) (pv 10) (pa_cons (pe_lc (own := [("_law_more", 11)]) (g := gName 11) (tt := tYes) rfl nd (k_walk (K := K) rfl (pe_callH h__law_ways_of hr rfl pass0 (pa_cons (pe_ix (k_ix (K := K) rfl hu) (pe_ix (k_ix (K := K) rfl hu) (pv 3) pe_int (fun _ _ => rfl)) (pv 9) (fun _ _ => rfl)) (pa_cons (pv 1) pa_nil)))) (blkOk_by (N := N_law_ways_of) (sc := defScope st_law_ways_of) (by decide +kernel)) (fun _ _ _ _ _ => pg_name (i := 11) nd rfl (Or.inl rfl)) (fun _ _ _ _ _ => pts_nil) (fun _ _ _ _ _ => (pe_op (k_plus (K := K) rfl) (pv 6) (pv 11)))) pa_nil)))))
                  (pss_one (ps_set (i := 8) nd rfl (Or.inl rfl) (pv 10))))))
                (pss_one (ps_expr (pe_bm PySem.F.plainAttrs_list PySem.F.slot_list_extend PySem.F.type_list_extend (mt_extX (K := K) rfl) (pv 4) (pa_cons (pv 8) pa_nil))))))))))
              pss_nil)))))
        (pss_cons (ps_set (i := 10) nd rfl (Or.inl rfl) (pe_lst pa_nil))
        (pss_cons (ps_for PassesOwn.never rfl (k_walk (K := K) rfl (pv 2)) (pg_name (i := 6) nd rfl (Or.inr rfl))
          (pss_one (ps_expr (pe_bm PySem.F.plainAttrs_list PySem.F.slot_list_extend PySem.F.type_list_extend (mt_extX (K := K) rfl) (pv 10) (pa_cons (pe_lc (own := [("_law_more", 11)]) (g := gName 11) (tt := tYes) rfl nd (k_walk (K := K) rfl (pv 4)) (blkOk_by (N := N_law_ways_of) (sc := defScope st_law_ways_of) (by decide +kernel)) (fun _ _ _ _ _ => pg_name (i := 11) nd rfl (Or.inl rfl)) (fun _ _ _ _ _ => pts_nil) (fun _ _ _ _ _ => (pe_op (k_plus (K := K) rfl) (pv 6) (pv 11)))) pa_nil)))))
        (pss_one (ps_set (i := 2) nd rfl (Or.inl rfl) (pv 10))))))))
      (pss_one (ps_ret (pv 2))))), ?_⟩
  rintro ds w P X ⟨-, b, e, rfl, rfl, hE, hC, hd, hS, hg, hP⟩
  walk_at "w"
  refine we_lst ?_
  walk_at "w"
  refine wi_anyT ?_
  walk_at "w"
  refine ⟨_, rfl, fun _ => trivial, ?_⟩
  refine turns_ind (A := List Way × Blk) (fun s ds rhGr w' => ds = eB s.2 ∧ CaB e.kn s.2 ∧ dpB e.gaGr s.2 < n + 1 ∧ ShB (woB e.f s.2) ∧ both s.1 (wB (woB e.f s.2)) = wB (woB e.f b) ∧ s.1 ≠ [] ∧ (∃ v3 v4 v5 v6 v7 v8 v9 v10 v11, rhGr = [some (.tup (eB b)), some (.dct e.GaGr), some (eWays s.1), v3, v4, v5, v6, v7, v8, v9, v10, v11]) ∧ w' = []) ?_ ?_ ([[]], b) ⟨rfl, hC, hd, hS, both_nil_l _, by simp, ⟨none, none, none, none, none, none, none, none, none, rfl⟩, rfl⟩
  · rintro ⟨told, rest⟩ rhGr w' ⟨h1, h2, h3, h4, h5, h6, ⟨v3, v4, v5, v6, v7, v8, v9, v10, v11, rfl⟩, rfl⟩
    cases rest with
    | cons s rest => cases h1
    | nil =>
      walk_at "w"
      have e1 : both told [[]] = wB (woB e.f b) := by rw [← h5]; simp [woB, wB]
      rw [both_nil_r] at e1
      rw [← e1] at hP
      exact hP
  · rintro ⟨told, rest⟩ x xs rhGr w' ⟨h1, h2, h3, h4, h5, h6, ⟨v3, v4, v5, v6, v7, v8, v9, v10, v11, rfl⟩, rfl⟩
    cases rest with
    | nil => cases h1
    | cons s rest =>
      obtain ⟨rfl, rfl⟩ := List.cons.inj h1
      have ew : woB e.f (.cons s rest) = (woS e.f s).app (woB e.f rest) := by simp [woB]
      rw [ew, ShB_app] at h4
      have e5 : both (both told (wB (woS e.f s))) (wB (woB e.f rest)) = wB (woB e.f b) := by rw [both_assoc, ← wB_app, ← ew]; exact h5
      obtain ⟨c1, c2⟩ : CaS e.kn s ∧ CaB e.kn rest := by simpa [CaB] using h2
      have d1 : dpS e.gaGr s < n + 1 ∧ dpB e.gaGr rest < n + 1 := by simp only [dpB] at h3; omega
      have n2 := wB_ne _ h4.2
      have n1 := wB_ne _ h4.1
      have g1 : Gd (both told (wB (woS e.f s))) := by rw [← e5] at hg; exact hg.left n2
      have gs := g1.right h6
      have gt := g1.left n1
      refine wg_name (ws_seq (ws_asg (we_lst (wa_cons (we_tup (wa_nil ⟨Nat.zero_le _, wa_nil ⟨Nat.le_of_ble_eq_true rfl, ?_⟩⟩))))))
      refine ws_seq (WS.imp (PO := fun o => ∃ v5 v6 v7 v8 v9 v10 v11, o = .nx [some (.tup (eB b)), some (.dct e.GaGr), some (eWays told), some (eS s), some (eWays (wB (woS e.f s))), v5, v6, v7, v8, v9, v10, v11] []) ?_ ?_)
      · cases s with
        | row r =>
          have er : wB (woS e.f (.row r)) = [[]] := by simp [woS, wB_one, wS]
          rw [er]
          cases r with
          | add x ts => walk_at "w"; exact ⟨_, _, _, _, _, _, _, rfl⟩
          | lift x t => walk_at "w"; exact ⟨_, _, _, _, _, _, _, rfl⟩
          | set x ts => walk_at "w"; exact ⟨_, _, _, _, _, _, _, rfl⟩
        | loop x c =>
          have er : wB (woS e.f (.loop x c)) = [[]] := by simp [woS, wB_one, wS]
          rw [er]
          walk_at "w"
          exact ⟨_, _, _, _, _, _, _, rfl⟩
        | call x =>
          obtain ⟨d, hx⟩ := Option.isSome_iff_exists.mp (show (e.bod x).isSome = true from c1)
          have er : woS e.f (.call x) = woB e.f d := by rw [← hE.wo x d hx]; simp [woS]
          rw [er] at h4 gs ⊢
          have hdp := hE.dp x d hx
          have hd1 : e.gaGr x + 1 < n + 1 := by have := d1.1; simpa [dpS] using this
          walk_at "w"
          refine rd_ix_dct (hE.at_ x d hx) ?_
          walk_at "w"
          refine cs0 ⟨rfl, d, e, rfl, rfl, hE, hE.ca x d hx, by omega, h4.1, gs, ?_⟩
          exact ⟨_, _, _, _, _, _, _, rfl⟩
        | alt o bs =>
          have er : woS e.f (.alt o bs) = .cons (.alt o (woLs e.f bs)) .nil := by simp [woS]
          have er2 : wB (woS e.f (.alt o bs)) = wS (.alt o (woLs e.f bs)) := by rw [er, wB_one]
          rw [er2] at gs ⊢
          have hsh : ShS (.alt o (woLs e.f bs)) := by have := h4.1; rw [er] at this; simp only [ShB] at this; exact this.1
          have hgs := alt_gd hsh gs
          obtain ⟨k1, k2, k3⟩ := (show 2 ≤ (woLs e.f bs).len ∧ (woLs e.f bs).len ≤ 3 ∧ ShBs (woLs e.f bs) from hsh)
          have hbl := woLs_len e.f bs
          have hwl := wLs_len (woLs e.f bs)
          have hne := wLs_ne _ k3
          have hdl : dpLs e.gaGr bs + 1 < n + 1 := by have := d1.1; simpa [dpS] using this
          have hcl : CaLs e.kn bs := by simpa [CaS] using c1
          have at_ : ∀ i c, bs.get i = some c → (wLs (woLs e.f bs))[i]? = some (wB (woB e.f c)) ∧ CaB e.kn c ∧ dpB e.gaGr c < n ∧ ShB (woB e.f c) ∧ Gd (wB (woB e.f c)) ∧ (eBs bs)[i]? = some (.tup (eB c)) := fun i c hc => by
            have a1 := woLs_at e.f bs i c hc
            have a2 : (wLs (woLs e.f bs))[i]? = some (wB (woB e.f c)) := by rw [wLs_get, a1]; rfl
            have a3 := dpLs_get (gaGr := e.gaGr) bs i c hc
            exact ⟨a2, CaLs_get bs i c hc hcl, by omega, (ShBs_at _ i _ a1 k3).2, hgs _ (List.mem_of_getElem? a2), by rw [eBs_get, hc]; rfl⟩
          cases o with
          | false =>
            have ew : wS (.alt false (woLs e.f bs)) = altE 0 (wLs (woLs e.f bs)) := by simp [wS]
            rw [ew] at gs ⊢
            refine WS.frz (PO := fun o => ∃ q v5 v6 v7 v8 v9 v10 v11, o = .nx [some (.tup (eB b)), some (.dct e.GaGr), some (eWays told), some (eS (.alt false bs)), some (.adr q), v5, v6, v7, v8, v9, v10, v11] [(q, eWays (altE 0 (wLs (woLs e.f bs))))]) ?_ ?_
            rotate_left
            · rintro o ⟨q, v5, v6, v7, v8, v9, v10, v11, rfl⟩
              refine .inr ⟨_, _, 0, q, _, [some (.tup (eB b)), some (.dct e.GaGr), some (eWays told), some (eS (.alt false bs)), some (eWays (altE 0 (wLs (woLs e.f bs)))), v5, v6, v7, v8, v9, v10, v11], rfl, rfl, rfl, ?_, ⟨_, _, _, _, _, _, _, rfl⟩⟩
              intro j x hx
              match j, hx with
              | 0, hx => exact .inl hx
              | 1, hx => exact .inl hx
              | 2, hx => exact .inl hx
              | 3, hx => exact .inl hx
              | 4, hx => exact .inr ⟨rfl, (Option.some.inj (Option.some.inj hx)).symm⟩
              | j + 5, hx => exact .inl hx
            walk_at "w"
            refine we_lstO ?_
            walk_at "w"
            intro p
            walk_at "w"
            refine wi_rng1 ?_
            walk_at "w"
            rw [eBs_len]
            refine ⟨_, rfl, by omega, by omega, fun _ => trivial, ?_⟩
            rw [Int.toNat_natCast, iterN_eq]
            refine turns_ind (A := Nat × Nat × List Way) (fun z ds rhGr w' => ds = natsF z.1 z.2.1 ∧ z.1 + z.2.1 = bs.len ∧ z.2.2 ++ altE z.1 ((wLs (woLs e.f bs)).drop z.1) = altE 0 (wLs (woLs e.f bs)) ∧ (∃ v5 v6 v7 v8 v9 v10 v11, rhGr = [some (.tup (eB b)), some (.dct e.GaGr), some (eWays told), some (eS (.alt false bs)), some (.adr p), v5, v6, v7, v8, v9, v10, v11]) ∧ w' = [(p, eWays z.2.2)]) ?_ ?_ (0, bs.len, []) ⟨rfl, Nat.zero_add _, rfl, ⟨_, _, _, _, _, _, _, rfl⟩, rfl⟩
            · rintro ⟨i, m, acc⟩ rhGr w' ⟨f1, f2, f3, ⟨u5, u6, u7, u8, u9, u10, u11, rfl⟩, rfl⟩
              cases m with
              | succ m => cases f1
              | zero =>
                have f2' : i = bs.len := f2
                have f4 : acc = altE 0 (wLs (woLs e.f bs)) := by
                  rw [← f3, f2', ← hbl, ← hwl, List.drop_length]; exact (List.append_nil _).symm
                rw [← f4]
                exact ⟨_, _, _, _, _, _, _, _, rfl⟩
            · rintro ⟨i, m, acc⟩ x xs rhGr w' ⟨f1, f2, f3, ⟨u5, u6, u7, u8, u9, u10, u11, rfl⟩, rfl⟩
              cases m with
              | zero => cases f1
              | succ m =>
                obtain ⟨rfl, rfl⟩ := List.cons.inj f1
                have f2' : i + (m + 1) = bs.len := f2
                obtain ⟨c, hc⟩ := get_lt bs i (by omega)
                obtain ⟨a1, a2, a3, a4, a5, a6⟩ := at_ i c hc
                rw [altE_drop a1, ← List.append_assoc] at f3
                have gl : (acc ++ both [[i]] (wB (woB e.f c))).length ≤ 24 := by rw [← f3] at gs; exact (Gd.app_l gs).1
                have eb : both [[i]] (wB (woB e.f c)) = (wB (woB e.f c)).map fun y => [i] ++ y := by simp [both]
                rw [eb] at gl f3
                walk_at "w"
                refine we_extX ?_
                walk_at "w"
                refine ⟨p, rfl, ⟨0, _, rfl⟩, ?_⟩
                walk_at "w"
                refine we_lcM (catD (eWay [i])) (wi_anyL ?_)
                walk_at "w"
                refine rd_ix_tup (by omega) (by rw [Int.toNat_natCast]; exact a6) ?_
                walk_at "w"
                refine cs0 ⟨rfl, c, e, rfl, rfl, hE, a2, a3, a4, a5, ?_⟩
                refine ⟨_, .inl rfl, by rw [List.length_map]; have := a5.1; omega, fun _ => trivial, fun x hx => ?_, ?_⟩
                · obtain ⟨y, hy, rfl⟩ := List.mem_map.mp hx
                  walk_at "w"
                  exact rd_plus_tup (way_add (a := [i]) (Nat.le_of_ble_eq_true rfl) (a5.2 y hy)) ⟨rfl, rfl⟩
                · rw [catD_map]
                  refine ⟨_, .inl rfl, 0, _, rfl, ?_, ?_⟩
                  · exact len24 gl
                  · exact ⟨(i + 1, m, acc ++ (wB (woB e.f c)).map fun y => [i] ++ y), rfl, by show i + 1 + m = _; omega, f3, ⟨_, _, _, _, _, _, _, rfl⟩, ways_ext _ _ _⟩
          | true =>
            have ew : wS (.alt true (woLs e.f bs)) = altO (wLs (woLs e.f bs)) 0 (ordN bs.len) := by simp [wS, hwl, hbl]
            rw [ew] at gs ⊢
            have hn : bs.len = 2 ∨ bs.len = 3 := by omega
            have hlt := ordN_lt hn
            have nn : ∀ i, i < bs.len → (wLs (woLs e.f bs)).getD i [] ≠ [] := fun i hi => by
              rw [List.getD_eq_getElem?_getD, List.getElem?_eq_getElem (by omega)]
              exact hne _ (List.getElem_mem _)
            refine WS.frz (PO := fun o => ∃ q v5 v6 v7 v8 v9 v10 v11, o = .nx [some (.tup (eB b)), some (.dct e.GaGr), some (eWays told), some (eS (.alt true bs)), some (.adr q), v5, v6, v7, v8, v9, v10, v11] [(q, eWays (altO (wLs (woLs e.f bs)) 0 (ordN bs.len)))]) ?_ ?_
            rotate_left
            · rintro o ⟨q, v5, v6, v7, v8, v9, v10, v11, rfl⟩
              refine .inr ⟨_, _, 0, q, _, [some (.tup (eB b)), some (.dct e.GaGr), some (eWays told), some (eS (.alt true bs)), some (eWays (altO (wLs (woLs e.f bs)) 0 (ordN bs.len))), v5, v6, v7, v8, v9, v10, v11], rfl, rfl, rfl, ?_, ⟨_, _, _, _, _, _, _, rfl⟩⟩
              intro j x hx
              match j, hx with
              | 0, hx => exact .inl hx
              | 1, hx => exact .inl hx
              | 2, hx => exact .inl hx
              | 3, hx => exact .inl hx
              | 4, hx => exact .inr ⟨rfl, (Option.some.inj (Option.some.inj hx)).symm⟩
              | j + 5, hx => exact .inl hx
            walk_at "w"
            refine we_lstO ?_
            walk_at "w"
            intro p
            walk_at "w"
            rw [eBs_len]
            refine cs0 ⟨rfl, bs.len, rfl, hn, ?_⟩
            walk_at "w"
            refine wi_rng1 ?_
            walk_at "w"
            rw [List.length_map]
            refine ⟨_, rfl, by omega, by rcases hn with h | h <;> rw [h] <;> decide, fun _ => trivial, ?_⟩
            rw [Int.toNat_natCast, iterN_eq]
            refine turns_ind (A := Nat × Nat × List Way) (fun z ds rhGr w' => ds = natsF z.1 z.2.1 ∧ z.1 + z.2.1 = (ordN bs.len).length ∧ z.2.2 ++ altO (wLs (woLs e.f bs)) z.1 ((ordN bs.len).drop z.1) = altO (wLs (woLs e.f bs)) 0 (ordN bs.len) ∧ (∃ v5 v6 v8 v9 v10 v11, rhGr = [some (.tup (eB b)), some (.dct e.GaGr), some (eWays told), some (eS (.alt true bs)), some (.adr p), v5, v6, some (eOrdL bs.len), v8, v9, v10, v11]) ∧ w' = [(p, eWays z.2.2)]) ?_ ?_ (0, (ordN bs.len).length, []) ⟨rfl, Nat.zero_add _, rfl, ⟨_, _, _, _, _, _, rfl⟩, rfl⟩
            · rintro ⟨i, m, acc⟩ rhGr w' ⟨f1, f2, f3, ⟨u5, u6, u8, u9, u10, u11, rfl⟩, rfl⟩
              cases m with
              | succ m => cases f1
              | zero =>
                have f2' : i = (ordN bs.len).length := f2
                have f4 : acc = altO (wLs (woLs e.f bs)) 0 (ordN bs.len) := by
                  rw [← f3, f2', List.drop_length]; exact (List.append_nil _).symm
                rw [← f4]
                exact ⟨_, _, _, _, _, _, _, _, rfl⟩
            · rintro ⟨i, m, acc⟩ x xs rhGr w' ⟨f1, f2, f3, ⟨u5, u6, u8, u9, u10, u11, rfl⟩, rfl⟩
              cases m with
              | zero => cases f1
              | succ m =>
                obtain ⟨rfl, rfl⟩ := List.cons.inj f1
                have f2' : i + (m + 1) = (ordN bs.len).length := f2
                obtain ⟨os, hos⟩ : ∃ os, (ordN bs.len)[i]? = some os := ⟨_, List.getElem?_eq_getElem (by omega)⟩
                rw [altO_drop hos, ← List.append_assoc] at f3
                have gall : Gd (acc ++ ordW (wLs (woLs e.f bs)) [[i]] os) := by rw [← f3] at gs; exact Gd.app_l gs
                have go := Gd.app_r gall
                have lo := (hlt os (List.mem_of_getElem? hos)).1
                walk_at "w"
                refine we_lst ?_
                walk_at "w"
                refine wi_anyL ?_
                walk_at "w"
                refine rd_ix_lst (d := .lst (os.map fun k : Nat => .int (k : Int))) (by omega) (by rw [Int.toNat_natCast, List.getElem?_map, hos]; rfl) ?_
                refine ⟨_, .inl rfl, fun _ => trivial, ?_⟩
                refine turns_ind (A := List Way × List Nat) (fun z ds rhGr w' => ds = z.2.map (fun k : Nat => D.int (k : Int)) ∧ (∀ i ∈ z.2, i < bs.len) ∧ z.1 ≠ [] ∧ ordW (wLs (woLs e.f bs)) z.1 z.2 = ordW (wLs (woLs e.f bs)) [[i]] os ∧ (∃ v6 v9 v10 v11, rhGr = [some (.tup (eB b)), some (.dct e.GaGr), some (eWays told), some (eS (.alt true bs)), some (.adr p), some (.int (i : Nat)), v6, some (eOrdL bs.len), some (eWays z.1), v9, v10, v11]) ∧ w' = [(p, eWays acc)]) ?_ ?_ ([[i]], os) ⟨rfl, lo, by simp, rfl, ⟨_, _, _, _, rfl⟩, rfl⟩
                · rintro ⟨tl, os'⟩ rhGr w' ⟨q1, q2, q3, q4, ⟨t6, t9, t10, t11, rfl⟩, rfl⟩
                  cases os' with
                  | cons j os' => cases q1
                  | nil =>
                    have ft : tl = ordW (wLs (woLs e.f bs)) [[i]] os := q4
                    rw [← ft] at f3 gall
                    walk_at "w"
                    refine we_extX ?_
                    walk_at "w"
                    refine ⟨p, rfl, ⟨0, _, rfl⟩, ?_⟩
                    walk_at "w"
                    refine ⟨_, .inl rfl, 0, _, rfl, ?_, ?_⟩
                    · exact len24 gall.1
                    · exact ⟨(i + 1, m, acc ++ tl), rfl, by show i + 1 + m = _; omega, f3, ⟨_, _, _, _, _, _, rfl⟩, ways_ext _ _ _⟩
                · rintro ⟨tl, os'⟩ x xs rhGr w' ⟨q1, q2, q3, q4, ⟨t6, t9, t10, t11, rfl⟩, rfl⟩
                  cases os' with
                  | nil => cases q1
                  | cons j os' =>
                    obtain ⟨rfl, rfl⟩ := List.cons.inj q1
                    have hj := q2 j (by simp)
                    obtain ⟨c, hc⟩ := get_lt bs j hj
                    obtain ⟨a1, a2, a3, a4, a5, a6⟩ := at_ j c hc
                    have ej : (wLs (woLs e.f bs)).getD j [] = wB (woB e.f c) := by rw [List.getD_eq_getElem?_getD, a1]; rfl
                    have q5 : ordW (wLs (woLs e.f bs)) (both tl (wB (woB e.f c))) os' = ordW (wLs (woLs e.f bs)) [[i]] os := by rw [← ej]; exact q4
                    have nc := wB_ne _ a4
                    have g5 : Gd (both tl (wB (woB e.f c))) := (ordW_gd (by rw [q5]; exact go) (both_ne q3 nc) fun z hz => nn z (q2 z (List.mem_cons_of_mem _ hz))).1
                    have gtl := g5.left nc
                    walk_at "w"
                    refine we_lstO ?_
                    walk_at "w"
                    intro q
                    walk_at "w"
                    refine wi_anyL ?_
                    walk_at "w"
                    refine ⟨_, .inl rfl, fun _ => trivial, ?_⟩
                    refine turns_ind (A := List Way × List Way) (fun z ds rhGr w' => ds = z.2.map eWay ∧ (∀ x ∈ z.2, x ∈ tl) ∧ z.1 ++ both z.2 (wB (woB e.f c)) = both tl (wB (woB e.f c)) ∧ (∃ v6 v11, rhGr = [some (.tup (eB b)), some (.dct e.GaGr), some (eWays told), some (eS (.alt true bs)), some (.adr p), some (.int (i : Nat)), v6, some (eOrdL bs.len), some (eWays tl), some (.int (j : Nat)), some (.adr q), v11]) ∧ w' = [(p, eWays acc), (q, eWays z.1)]) ?_ ?_ ([], tl) ⟨rfl, fun _ h => h, rfl, ⟨_, _, rfl⟩, rfl⟩
                    · rintro ⟨lg, rs⟩ rhGr w' ⟨r1, r2, r3, ⟨s6, s11, rfl⟩, rfl⟩
                      cases rs with
                      | cons z rs => cases r1
                      | nil =>
                        have fl : lg = both tl (wB (woB e.f c)) := by rw [← r3]; exact (List.append_nil _).symm
                        subst fl
                        refine ws_asg (we_freeze (we_var rfl ⟨1, q, _, rfl, rfl, ?_⟩))
                        exact ⟨(both tl (wB (woB e.f c)), os'), rfl, fun z hz => q2 z (List.mem_cons_of_mem _ hz), both_ne q3 nc, q5, ⟨_, _, _, _, rfl⟩, rfl⟩
                    · rintro ⟨lg, rs⟩ x xs rhGr w' ⟨r1, r2, r3, ⟨s6, s11, rfl⟩, rfl⟩
                      cases rs with
                      | nil => cases r1
                      | cons t rs =>
                        obtain ⟨rfl, rfl⟩ := List.cons.inj r1
                        have ht := gtl.2 t (r2 t (by simp))
                        have r3' : (lg ++ (wB (woB e.f c)).map fun y => t ++ y) ++ both rs (wB (woB e.f c)) = both tl (wB (woB e.f c)) := by rw [← r3, both_cons, List.append_assoc]
                        have gl : (lg ++ (wB (woB e.f c)).map fun y => t ++ y).length ≤ 24 := by rw [← r3'] at g5; exact (Gd.app_l g5).1
                        walk_at "w"
                        refine we_extX ?_
                        walk_at "w"
                        refine ⟨q, rfl, ⟨1, _, rfl⟩, ?_⟩
                        walk_at "w"
                        refine we_lcM (catD (eWay t)) (wi_anyL ?_)
                        walk_at "w"
                        refine rd_ix_tup (by omega) (by rw [Int.toNat_natCast]; exact a6) ?_
                        walk_at "w"
                        refine cs0 ⟨rfl, c, e, rfl, rfl, hE, a2, a3, a4, a5, ?_⟩
                        refine ⟨_, .inl rfl, by rw [List.length_map]; have := a5.1; omega, fun _ => trivial, fun x hx => ?_, ?_⟩
                        · obtain ⟨y, hy, rfl⟩ := List.mem_map.mp hx
                          walk_at "w"
                          exact rd_plus_tup (way_add ht (a5.2 y hy)) ⟨rfl, rfl⟩
                        · rw [catD_map]
                          refine ⟨_, .inl rfl, 1, _, rfl, ?_, ?_⟩
                          · exact len24 gl
                          · refine ⟨(lg ++ (wB (woB e.f c)).map fun y => t ++ y, rs), rfl, fun z hz => r2 z (List.mem_cons_of_mem _ hz), r3', ⟨_, _, rfl⟩, ?_⟩
                            rw [← ways_ext2]; rfl
      · rintro o ⟨u5, u6, u7, u8, u9, u10, u11, rfl⟩
        refine ws_seq (ws_asg (we_lstO (wa_nil ⟨Nat.zero_le _, fun q => ?_⟩)))
        refine ws_seq (ws_forU (wi_anyL (we_var rfl ⟨_, .inl rfl, fun _ => trivial, ?_⟩)))
        refine turns_ind (A := List Way × List Way) (fun z ds rhGr w' => ds = z.2.map eWay ∧ (∀ x ∈ z.2, x ∈ told) ∧ z.1 ++ both z.2 (wB (woS e.f s)) = both told (wB (woS e.f s)) ∧ (∃ v5 v6 v7 v8 v9 v11, rhGr = [some (.tup (eB b)), some (.dct e.GaGr), some (eWays told), some (eS s), some (eWays (wB (woS e.f s))), v5, v6, v7, v8, v9, some (.adr q), v11]) ∧ w' = [(q, eWays z.1)]) ?_ ?_ ([], told) ⟨rfl, fun _ h => h, rfl, ⟨_, _, _, _, _, _, rfl⟩, rfl⟩
        · rintro ⟨acc, rs⟩ rhGr w' ⟨f1, f2, f3, ⟨t5, t6, t7, t8, t9, t11, rfl⟩, rfl⟩
          cases rs with
          | cons z rs => cases f1
          | nil =>
            have fa : acc = both told (wB (woS e.f s)) := by rw [← f3]; exact (List.append_nil _).symm
            subst fa
            refine ws_asg (we_freeze (we_var rfl ⟨0, q, _, rfl, rfl, ?_⟩))
            exact ⟨(both told (wB (woS e.f s)), rest), rfl, c2, d1.2, h4.2, e5, both_ne h6 n1, ⟨_, _, _, _, _, _, _, _, _, rfl⟩, rfl⟩
        · rintro ⟨acc, rs⟩ x xs rhGr w' ⟨f1, f2, f3, ⟨t5, t6, t7, t8, t9, t11, rfl⟩, rfl⟩
          cases rs with
          | nil => cases f1
          | cons t rs =>
            obtain ⟨rfl, rfl⟩ := List.cons.inj f1
            have ht := gt.2 t (f2 t (by simp))
            have f3' : (acc ++ (wB (woS e.f s)).map fun y => t ++ y) ++ both rs (wB (woS e.f s)) = both told (wB (woS e.f s)) := by rw [← f3, both_cons, List.append_assoc]
            have gl : (acc ++ (wB (woS e.f s)).map fun y => t ++ y).length ≤ 24 := by rw [← f3'] at g1; exact (Gd.app_l g1).1
            walk_at "w"
            refine we_extX ?_
            walk_at "w"
            refine ⟨q, rfl, ⟨0, _, rfl⟩, ?_⟩
            walk_at "w"
            refine we_lcM (catD (eWay t)) (wi_anyL ?_)
            walk_at "w"
            refine ⟨_, .inl rfl, by rw [List.length_map]; have := gs.1; omega, fun _ => trivial, fun x hx => ?_, ?_⟩
            · obtain ⟨y, hy, rfl⟩ := List.mem_map.mp hx
              walk_at "w"
              exact rd_plus_tup (way_add ht (gs.2 y hy)) ⟨rfl, rfl⟩
            · rw [catD_map]
              refine ⟨_, .inl rfl, 0, _, rfl, ?_, ?_⟩
              · exact len24 gl
              · exact ⟨(acc ++ (wB (woS e.f s)).map fun y => t ++ y, rs), rfl, fun z hz => f2 z (List.mem_cons_of_mem _ hz), f3', ⟨_, _, _, _, _, _, rfl⟩, ways_ext _ _ _⟩
end
end Hw
/-! HwAG -/
namespace Hw
/-! ### what is told alike is the same -/
theorem eqv_str (a b : Str) : PyData.eqv (.str a) (.str b) = (a == b) := by simp [PyData.eqv]
theorem eqv_tup (a b : List PyData) : PyData.eqv (.tuple a) (.tuple b) = PyData.eqvAll a b := by simp [PyData.eqv]
theorem eqvAll_cons (a b : PyData) (as bs : List PyData) : PyData.eqvAll (a :: as) (b :: bs) = (PyData.eqv a b && PyData.eqvAll as bs) := by simp [PyData.eqvAll]
theorem eqvP : ∀ {p q : Prd}, PyData.eqv (py (eP p)) (py (eP q)) = true → p = q
  | none, none, _ => rfl
  | none, some y, h => by simp [eP, py, pys, PyData.eqv, PyData.eqvAll] at h
  | some x, none, h => by simp [eP, py, pys, PyData.eqv, PyData.eqvAll] at h
  | some x, some y, h => by
    simp [eP, py, pys, PyData.eqv, PyData.eqvAll] at h
    rw [h]
theorem eqvT {a b : Trm} (h : PyData.eqv (py (eT a)) (py (eT b)) = true) : a = b := by
  have e : PyData.eqv (py (eT a)) (py (eT b)) = (PyData.eqv (.int a.1) (.int b.1) && (PyData.eqv (py (eP a.2)) (py (eP b.2)) && PyData.eqvAll [] [])) := by
    simp [eT, py, pys, eqv_tup, eqvAll_cons]
  rw [e, Bool.and_eq_true, Bool.and_eq_true] at h
  have h1 : a.1 = b.1 := by simpa [PyData.eqv] using h.1
  have h2 := eqvP h.2.1
  cases a; cases b; simp only at h1 h2; rw [h1, h2]
theorem eqvTs : ∀ {as bs : List Trm}, PyData.eqvAll (pys (as.map eT)) (pys (bs.map eT)) = true → as = bs
  | [], [], _ => rfl
  | [], b :: bs, h => by simp [pys, PyData.eqvAll] at h
  | a :: as, [], h => by simp [pys, PyData.eqvAll] at h
  | a :: as, b :: bs, h => by
    have e : PyData.eqvAll (pys ((a :: as).map eT)) (pys ((b :: bs).map eT)) = (PyData.eqv (py (eT a)) (py (eT b)) && PyData.eqvAll (pys (as.map eT)) (pys (bs.map eT))) := by
      simp [pys, eqvAll_cons]
    rw [e, Bool.and_eq_true] at h
    rw [eqvT h.1, eqvTs h.2]
theorem eqv3 {t t' x x' : Str} {d d' : D} (h : PyData.eqv (py (.tup [.str t, .str x, d])) (py (.tup [.str t', .str x', d'])) = true) : t = t' ∧ x = x' ∧ PyData.eqv (py d) (py d') = true := by
  have e : PyData.eqv (py (.tup [.str t, .str x, d])) (py (.tup [.str t', .str x', d'])) = ((t == t') && ((x == x') && (PyData.eqv (py d) (py d') && PyData.eqvAll [] []))) := by
    simp [py, pys, eqv_tup, eqvAll_cons, eqv_str]
  rw [e, Bool.and_eq_true, Bool.and_eq_true, Bool.and_eq_true] at h
  exact ⟨eq_of_beq h.1, eq_of_beq h.2.1, h.2.2.1⟩
theorem eqv2 {t t' : Str} {d d' : D} (h : PyData.eqv (py (.tup [.str t, d])) (py (.tup [.str t', d'])) = true) : t = t' ∧ PyData.eqv (py d) (py d') = true := by
  have e : PyData.eqv (py (.tup [.str t, d])) (py (.tup [.str t', d'])) = ((t == t') && (PyData.eqv (py d) (py d') && PyData.eqvAll [] [])) := by
    simp [py, pys, eqv_tup, eqvAll_cons, eqv_str]
  rw [e, Bool.and_eq_true, Bool.and_eq_true] at h
  exact ⟨eq_of_beq h.1, h.2.1⟩
theorem eqv32 {t t' x x' : Str} {d d' : D} : ¬ PyData.eqv (py (.tup [.str t, .str x, d])) (py (.tup [.str t', d'])) = true := by
  simp [py, pys, eqv_tup, PyData.eqvAll]
theorem eqv23 {t t' x x' : Str} {d d' : D} : ¬ PyData.eqv (py (.tup [.str t', d'])) (py (.tup [.str t, .str x, d])) = true := by
  simp [py, pys, eqv_tup, PyData.eqvAll]
def tagR : Row → Str
  | .add _ _ => "add"
  | .lift _ _ => "lift"
  | .set _ _ => "set"
def dR : Row → D
  | .add _ ts => eTs ts
  | .lift _ t => eT t
  | .set _ ts => eTs ts
theorem eR_eq (r : Row) : eR r = .tup [.str (tagR r), .str r.tgt, dR r] := by cases r <;> rfl
theorem eqvTsD {as bs : List Trm} (h : PyData.eqv (py (eTs as)) (py (eTs bs)) = true) : as = bs := by
  have e : PyData.eqv (py (eTs as)) (py (eTs bs)) = PyData.eqvAll (pys (as.map eT)) (pys (bs.map eT)) := by simp [eTs, py, eqv_tup]
  rw [e] at h
  exact eqvTs h
theorem eqvR {r s : Row} (h : PyData.eqv (py (eR r)) (py (eR s)) = true) : r = s := by
  rw [eR_eq, eR_eq] at h
  obtain ⟨h1, h2, h3⟩ := eqv3 h
  cases r <;> cases s
  case add.add x ts y us => rw [show x = y from h2, eqvTsD h3]
  case lift.lift x ts y us => rw [show x = y from h2, eqvT h3]
  case set.set x ts y us => rw [show x = y from h2, eqvTsD h3]
  all_goals exact absurd h1 (by simp only [tagR]; decide +kernel)
theorem eW_inj {o p : Bool} (h : eW o = eW p) : o = p := by
  cases o <;> cases p
  · rfl
  · exact absurd h (by decide +kernel)
  · exact absurd h (by decide +kernel)
  · rfl
mutual
theorem eqvS : ∀ (s t : Stm), PyData.eqv (py (eS s)) (py (eS t)) = true → s = t
  | .row r, .row q, h => by rw [eqvR h]
  | .row r, .loop x b, h => by
    rw [show eS (.row r) = eR r from rfl, eR_eq] at h
    exact absurd (eqv3 (d' := .tup (eB b)) h).1 (by cases r <;> (simp only [tagR]; decide +kernel))
  | .row r, .alt o bs, h => by
    rw [show eS (.row r) = eR r from rfl, eR_eq] at h
    exact absurd h (eqv32 (t' := eW o) (d' := .tup (eBs bs)) (x' := ""))
  | .row r, .call w, h => by
    rw [show eS (.row r) = eR r from rfl, eR_eq] at h
    exact absurd h (eqv32 (t' := "call") (d' := .str w) (x' := ""))
  | .loop x b, .row r, h => by
    rw [show eS (.row r) = eR r from rfl, eR_eq] at h
    exact absurd (eqv3 (d := .tup (eB b)) h).1 (by cases r <;> (simp only [tagR]; decide +kernel))
  | .loop x b, .loop y c, h => by
    obtain ⟨_, h2, h3⟩ := eqv3 (t := "loop") (t' := "loop") (d := .tup (eB b)) (d' := .tup (eB c)) h
    have h4 : PyData.eqvAll (pys (eB b)) (pys (eB c)) = true := by simpa [py, eqv_tup] using h3
    rw [h2, eqvB b c h4]
  | .loop x b, .alt o bs, h => absurd h (eqv32 (t := "loop") (x := x) (d := .tup (eB b)) (t' := eW o) (d' := .tup (eBs bs)) (x' := ""))
  | .loop x b, .call w, h => absurd h (eqv32 (t := "loop") (x := x) (d := .tup (eB b)) (t' := "call") (d' := .str w) (x' := ""))
  | .alt o bs, .row r, h => by
    rw [show eS (.row r) = eR r from rfl, eR_eq] at h
    exact absurd h (eqv23 (t' := eW o) (d' := .tup (eBs bs)) (x' := ""))
  | .alt o bs, .loop x b, h => absurd h (eqv23 (t := "loop") (x := x) (d := .tup (eB b)) (t' := eW o) (d' := .tup (eBs bs)) (x' := ""))
  | .alt o bs, .alt p cs, h => by
    obtain ⟨h1, h2⟩ := eqv2 (t := eW o) (t' := eW p) (d := .tup (eBs bs)) (d' := .tup (eBs cs)) h
    have h4 : PyData.eqvAll (pys (eBs bs)) (pys (eBs cs)) = true := by simpa [py, eqv_tup] using h2
    rw [eW_inj h1, eqvBs bs cs h4]
  | .alt o bs, .call w, h => absurd (eqv2 (t := eW o) (t' := "call") (d := .tup (eBs bs)) (d' := .str w) h).1 (by cases o <;> decide +kernel)
  | .call w, .row r, h => by
    rw [show eS (.row r) = eR r from rfl, eR_eq] at h
    exact absurd h (eqv23 (t' := "call") (d' := .str w) (x' := ""))
  | .call w, .loop x b, h => absurd h (eqv23 (t := "loop") (x := x) (d := .tup (eB b)) (t' := "call") (d' := .str w) (x' := ""))
  | .call w, .alt o bs, h => absurd (eqv2 (t' := eW o) (t := "call") (d' := .tup (eBs bs)) (d := .str w) h).1 (by cases o <;> decide +kernel)
  | .call w, .call v, h => by
    have h2 := (eqv2 (t := "call") (t' := "call") (d := .str w) (d' := .str v) h).2
    have h3 : w = v := by simpa [py, eqv_str] using h2
    rw [h3]
theorem eqvB : ∀ (b c : Blk), PyData.eqvAll (pys (eB b)) (pys (eB c)) = true → b = c
  | .nil, .nil, _ => rfl
  | .nil, .cons t c, h => by simp [eB, pys, PyData.eqvAll] at h
  | .cons s b, .nil, h => by simp [eB, pys, PyData.eqvAll] at h
  | .cons s b, .cons t c, h => by
    have e : PyData.eqvAll (pys (eB (.cons s b))) (pys (eB (.cons t c))) = (PyData.eqv (py (eS s)) (py (eS t)) && PyData.eqvAll (pys (eB b)) (pys (eB c))) := by simp [eB, pys, eqvAll_cons]
    rw [e, Bool.and_eq_true] at h
    rw [eqvS s t h.1, eqvB b c h.2]
theorem eqvBs : ∀ (b c : Bls), PyData.eqvAll (pys (eBs b)) (pys (eBs c)) = true → b = c
  | .nil, .nil, _ => rfl
  | .nil, .cons t c, h => by simp [eBs, pys, PyData.eqvAll] at h
  | .cons s b, .nil, h => by simp [eBs, pys, PyData.eqvAll] at h
  | .cons s b, .cons t c, h => by
    have e : PyData.eqvAll (pys (eBs (.cons s b))) (pys (eBs (.cons t c))) = (PyData.eqvAll (pys (eB s)) (pys (eB t)) && PyData.eqvAll (pys (eBs b)) (pys (eBs c))) := by simp [eBs, py, pys, eqvAll_cons, eqv_tup]
    rw [e, Bool.and_eq_true] at h
    rw [eqvB s t h.1, eqvBs b c h.2]
end
theorem eqv_block (b c : Blk) (h : PyData.eqv (py (.tup (eB b))) (py (.tup (eB c))) = true) : b = c := eqvB b c (by simpa [py, eqv_tup] using h)
/-! ### ways are sorted -/
theorem pys_map {alGr : Type} (f : alGr → D) : ∀ l : List alGr, pys (l.map f) = l.map fun x => py (f x)
  | [] => rfl
  | x :: l => by show py (f x) :: pys (l.map f) = _; rw [pys_map f l]; rfl
theorem isPys_map {alGr : Type} (f : alGr → D) (h : ∀ x, isPy (f x) = true) : ∀ l : List alGr, isPys (l.map f) = true
  | [] => rfl
  | x :: l => by show (isPy (f x) && isPys (l.map f)) = true; rw [h x, isPys_map f h l]; rfl
def wInts (w : Way) : List Int := w.map fun k : Nat => (k : Int)
theorem py_way (w : Way) : py (eWay w) = .tuple ((wInts w).map .int) := by
  show PyData.tuple (pys _) = _
  rw [pys_map, wInts, List.map_map]; rfl
theorem isPy_way (w : Way) : isPy (eWay w) = true := by
  show isPys _ = true
  exact isPys_map _ (fun _ => rfl) w
theorem lx_not {a b : Way} (h : Lx a b) : ¬ wInts b < wInts a := by
  obtain ⟨p, x, y, a', b', hl, rfl, rfl⟩ := h
  induction p with
  | nil =>
    intro h
    rcases List.cons_lt_cons_iff.mp (show (y : Int) :: wInts b' < (x : Int) :: wInts a' from h) with h | h <;> omega
  | cons c p ih =>
    intro h
    rcases List.cons_lt_cons_iff.mp (show (c : Int) :: wInts (p ++ y :: b') < (c : Int) :: wInts (p ++ x :: a') from h) with h | h
    · omega
    · exact ih h.2
theorem lx_data {a b : Way} (h : Lx a b) : PySem.W.dataLt (py (eWay b)) (py (eWay a)) = false := by
  rw [py_way, py_way, PySem.W.dataLt_tuple]
  show PySem.W.rowLt _ _ = false
  rw [PySem.W.dataLt_ints, decide_eq_false (lx_not h)]
theorem lx_ne {a b : Way} (h : Lx a b) : (∃ x r, a = x :: r) ∧ ∃ x r, b = x :: r := by
  obtain ⟨p, x, y, a', b', hl, rfl, rfl⟩ := h
  cases p with
  | nil => exact ⟨⟨_, _, rfl⟩, ⟨_, _, rfl⟩⟩
  | cons c p => exact ⟨⟨_, _, rfl⟩, ⟨_, _, rfl⟩⟩
theorem asc_ne {ws : List Way} (h : Asc ws) (h2 : 2 ≤ ws.length) : ∀ w ∈ ws, ∃ x r, w = x :: r := by
  match ws, h, h2 with
  | [], _, h2 => simp at h2
  | [_], _, h2 => simp at h2
  | a :: b :: l, h, _ =>
    intro w hw
    have h1 := (List.pairwise_cons.mp h).1
    rcases List.mem_cons.mp hw with rfl | hw
    · exact (lx_ne (h1 b (by simp))).1
    · exact (lx_ne (h1 w hw)).2
theorem rc_sortW {Z : Zt} {w : Own} {P : D → Own → Prop} {ws : List Way} (h : Asc ws) (p : P (eWays ws) w) : RC Z (rSrtZ Z.K) [eWays ws] w P := by
  have e : pys (ws.map eWay) = ws.map fun w => PyData.tuple ((wInts w).map .int) := by rw [pys_map]; exact List.map_congr_left fun w _ => py_way w
  refine rc_srtA (isPys_map _ isPy_way ws) (fun h2 => ?_) ?_ ?_ p
  · rw [e] at h2 ⊢
    rw [List.length_map] at h2
    have hn := asc_ne h h2
    refine ⟨PySem.W.AllAlike.of fun a b => by rw [PySem.W.alike, PySem.W.alike_ints], .inl fun d hd => ?_⟩
    obtain ⟨w, hw, rfl⟩ := List.mem_map.mp hd
    obtain ⟨x, r, rfl⟩ := hn w hw
    exact ⟨_, _, rfl⟩
  · rw [pys_map]
    exact List.Pairwise.map _ (fun a b hab => lx_data hab) h
  · rw [e]
    intro d hd
    obtain ⟨w, hw, rfl⟩ := List.mem_map.mp hd
    have := PySem.W.depth_ints (wInts w)
    simp only [PyData.depth, this]
    omega
/-- what is compared can be -/
def PlB (b : Blk) : Prop := isPy (.tup (eB b)) = true ∧ SeqAt.shaped (py (.tup (eB b))) = true
/-- what is kept -/
def Kp (e : En) (ks : List D) : Prop := ∀ d ∈ ks, ∃ c, d = .tup [.tup (eB c), eWays (wB (woB e.f c))] ∧ PlB c
def S_law_ways_kept (n : Nat) : DSpec := fun ds w P _ => ds.length = 3 ∧ ∃ (b : Blk) (e : En) (a : Ad) (s : Sn) (lg : Bool) (kvs : List (Str × D)) (ks : List D), ds = [.tup (eB b), .dct e.GaGr, .adr a.sp] ∧ w = lO a s lg kvs ks ∧ EnOk e ∧ CaB e.kn b ∧ dpB e.gaGr b < n ∧ ShB (woB e.f b) ∧ Gd (wB (woB e.f b)) ∧
  PlB b ∧ Kp e ks ∧ ks.length < 2000000 ∧ ∀ ks', Kp e ks' → ks'.length ≤ ks.length + 1 → P (eWays (wB (woB e.f b))) (lO a s lg kvs ks')
section
variable {P : Program} {w : World} {K : PySem.W.Frag} {mg : Str → Option Value} {base : Heap} {T : Addr}
abbrev st_law_ways_kept : Stmt := top 90
abbrev N_law_ways_kept : List Str := ["_law_block_here", "_law_bodies", "_law_state_here", "_law_entry"]
theorem sc_law_ways_kept : FnScope N_law_ways_kept ["_law_block_here", "_law_bodies", "_law_state_here"] (defScope st_law_ways_kept) := ⟨rfl, rfl, rfl, by decide +kernel, rfl, by decide +kernel, by decide +kernel⟩

theorem ok_law_ways_kept {k : Nat} {n : Nat} (bl : Blt mg) (F : DefAt K mg "_law_ways_kept" st_law_ways_kept ["_law_block_here", "_law_bodies", "_law_state_here"]) (h__law_ways_of : Has P w K mg base CX0 "_law_ways_of" ["_law_block_here", "_law_bodies"] k (spOf K T (S_law_ways_of n))) : Has P w K mg base CX0 "_law_ways_kept" ["_law_block_here", "_law_bodies", "_law_state_here"] (k + 1) (spOf K T (S_law_ways_kept n)) := by
  refine defD F sc_law_ways_kept (fun _ _ _ _ h => h.1) fun f cdv A outer s H E hr => ?_
  have hu := hu_of hr
  have hu64 := hr.units
  have nd := sc_law_ways_kept.nd
  refine ⟨_, (pss_cons (ps_for PassesOwn.never rfl (k_walk (K := K) rfl (pe_ix (k_ix (K := K) rfl hu) (pv 2) pe_str (fun _ _ => rfl))) (pg_name (i := 3) nd rfl (Or.inl rfl))
        (pss_one (ps_if (pt_cmpR (k_eq (K := K) rfl hu64) (pe_ix (k_ix (K := K) rfl hu) (pv 3) pe_int (fun _ _ => rfl)) (pv 0) (nomark _))
          (pss_one (ps_ret (pe_ix (k_ix (K := K) rfl hu) (pv 3) pe_int (fun _ _ => rfl))))
          pss_nil)))
      (pss_cons (ps_expr (pe_bm PySem.F.plainAttrs_list PySem.F.slot_list_append PySem.F.type_list_append mt_append (pe_ix (k_ix (K := K) rfl hu) (pv 2) pe_str (fun _ _ => rfl)) (pa_cons (pe_tup (pa_cons (pv 0) (pa_cons (pe_callB (k_srtZ (K := K) rfl rfl hu64) rfl bl.sorted bt_sorted (pa_cons (pe_callH h__law_ways_of hr rfl pass0 (pa_cons (pv 0) (pa_cons (pv 1) pa_nil))) pa_nil)) pa_nil))) pa_nil)))
      (pss_one (ps_ret (pe_ix (k_ix (K := K) rfl hu) (pe_ix (k_ix (K := K) rfl hu) (pe_ix (k_ix (K := K) rfl hu) (pv 2) pe_str (fun _ _ => rfl)) (pe_op op_sub (pe_callB (k_len (K := K) rfl) rfl bl.len bt_len (pa_cons (pe_ix (k_ix (K := K) rfl hu) (pv 2) pe_str (fun _ _ => rfl)) pa_nil)) pe_int) (fun _ _ => rfl)) pe_int (fun _ _ => rfl)))))), ?_⟩
  rintro ds w P X ⟨-, b, e, a, s, lg, kvs, ks, rfl, rfl, hE, hC, hd, hS, hg, hPl, hK, hks, hP⟩
  refine ws_seq (ws_for (wi_anyO ?_))
  walk_at "w"
  refine rd_ix_dctO (d := .adr a.kp) 1 rfl rfl ?_
  have hmem : (a.kp, D.lst ks) ∈ lO a s lg kvs ks := by simp [lO]
  refine ⟨a.kp, ks, rfl, hmem, fun i rhGr' w' => (∃ v3, rhGr' = [some (.tup (eB b)), some (.dct e.GaGr), some (.adr a.sp), v3]) ∧ w' = lO a s lg kvs ks, ⟨⟨none, rfl⟩, rfl⟩, ?_, ?_, ?_⟩
  · rintro i rhGr' w' ⟨_, rfl⟩
    exact hmem
  · rintro i y rhGr' w' hy ⟨⟨v3, rfl⟩, rfl⟩
    obtain ⟨c, rfl, hc⟩ := hK y (List.mem_of_getElem? hy)
    walk_at "w"
    refine rd_eq_dat hc.1 hPl.1 hc.2 hPl.2 ?_
    by_cases hq : PyData.eqv (py (.tup (eB c))) (py (.tup (eB b))) = true
    · obtain rfl := eqv_block c b hq
      rw [hq]
      walk_at "w"
      exact hP ks hK (Nat.le_succ _)
    · rw [Bool.not_eq_true] at hq
      rw [hq]
      walk_at "w"
      exact ⟨⟨_, rfl⟩, rfl⟩
  · rintro rhGr' w' ⟨⟨v3, rfl⟩, rfl⟩
    walk_at "w"
    refine we_append ?_
    walk_at "w"
    refine rd_ix_dctO (d := .adr a.kp) 1 rfl rfl ?_
    refine ⟨a.kp, rfl, ⟨3, _, rfl⟩, ?_⟩
    walk_at "w"
    refine cs0 ⟨rfl, b, e, rfl, rfl, hE, hC, hd, hS, hg, ?_⟩
    walk_at "w"
    refine rc_sortW (asc_wB _) ?_
    walk_at "w"
    refine ⟨3, ks, rfl, by omega, ?_⟩
    refine WS.own (w' := lO a s lg kvs (ks ++ [.tup [.tup (eB b), eWays (wB (woB e.f b))]])) rfl ?_
    have hlast : (ks ++ [D.tup [.tup (eB b), eWays (wB (woB e.f b))]])[ks.length]? = some (.tup [.tup (eB b), eWays (wB (woB e.f b))]) := by simp
    walk_at "w"
    refine rd_ix_dctO (d := .adr a.kp) 1 rfl rfl ?_
    walk_at "w"
    refine rd_ix_dctO (d := .adr a.kp) 1 rfl rfl ?_
    walk_at "w"
    refine rc_len_lstO 3 rfl ?_
    walk_at "w"
    refine rd_ix_lstO 3 rfl (d := .tup [.tup (eB b), eWays (wB (woB e.f b))]) (by rw [List.length_append]; show (0 : Int) ≤ ((ks.length + 1 : Nat) : Int) - 1; omega) (by
      rw [List.length_append]
      show (ks ++ _)[(((ks.length + 1 : Nat) : Int) - 1).toNat]? = _
      rw [show (((ks.length + 1 : Nat) : Int) - 1).toNat = ks.length by omega]
      exact hlast) ?_
    walk_at "w"
    refine hP _ (fun d hd => ?_) (by rw [List.length_append]; exact Nat.le_refl _)
    rcases List.mem_append.mp hd with h | h
    · exact hK d h
    · obtain rfl : d = _ := by simpa using h
      exact ⟨b, rfl, hPl⟩
end
end Hw
/-! HwAH -/
namespace Hw
/-! ### steps are counted -/
theorem step_n {s s' : Sn} (h : s.step = some s') : s'.n = s.n + 1 ∧ s'.pk = s.pk := by
  unfold Sn.step at h
  split at h
  · cases h; exact ⟨rfl, rfl⟩
  · cases h
theorem put_n {s s' : Sn} {r : Row} (h : s.put r = some s') : s'.n = s.n ∧ s'.pk = s.pk := by
  unfold Sn.put at h
  split at h
  · cases h; exact ⟨rfl, rfl⟩
  · cases h
theorem doRow_n {s s' : Sn} {r : Row} (h : doRow s r = some s') : s'.n = s.n + 1 ∧ s'.pk = s.pk := by
  unfold doRow at h
  obtain ⟨s1, h1, h2⟩ := Option.bind_eq_some_iff.mp h
  have e1 := step_n h1
  have e2 := put_n h2
  exact ⟨by omega, by rw [e2.2, e1.2]⟩
theorem iterO_n {f : Nat → Sn → Option Sn} (hf : ∀ i s s', f i s = some s' → s.n ≤ s'.n) : ∀ (m i : Nat) (s s' : Sn), iterO f m i s = some s' → s.n ≤ s'.n
  | 0, _, s, s', h => by cases h; exact Nat.le_refl _
  | m + 1, i, s, s', h => by
    obtain ⟨s1, h1, h2⟩ := Option.bind_eq_some_iff.mp (show (f i s).bind (fun s => iterO f m (i + 1) s) = some s' from h)
    exact Nat.le_trans (hf i s s1 h1) (iterO_n hf m (i + 1) s1 s' h2)
theorem seqO_n {fs : List Fw} (hf : ∀ f ∈ fs, ∀ s v p, f s v = some p → s.n ≤ p.1.n) : ∀ (o : List Nat) (s : Sn) (v : Way) (p : Sn × Way), seqO fs o s v = some p → s.n ≤ p.1.n
  | [], s, v, p, h => by cases h; exact Nat.le_refl _
  | i :: o, s, v, p, h => by
    obtain ⟨p1, h1, h2⟩ := Option.bind_eq_some_iff.mp (show ((fs.getD i fun _ _ => none) s v).bind (fun p => seqO fs o p.1 p.2) = some p from h)
    have h3 : s.n ≤ p1.1.n := by
      rw [List.getD_eq_getElem?_getD] at h1
      cases e : fs[i]? with
      | none => rw [e] at h1; cases h1
      | some f => rw [e] at h1; exact hf f (List.mem_of_getElem? e) s v p1 h1
    exact Nat.le_trans h3 (seqO_n hf o p1.1 p1.2 p h2)
mutual
theorem runS_n : ∀ (st : Stm) (s : Sn) (v : Way) (p : Sn × Way), runS st s v = some p → s.n ≤ p.1.n
  | .row r, s, v, p, h => by
    rw [runS_row] at h
    obtain ⟨s1, h1, rfl⟩ := Option.map_eq_some_iff.mp h
    have := (doRow_n h1).1
    show s.n ≤ s1.n
    omega
  | .loop x b, s, v, p, h => by
    rw [runS_loop] at h
    obtain ⟨s1, h1, rfl⟩ := Option.map_eq_some_iff.mp h
    refine iterO_n (fun i s s' h => ?_) _ _ (s.pick (s.nuGr x)) _ h1
    obtain ⟨s2, h2, h3⟩ := Option.bind_eq_some_iff.mp h
    obtain ⟨q, h4, rfl⟩ := Option.map_eq_some_iff.mp h3
    have := (step_n h2).1
    have := runB_n b s2 _ q h4
    omega
  | .alt o bs, s, [], p, h => by rw [runS] at h; cases h
  | .alt o bs, s, k :: v, p, h => by
    rw [runS_alt] at h
    exact seqO_n (fun f hf => runLs_n bs f hf) _ (s.pick (k : Nat)) v p h
  | .call w, s, v, p, h => by rw [runS] at h; cases h
theorem runB_n : ∀ (b : Blk) (s : Sn) (v : Way) (p : Sn × Way), runB b s v = some p → s.n ≤ p.1.n
  | .nil, s, v, p, h => by rw [runB_nil] at h; cases h; exact Nat.le_refl _
  | .cons st b, s, v, p, h => by
    rw [runB_cons] at h
    obtain ⟨q, h1, h2⟩ := Option.bind_eq_some_iff.mp h
    exact Nat.le_trans (runS_n st s v q h1) (runB_n b q.1 q.2 p h2)
theorem runLs_n : ∀ (bs : Bls), ∀ f ∈ runLs bs, ∀ (s : Sn) (v : Way) (p : Sn × Way), f s v = some p → s.n ≤ p.1.n
  | .nil, f, hf => by rw [runLs] at hf; cases hf
  | .cons b bs, f, hf => by
    rw [runLs] at hf
    rcases List.mem_cons.mp hf with rfl | hf
    · exact fun s v p h => runB_n b s v p h
    · exact runLs_n bs f hf
end
theorem runB_one (st : Stm) (s : Sn) (v : Way) : runB (.cons st .nil) s v = runS st s v := by
  rw [runB_cons]
  cases runS st s v with
  | none => rfl
  | some p => show runB .nil p.1 p.2 = some p; rw [runB_nil]
theorem RuB_app {names : List Str} : ∀ a b : Blk, RuB names (a.app b) ↔ RuB names a ∧ RuB names b
  | .nil, b => by simp [Blk.app, RuB]
  | .cons s a, b => by
    have := RuB_app (names := names) a b
    show RuB names (.cons s (a.app b)) ↔ _
    simp only [RuB, this, and_assoc]
/-! ### the blocks of loops can be compared -/
mutual
def LpS : Stm → Prop
  | .row _ => True
  | .loop _ b => PlB b ∧ LpB b
  | .alt _ bs => LpLs bs
  | .call _ => True
def LpB : Blk → Prop
  | .nil => True
  | .cons s b => LpS s ∧ LpB b
def LpLs : Bls → Prop
  | .nil => True
  | .cons b bs => LpB b ∧ LpLs bs
end
theorem LpLs_get : ∀ (bs : Bls) (i : Nat) (b : Blk), bs.get i = some b → LpLs bs → LpB b
  | .nil, i, b, h, _ => by cases h
  | .cons c bs, 0, b, h, v => by cases h; simp only [LpLs] at v; exact v.1
  | .cons c bs, i + 1, b, h, v => by simp only [LpLs] at v; exact LpLs_get bs i b h v.2
structure LgE (e : En) : Prop where
  en : EnOk e
  lp : ∀ x d, e.bod x = some d → LpB d
/-- what is written out is right -/
structure LgW (names : List Str) (u : Blk) : Prop where
  sh : ShB u
  ru : RuB names u
  sz : szB u ≤ 100
structure LSt (names : List Str) (out : Nat) (e : En) (s : Sn) (kvs : List (Str × D)) (ks : List D) : Prop where
  r : Res names out s kvs
  k : Kp e ks
  l : ks.length ≤ s.pk.length
theorem LgW.app {names : List Str} {u v : Blk} (h : LgW names (u.app v)) : LgW names u ∧ LgW names v := by
  obtain ⟨h1, h2⟩ := (ShB_app _ _).mp h.sh
  obtain ⟨h3, h4⟩ := (RuB_app _ _).mp h.ru
  have h5 := h.sz
  rw [szB_app] at h5
  exact ⟨⟨h1, h3, by omega⟩, ⟨h2, h4, by omega⟩⟩
theorem LSt.less {names : List Str} {out out' : Nat} {e : En} {s : Sn} {kvs : List (Str × D)} {ks : List D} (h : LSt names out e s kvs ks) (l : out' ≤ out) : LSt names out' e s kvs ks := ⟨h.r.less l, h.k, h.l⟩
theorem LSt.few {names : List Str} {out : Nat} {e : En} {s : Sn} {kvs : List (Str × D)} {ks : List D} (h : LSt names out e s kvs ks) : s.pk.length ≤ 1000100 := by
  have := h.r.bd; have := h.r.n; omega
def isCh : Stm → Prop
  | .loop _ _ => True
  | .alt _ _ => True
  | _ => False
def S_law_full_go (n : Nat) : DSpec := fun ds w P _ => ds.length = 5 ∧ ∃ (b : Blk) (e : En) (a : Ad) (s : Sn) (lg : Bool) (kvs : List (Str × D)) (ks : List D) (vd : D) (i : Int), ds = [.tup (eB b), .dct e.GaGr, .adr a.sp, vd, .int i] ∧ w = lO a s lg kvs ks ∧ dpB e.gaGr b < n ∧
  ((lg = true ∧ P (.int i) (lO a s true kvs ks)) ∨ (lg = false ∧ ∃ (names : List Str) (out : Nat) (pre ws post : Way), vd = eWay (pre ++ ws ++ post) ∧ i = pre.length ∧ LgE e ∧ CaB e.kn b ∧ LpB b ∧ LgW names (woB e.f b) ∧ LSt names (out + szB (woB e.f b)) e s kvs ks ∧ ws ∈ wB (woB e.f b) ∧
    (∀ s' kvs' ks', runB (woB e.f b) s (ws ++ post) = some (s', post) → LSt names out e s' kvs' ks' → P (.int ((pre ++ ws).length : Nat)) (lO a s' false kvs' ks')) ∧
    (runB (woB e.f b) s (ws ++ post) = none → ∀ (j : Int) s' kvs' ks', P (.int j) (lO a s' true kvs' ks'))))
def S_law_full_choose (n : Nat) : DSpec := fun ds w P _ => ds.length = 5 ∧ ∃ (st : Stm) (e : En) (a : Ad) (s : Sn) (kvs : List (Str × D)) (ks : List D) (names : List Str) (out : Nat) (pre ws post : Way), ds = [eS st, .dct e.GaGr, .adr a.sp, eWay (pre ++ ws ++ post), .int pre.length] ∧ w = lO a s false kvs ks ∧ dpS e.gaGr st < n ∧
  isCh st ∧ LgE e ∧ CaS e.kn st ∧ LpS st ∧ LgW names (woS e.f st) ∧ LSt names (out + szB (woS e.f st)) e s kvs ks ∧ ws ∈ wB (woS e.f st) ∧
    (∀ s' kvs' ks', runB (woS e.f st) s (ws ++ post) = some (s', post) → LSt names out e s' kvs' ks' → P (.int ((pre ++ ws).length : Nat)) (lO a s' false kvs' ks')) ∧
    (runB (woS e.f st) s (ws ++ post) = none → ∀ (j : Int) s' kvs' ks', P (.int j) (lO a s' true kvs' ks'))
theorem lO_pick (a : Ad) (s : Sn) (lg : Bool) (kvs : List (Str × D)) (ks : List D) (i : Int) : (lO a s lg kvs ks).set 2 (a.cp, .lst (s.pk.map D.int ++ [.int i])) = lO a (s.pick i) lg kvs ks := by
  show [_, _, (a.cp, D.lst (s.pk.map D.int ++ [.int i])), _] = [_, _, (a.cp, D.lst ((s.pk ++ [i]).map D.int)), _]
  rw [List.map_append]; rfl
section
variable {P : Program} {w : World} {K : PySem.W.Frag} {mg : Str → Option Value} {base : Heap} {T : Addr}
abbrev st_law_full_choose : Stmt := top 91
abbrev N_law_full_choose : List Str := ["_law_statement_here", "_law_bodies", "_law_state_here", "_law_way", "_law_at", "_law_rounds", "_law_inner", "_law_k", "_law_choice", "_law_picked", "_law_each"]
theorem sc_law_full_choose : FnScope N_law_full_choose ["_law_statement_here", "_law_bodies", "_law_state_here", "_law_way", "_law_at"] (defScope st_law_full_choose) := ⟨rfl, rfl, rfl, by decide +kernel, rfl, by decide +kernel, by decide +kernel⟩

theorem ok_law_full_choose {k : Nat} {n : Nat} (bl : Blt mg) (F : DefAt K mg "_law_full_choose" st_law_full_choose ["_law_statement_here", "_law_bodies", "_law_state_here", "_law_way", "_law_at"]) (h__law_ways_kept : Has P w K mg base CX0 "_law_ways_kept" ["_law_block_here", "_law_bodies", "_law_state_here"] k (spOf K T (S_law_ways_kept n))) (h__law_step : Has P w K mg base CX0 "_law_step" ["_law_state_here"] k (spOf K T S_law_step)) (h__law_full_go : Has P w K mg base CX0 "_law_full_go" ["_law_block_here", "_law_bodies", "_law_state_here", "_law_way", "_law_at"] k (spOf K T (S_law_full_go n))) (h__law_orders : Has P w K mg base CX0 "_law_orders" ["_law_many"] k (spOf K T S_law_orders)) : Has P w K mg base CX0 "_law_full_choose" ["_law_statement_here", "_law_bodies", "_law_state_here", "_law_way", "_law_at"] (k + 1) (spOf K T (S_law_full_choose (n + 1))) := by
  refine defD F sc_law_full_choose (fun _ _ _ _ h => h.1) fun f cdv A outer s H E hr => ?_
  have hu := hu_of hr
  have hu64 := hr.units
  have nd := sc_law_full_choose.nd
  refine ⟨_, (pss_cons (ps_if (pt_cmpR (k_eq (K := K) rfl hu64) (pe_ix (k_ix (K := K) rfl hu) (pv 0) pe_int (fun _ _ => rfl)) pe_str (nomark _))
        (pss_cons (ps_set (i := 5) nd rfl (Or.inl rfl) (pe_ix (k_ix (K := K) rfl hu) (pe_ix (k_ix (K := K) rfl hu) (pv 2) pe_str (fun _ _ => rfl)) (pe_ix (k_ix (K := K) rfl hu) (pv 0) pe_int (fun _ _ => rfl)) (fun _ _ => rfl)))
        (pss_cons (ps_expr (pe_bm PySem.F.plainAttrs_list PySem.F.slot_list_append PySem.F.type_list_append mt_append (pe_ix (k_ix (K := K) rfl hu) (pv 2) pe_str (fun _ _ => rfl)) (pa_cons (pv 5) pa_nil)))
        (pss_cons (ps_set (i := 6) nd rfl (Or.inl rfl) (pe_callH h__law_ways_kept hr rfl pass0 (pa_cons (pe_ix (k_ix (K := K) rfl hu) (pv 0) pe_int (fun _ _ => rfl)) (pa_cons (pv 1) (pa_cons (pv 2) pa_nil)))))
        (pss_cons (ps_for PassesOwn.never rfl (pi_range1 rfl bl.range (pa_cons (pe_callB (call_min2 rfl) rfl bl.min bt_min (pa_cons (pv 5) (pa_cons pe_int pa_nil))) pa_nil)) (pg_name (i := 7) nd rfl (Or.inl rfl))
          (pss_cons (ps_if (pt_not (pt_val (pe_callH h__law_step hr rfl pass0 (pa_cons (pv 2) pa_nil))))
            (pss_one (ps_ret (pv 4)))
            pss_nil)
          (pss_cons (ps_expr (pe_callH h__law_full_go hr rfl pass0 (pa_cons (pe_ix (k_ix (K := K) rfl hu) (pv 0) pe_int (fun _ _ => rfl)) (pa_cons (pv 1) (pa_cons (pv 2) (pa_cons (pe_ix (k_ix (K := K) rfl hu) (pv 6) (pe_op op_mod (pe_callTy call_int1 rfl bl.int bt_int (pa_cons (pv 7) pa_nil)) (pe_callB (k_len (K := K) rfl) rfl bl.len bt_len (pa_cons (pv 6) pa_nil))) (fun _ _ => rfl)) (pa_cons pe_int pa_nil)))))))
          (pss_one (ps_if (pt_val (pe_ix (k_ix (K := K) rfl hu) (pv 2) pe_str (fun _ _ => rfl)))
            (pss_one (ps_ret (pv 4)))
            pss_nil)))))
        (pss_one (ps_ret (pv 4)))))))
        pss_nil)
      (pss_cons (ps_set (i := 8) nd rfl (Or.inl rfl) (pe_ix (k_ix (K := K) rfl hu) (pv 3) (pv 4) (fun _ _ => rfl)))
      (pss_cons (ps_expr (pe_bm PySem.F.plainAttrs_list PySem.F.slot_list_append PySem.F.type_list_append mt_append (pe_ix (k_ix (K := K) rfl hu) (pv 2) pe_str (fun _ _ => rfl)) (pa_cons (pv 8) pa_nil)))
      (pss_cons (ps_set (i := 4) nd rfl (Or.inl rfl) (pe_op (k_plus (K := K) rfl) (pv 4) pe_int))
      (pss_cons (ps_set (i := 9) nd rfl (Or.inl rfl) (pe_lst (pa_cons (pv 8) pa_nil)))
      (pss_cons (ps_if (pt_cmpR (k_eq (K := K) rfl hu64) (pe_ix (k_ix (K := K) rfl hu) (pv 0) pe_int (fun _ _ => rfl)) pe_str (nomark _))
        (pss_one (ps_set (i := 9) nd rfl (Or.inl rfl) (pe_ix (k_ix (K := K) rfl hu) (pe_callH h__law_orders hr rfl pass0 (pa_cons (pe_callB (k_len (K := K) rfl) rfl bl.len bt_len (pa_cons (pe_ix (k_ix (K := K) rfl hu) (pv 0) pe_int (fun _ _ => rfl)) pa_nil)) pa_nil)) (pv 8) (fun _ _ => rfl))))
        pss_nil)
      (pss_cons (ps_for PassesOwn.never rfl (k_walk (K := K) rfl (pv 9)) (pg_name (i := 10) nd rfl (Or.inl rfl))
        (pss_one (ps_set (i := 4) nd rfl (Or.inl rfl) (pe_callH h__law_full_go hr rfl pass0 (pa_cons (pe_ix (k_ix (K := K) rfl hu) (pe_ix (k_ix (K := K) rfl hu) (pv 0) pe_int (fun _ _ => rfl)) (pv 10) (fun _ _ => rfl)) (pa_cons (pv 1) (pa_cons (pv 2) (pa_cons (pv 3) (pa_cons (pv 4) pa_nil)))))))))
      (pss_one (ps_ret (pv 4)))))))))), ?_⟩
  rintro ds w P X ⟨-, st, e, a, s, kvs, ks, names, out, pre, ws, post, rfl, rfl, hd, hch, hE, hC, hp, hW, hL, hws, hP, hX⟩
  cases st with
  | row r => exact hch.elim
  | call x => exact hch.elim
  | loop x c =>
    have ew : woS e.f (.loop x c) = .cons (.loop x (woB e.f c)) .nil := by simp [woS]
    rw [ew] at hW hL hws hP hX
    rw [runB_one, runS_loop] at hP hX
    have ex : ws = [] := by simpa [wB_one, wS] using hws
    subst ex
    obtain ⟨w1, w2, w3⟩ := hW
    obtain ⟨k1, k2, k3⟩ : (woB e.f c).len ≤ 40 ∧ Gd (wB (woB e.f c)) ∧ ShB (woB e.f c) := by simpa [ShB, ShS] using w1
    obtain ⟨q1, q2⟩ : x ∈ names ∧ RuB names (woB e.f c) := by simpa [RuB, RuS] using w2
    have zx : szB (woB e.f c) + 1 ≤ 100 := by simpa [szB, szS] using w3
    have hd' : dpB e.gaGr c < n := by
      have : dpB e.gaGr c + 1 < n + 1 := by simpa [dpS] using hd
      omega
    have hC' : CaB e.kn c := by simpa [CaS] using hC
    obtain ⟨p1, p2⟩ : PlB c ∧ LpB c := by simpa [LpS] using hp
    have hL0 : LSt names (out + 1) e s kvs ks := hL.less (by simp only [szB, szS]; omega)
    have hR := hL0.r
    have hne := wB_ne _ k3
    have hwl : 0 < (wB (woB e.f c)).length := List.length_pos_iff.mpr hne
    have hnx := (hR.nb x q1).1
    have hfew := hL.few
    walk_at "w"
    refine rd_ix_dctO (d := .adr a.np) 1 rfl rfl ?_
    walk_at "w"
    refine rd_ix_dctO 0 rfl (hR.nu.at_ x q1) ?_
    walk_at "w"
    refine we_append ?_
    walk_at "w"
    refine rd_ix_dctO (d := .adr a.cp) 1 rfl rfl ?_
    refine ⟨a.cp, rfl, ⟨2, _, rfl⟩, ?_⟩
    walk_at "w"
    refine ⟨2, _, rfl, by rw [List.length_map]; omega, ?_⟩
    refine WS.own (lO_pick a s false kvs ks (s.nuGr x)) ?_
    have hR1 := hR.pick (s.nuGr x)
    have hpl : (s.pick (s.nuGr x)).pk.length = s.pk.length + 1 := by show (s.pk ++ [_]).length = _; rw [List.length_append]; rfl
    walk_at "w"
    refine csW ⟨rfl, c, e, a, s.pick (s.nuGr x), false, kvs, ks, rfl, rfl, hE.en, hC', hd', k3, k2, p1, hL.k, by have := hL.l; omega, fun ks1 hk1 hl1 => ?_⟩
    walk_at "w"
    refine wi_rng1 ?_
    walk_at "w"
    refine ⟨_, rfl, by split <;> omega, by split <;> omega, fun _ => trivial, ?_⟩
    have el : runL x (woB e.f c) s = iterO (fun i s => s.step.bind fun s => (runB (woB e.f c) s (wayAt (wB (woB e.f c)) i)).map fun p => p.1) (s.nuGr x).toNat 0 (s.pick (s.nuGr x)) := rfl
    generalize hF : (fun (i : Nat) (s : Sn) => s.step.bind fun s => (runB (woB e.f c) s (wayAt (wB (woB e.f c)) i)).map fun p => p.1) = Ff at el
    generalize hN : (if (10001 : Int) < s.nuGr x then (10001 : Int) else s.nuGr x).toNat = N
    have hNe : (N = (s.nuGr x).toNat ∧ N ≤ 10001) ∨ (N = 10001 ∧ 10001 < (s.nuGr x).toNat) := by
      rw [← hN]
      split <;> omega
    rw [iterN_eq]
    refine turns_ind (A := Nat × Nat × Sn × List (Str × D) × List D) (fun z ds rhGr w' => ds = natsF z.1 z.2.1 ∧ z.1 + z.2.1 = N ∧ LSt names out e z.2.2.1 z.2.2.2.1 z.2.2.2.2 ∧ z.1 ≤ z.2.2.1.n ∧ iterO Ff ((s.nuGr x).toNat - z.1) z.1 z.2.2.1 = runL x (woB e.f c) s ∧
      (∃ v7, rhGr = [some (eS (.loop x c)), some (.dct e.GaGr), some (.adr a.sp), some (eWay (pre ++ [] ++ post)), some (.int pre.length), some (.int (s.nuGr x)), some (eWays (wB (woB e.f c))), v7, none, none, none]) ∧ w' = lO a z.2.2.1 false z.2.2.2.1 z.2.2.2.2) ?_ ?_ (0, N, s.pick (s.nuGr x), kvs, ks1) ⟨rfl, Nat.zero_add _, ⟨hR1, hk1, by show ks1.length ≤ (s.pick (s.nuGr x)).pk.length; rw [hpl]; have := hL.l; omega⟩, Nat.zero_le _, el.symm, ⟨none, rfl⟩, rfl⟩
    · rintro ⟨i, m, s1, kvs1, ks2⟩ rhGr w' ⟨f1, f2, f3, f4, f5, ⟨v7, rfl⟩, rfl⟩
      cases m with
      | succ m => cases f1
      | zero =>
        have f2' : i = N := f2
        have f4' : i ≤ s1.n := f4
        have hn := f3.r.n
        have hle : s1.n ≤ 10000 := hn
        have e0 : (s.nuGr x).toNat - i = 0 := by omega
        have f5' : iterO Ff ((s.nuGr x).toNat - i) i s1 = runL x (woB e.f c) s := f5
        rw [e0] at f5'
        have f6 : some s1 = runL x (woB e.f c) s := f5'
        walk_at "w"
        rw [← f6] at hP
        have := hP s1 kvs1 ks2 rfl f3
        rw [List.append_nil] at this
        exact this
    · rintro ⟨i, m, s1, kvs1, ks2⟩ y ys rhGr w' ⟨f1, f2, f3, f4, f5, ⟨v7, rfl⟩, rfl⟩
      cases m with
      | zero => cases f1
      | succ m =>
        obtain ⟨rfl, rfl⟩ := List.cons.inj f1
        have f2' : i + (m + 1) = N := f2
        have f4' : i ≤ s1.n := f4
        obtain ⟨r, hr⟩ : ∃ r, (s.nuGr x).toNat - i = r + 1 := ⟨(s.nuGr x).toNat - i - 1, by omega⟩
        have f5' : iterO Ff ((s.nuGr x).toNat - i) i s1 = runL x (woB e.f c) s := f5
        rw [hr] at f5'
        have e2 : (Ff i s1).bind (fun s => iterO Ff r (i + 1) s) = runL x (woB e.f c) s := f5'
        walk_at "w"
        refine csW ⟨rfl, a, s1, kvs1, ks2, rfl, rfl, fun s2 h2 => ?_, fun h2 => ?_⟩
        rotate_left
        · walk_at "w"
          exact hX (by rw [← e2, ← hF]; simp [h2]) _ _ _ _
        have hR3 := step_res f3.r h2
        have e3 : Ff i s1 = (runB (woB e.f c) s2 (wayAt (wB (woB e.f c)) i)).map fun p => p.1 := by rw [← hF]; simp [h2]
        rw [e3] at e2
        obtain ⟨wm, wa⟩ := wayAt_mem hne i
        walk_at "w"
        refine rd_mod (by rw [List.length_map]; omega) ?_
        rw [List.length_map, show ((i : Int) % ((wB (woB e.f c)).length : Nat)) = ((i % (wB (woB e.f c)).length : Nat) : Int) from (Int.natCast_emod ..).symm]
        refine rd_ix_lst (d := eWay (wayAt (wB (woB e.f c)) i)) (by omega) (by rw [Int.toNat_natCast]; exact wa) ?_
        walk_at "w"
        have hs2 := step_n h2
        refine csW ⟨rfl, c, e, a, s2, false, kvs1, ks2, eWay (wayAt (wB (woB e.f c)) i), 0, rfl, rfl, hd', .inr ⟨rfl, names, out, [], wayAt (wB (woB e.f c)) i, [], by rw [List.nil_append, List.append_nil], rfl, hE, hC', p2, ⟨k3, q2, by omega⟩, ⟨hR3.less (by omega), f3.k, by rw [hs2.2]; exact f3.l⟩, wm, fun s3 kvs3 ks3 h3 hL3 => ?_, fun h3 j s3 kvs3 ks3 => ?_⟩⟩
        · rw [List.append_nil] at h3
          rw [h3] at e2
          have e4 : iterO Ff r (i + 1) s3 = runL x (woB e.f c) s := e2
          walk_at "w"
          refine rd_ix_dctO (d := .bl false) 1 rfl rfl ?_
          walk_at "w"
          have hmono := runB_n _ _ _ _ h3
          have hmono' : s2.n ≤ s3.n := hmono
          refine ⟨(i + 1, m, s3, kvs3, ks3), rfl, by show i + 1 + m = N; omega, hL3, by show i + 1 ≤ s3.n; omega, ?_, ⟨_, rfl⟩, rfl⟩
          show iterO Ff ((s.nuGr x).toNat - (i + 1)) (i + 1) s3 = _
          rw [show (s.nuGr x).toNat - (i + 1) = r by omega]
          exact e4
        · rw [List.append_nil] at h3
          walk_at "w"
          refine rd_ix_dctO (d := .bl true) 1 rfl rfl ?_
          walk_at "w"
          exact hX (by rw [← e2, h3]; rfl) _ _ _ _
  | alt o bs =>
    have ew : woS e.f (.alt o bs) = .cons (.alt o (woLs e.f bs)) .nil := by simp [woS]
    rw [ew] at hW hL hws hP hX
    rw [wB_one] at hws
    rw [runB_one] at hP hX
    obtain ⟨w1, w2, w3⟩ := hW
    have hbl := woLs_len e.f bs
    obtain ⟨k1, k2, k3⟩ : (woLs e.f bs).len ≥ 2 ∧ (woLs e.f bs).len ≤ 3 ∧ ShBs (woLs e.f bs) := by simpa [ShB, ShS] using w1
    have ru : RuLs names (woLs e.f bs) := by simpa [RuB, RuS] using w2
    have zx : szLs (woLs e.f bs) + 1 ≤ 100 := by simpa [szB, szS] using w3
    have hn : (woLs e.f bs).len = 2 ∨ (woLs e.f bs).len = 3 := by omega
    obtain ⟨kk, v, os, rfl, eos, hlt, hsq, hsum, hord⟩ := alt_split hn hws
    rw [List.cons_append, runS_alt, ← eos] at hP hX
    have hd' : dpLs e.gaGr bs < n := by
      have : dpLs e.gaGr bs + 1 < n + 1 := by simpa [dpS] using hd
      omega
    have hC' : CaLs e.kn bs := by simpa [CaS] using hC
    have hp' : LpLs bs := by simpa [LpS] using hp
    have hfew := hL.few
    have hL0 : LSt names (out + sumO (woLs e.f bs) os + 1) e s kvs ks := hL.less (by simp only [szB, szS]; omega)
    have hL1 : LSt names (out + sumO (woLs e.f bs) os) e (s.pick (kk : Nat)) kvs ks := ⟨hL0.r.pick _, hL0.k, by have := hL0.l; show _ ≤ (s.pk ++ [_]).length; rw [List.length_append]; omega⟩
    have hat : ((pre ++ kk :: v ++ post).map fun (k : Nat) => D.int (k : Int))[((pre.length : Nat) : Int).toNat]? = some (.int (kk : Nat)) := by
      rw [Int.toNat_natCast, List.getElem?_map, List.append_assoc, List.getElem?_append_right (Nat.le_refl _), Nat.sub_self]; rfl
    have inner : ∀ (v5 v6 v7 v10 : Option D), WS ⟨K, E, T, X⟩ (tFor (iAny K (tVar 9)) (gName 10) (tAsg (tCall (spOf K T (S_law_full_go n)) [] E0 (tCons (tOp (rIxX K) (tOp (rIxX K) (tVar 0) (tC (.int 1))) (tVar 10)) (tCons (tVar 1) (tCons (tVar 2) (tCons (tVar 3) (tCons (tVar 4) tNil)))))) (gName 4)))
        [some (eS (.alt o bs)), some (.dct e.GaGr), some (.adr a.sp), some (eWay (pre ++ kk :: v ++ post)), some (.int ((pre.length : Int) + 1)), v5, v6, v7, some (.int (kk : Nat)), some (.lst (os.map fun k : Nat => D.int (k : Int))), v10] (lO a (s.pick (kk : Nat)) false kvs ks)
        (fun oo => ∃ (s2 : Sn) (kvs2 : List (Str × D)) (ks2 : List D) (lg : Bool) (j : Int) (v5 v6 v7 v10 : Option D), oo = .nx [some (eS (.alt o bs)), some (.dct e.GaGr), some (.adr a.sp), some (eWay (pre ++ kk :: v ++ post)), some (.int j), v5, v6, v7, some (.int (kk : Nat)), some (.lst (os.map fun k : Nat => D.int (k : Int))), v10] (lO a s2 lg kvs2 ks2) ∧
          ((lg = true ∧ seqO (runLs (woLs e.f bs)) os (s.pick (kk : Nat)) (v ++ post) = none) ∨ (lg = false ∧ j = ((pre ++ kk :: v).length : Nat) ∧ seqO (runLs (woLs e.f bs)) os (s.pick (kk : Nat)) (v ++ post) = some (s2, post) ∧ LSt names out e s2 kvs2 ks2))) := by
      intro v5 v6 v7 v10
      walk_at "w"
      refine wi_anyL ?_
      walk_at "w"
      refine ⟨_, .inl rfl, fun _ => trivial, ?_⟩
      refine turns_ind (A := Sn × List (Str × D) × List D × Way × Way × List Nat × Bool × Int) (fun z ds rhGr w' => ds = z.2.2.2.2.2.1.map (fun k : Nat => D.int (k : Int)) ∧ (∀ i ∈ z.2.2.2.2.2.1, i < bs.len) ∧
        (∃ v10, rhGr = [some (eS (.alt o bs)), some (.dct e.GaGr), some (.adr a.sp), some (eWay (pre ++ kk :: v ++ post)), some (.int z.2.2.2.2.2.2.2), v5, v6, v7, some (.int (kk : Nat)), some (.lst (os.map fun k : Nat => D.int (k : Int))), v10]) ∧ w' = lO a z.1 z.2.2.2.2.2.2.1 z.2.1 z.2.2.1 ∧
        ((z.2.2.2.2.2.2.1 = true ∧ seqO (runLs (woLs e.f bs)) os (s.pick (kk : Nat)) (v ++ post) = none) ∨ (z.2.2.2.2.2.2.1 = false ∧ z.2.2.2.2.2.2.2 = z.2.2.2.1.length ∧ Seqs (wLs (woLs e.f bs)) z.2.2.2.2.2.1 z.2.2.2.2.1 ∧ z.2.2.2.1 ++ z.2.2.2.2.1 = pre ++ kk :: v ∧ seqO (runLs (woLs e.f bs)) z.2.2.2.2.2.1 z.1 (z.2.2.2.2.1 ++ post) = seqO (runLs (woLs e.f bs)) os (s.pick (kk : Nat)) (v ++ post) ∧
          LSt names (out + sumO (woLs e.f bs) z.2.2.2.2.2.1) e z.1 z.2.1 z.2.2.1))) ?_ ?_ (s.pick (kk : Nat), kvs, ks, pre ++ [kk], v, os, false, (pre.length : Int) + 1) ⟨rfl, fun i hi => by have := hlt i hi; omega, ⟨_, rfl⟩, rfl, .inr ⟨rfl, by simp, hsq, by simp, rfl, hL1⟩⟩
      · rintro ⟨s3, kvs3, ks3, p3, v3, o3, lg, j⟩ rhGr w' ⟨g1, g2, ⟨v10', rfl⟩, rfl, g3⟩
        cases o3 with
        | cons i o3 => cases g1
        | nil =>
          refine ⟨s3, kvs3, ks3, lg, j, _, _, _, _, rfl, ?_⟩
          rcases g3 with g3 | ⟨t1, t2, t3, t4, t5, t6⟩
          · exact .inl g3
          · have e1 : v3 = [] := t3
            subst e1
            have e2 : p3 = pre ++ kk :: v := by rw [← t4]; simp
            subst e2
            exact .inr ⟨t1, t2, t5.symm, t6.less (by omega)⟩
      · rintro ⟨s3, kvs3, ks3, p3, v3, o3, lg, j⟩ x xs rhGr w' ⟨g1, g2, ⟨v10', rfl⟩, rfl, g3⟩
        cases o3 with
        | nil => cases g1
        | cons i o3 =>
          obtain ⟨rfl, rfl⟩ := List.cons.inj g1
          have hi := g2 i (by simp)
          have g2' : ∀ z ∈ o3, z < bs.len := fun z hz => g2 z (List.mem_cons_of_mem _ hz)
          obtain ⟨c, hc⟩ := get_lt bs i hi
          have a1 := woLs_at e.f bs i c hc
          have hdc := dpLs_get (gaGr := e.gaGr) bs i c hc
          have hzc := szLs_get _ i _ a1
          refine wg_name (ws_asg (we_call0 ?_))
          cases o with
          | true =>
            walk_at "w"
            refine rd_ix_tup (d := .tup (eB c)) (by omega) (by rw [Int.toNat_natCast, eBs_get, hc]; rfl) ?_
            walk_at "w"
            refine csW ⟨rfl, c, e, a, s3, lg, kvs3, ks3, eWay (pre ++ kk :: v ++ post), j, rfl, rfl, by omega, ?_⟩
            rcases g3 with ⟨t1, t2⟩ | ⟨t1, t2, t3, t4, t5, t6⟩
            · have t1' : lg = true := t1
              subst t1'
              exact .inl ⟨rfl, (s3, kvs3, ks3, p3, v3, o3, true, j), rfl, g2', ⟨_, rfl⟩, rfl, .inl ⟨rfl, t2⟩⟩
            · have t1' : lg = false := t1
              subst t1'
              obtain ⟨x, hx, y3, hy3, rfl⟩ := t3
              have hx2 : x ∈ wB (woB e.f c) := by
                rw [List.getD_eq_getElem?_getD, wLs_get, a1] at hx
                exact hx
              have hso : sumO (woLs e.f bs) (i :: o3) = szB (woB e.f c) + sumO (woLs e.f bs) o3 := by simp [sumO, a1]
              have g4' : (p3 ++ x) ++ y3 = pre ++ kk :: v := by rw [List.append_assoc]; exact t4
              have hw2 : pre ++ kk :: v ++ post = p3 ++ x ++ (y3 ++ post) := by rw [← g4']; simp
              have g5' : (runB (woB e.f c) s3 (x ++ (y3 ++ post))).bind (fun p => seqO (runLs (woLs e.f bs)) o3 p.1 p.2) = seqO (runLs (woLs e.f bs)) os (s.pick (kk : Nat)) (v ++ post) := by
                rw [← t5]
                show _ = (((runLs (woLs e.f bs)).getD i fun _ _ => none) s3 (x ++ y3 ++ post)).bind _
                rw [runLs_get, a1, List.append_assoc]
              refine .inr ⟨rfl, names, out + sumO (woLs e.f bs) o3, p3, x, y3 ++ post, by rw [hw2], t2, hE, CaLs_get bs i c hc hC', LpLs_get bs i c hc hp', ⟨(ShBs_at _ i _ a1 k3).2, RuLs_get _ i _ a1 ru, by omega⟩, t6.less (by rw [hso]; omega), hx2, fun s4 kvs4 ks4 q1 q2 => ?_, fun q1 j' s4 kvs4 ks4 => ?_⟩
              · exact ⟨(s4, kvs4, ks4, p3 ++ x, y3, o3, false, ((p3 ++ x).length : Nat)), rfl, g2', ⟨_, rfl⟩, rfl, .inr ⟨rfl, rfl, hy3, g4', by rw [← g5', q1]; rfl, q2⟩⟩
              · exact ⟨(s4, kvs4, ks4, p3, y3, o3, true, j'), rfl, g2', ⟨_, rfl⟩, rfl, .inl ⟨rfl, by rw [← g5', q1]; rfl⟩⟩
          | false =>
            walk_at "w"
            refine rd_ix_tup (d := .tup (eB c)) (by omega) (by rw [Int.toNat_natCast, eBs_get, hc]; rfl) ?_
            walk_at "w"
            refine csW ⟨rfl, c, e, a, s3, lg, kvs3, ks3, eWay (pre ++ kk :: v ++ post), j, rfl, rfl, by omega, ?_⟩
            rcases g3 with ⟨t1, t2⟩ | ⟨t1, t2, t3, t4, t5, t6⟩
            · have t1' : lg = true := t1
              subst t1'
              exact .inl ⟨rfl, (s3, kvs3, ks3, p3, v3, o3, true, j), rfl, g2', ⟨_, rfl⟩, rfl, .inl ⟨rfl, t2⟩⟩
            · have t1' : lg = false := t1
              subst t1'
              obtain ⟨x, hx, y3, hy3, rfl⟩ := t3
              have hx2 : x ∈ wB (woB e.f c) := by
                rw [List.getD_eq_getElem?_getD, wLs_get, a1] at hx
                exact hx
              have hso : sumO (woLs e.f bs) (i :: o3) = szB (woB e.f c) + sumO (woLs e.f bs) o3 := by simp [sumO, a1]
              have g4' : (p3 ++ x) ++ y3 = pre ++ kk :: v := by rw [List.append_assoc]; exact t4
              have hw2 : pre ++ kk :: v ++ post = p3 ++ x ++ (y3 ++ post) := by rw [← g4']; simp
              have g5' : (runB (woB e.f c) s3 (x ++ (y3 ++ post))).bind (fun p => seqO (runLs (woLs e.f bs)) o3 p.1 p.2) = seqO (runLs (woLs e.f bs)) os (s.pick (kk : Nat)) (v ++ post) := by
                rw [← t5]
                show _ = (((runLs (woLs e.f bs)).getD i fun _ _ => none) s3 (x ++ y3 ++ post)).bind _
                rw [runLs_get, a1, List.append_assoc]
              refine .inr ⟨rfl, names, out + sumO (woLs e.f bs) o3, p3, x, y3 ++ post, by rw [hw2], t2, hE, CaLs_get bs i c hc hC', LpLs_get bs i c hc hp', ⟨(ShBs_at _ i _ a1 k3).2, RuLs_get _ i _ a1 ru, by omega⟩, t6.less (by rw [hso]; omega), hx2, fun s4 kvs4 ks4 q1 q2 => ?_, fun q1 j' s4 kvs4 ks4 => ?_⟩
              · exact ⟨(s4, kvs4, ks4, p3 ++ x, y3, o3, false, ((p3 ++ x).length : Nat)), rfl, g2', ⟨_, rfl⟩, rfl, .inr ⟨rfl, rfl, hy3, g4', by rw [← g5', q1]; rfl, q2⟩⟩
              · exact ⟨(s4, kvs4, ks4, p3, y3, o3, true, j'), rfl, g2', ⟨_, rfl⟩, rfl, .inl ⟨rfl, by rw [← g5', q1]; rfl⟩⟩
    have fin : ∀ (oo : Out), (∃ (s2 : Sn) (kvs2 : List (Str × D)) (ks2 : List D) (lg : Bool) (j : Int) (v5 v6 v7 v10 : Option D), oo = .nx [some (eS (.alt o bs)), some (.dct e.GaGr), some (.adr a.sp), some (eWay (pre ++ kk :: v ++ post)), some (.int j), v5, v6, v7, some (.int (kk : Nat)), some (.lst (os.map fun k : Nat => D.int (k : Int))), v10] (lO a s2 lg kvs2 ks2) ∧
          ((lg = true ∧ seqO (runLs (woLs e.f bs)) os (s.pick (kk : Nat)) (v ++ post) = none) ∨ (lg = false ∧ j = ((pre ++ kk :: v).length : Nat) ∧ seqO (runLs (woLs e.f bs)) os (s.pick (kk : Nat)) (v ++ post) = some (s2, post) ∧ LSt names out e s2 kvs2 ks2))) →
        Out.thn (fun rhGr1 w1 => WS ⟨K, E, T, X⟩ (tRet (tVar 4)) rhGr1 w1 (Post P)) (Post P) oo := by
      rintro oo ⟨s2, kvs2, ks2, lg, j, v5, v6, v7, v10, rfl, h⟩
      walk_at "w"
      rcases h with ⟨t1, t2⟩ | ⟨t1, t2, t3, t4⟩
      · subst t1
        exact hX t2 _ _ _ _
      · subst t1 t2
        exact hP _ _ _ t3 t4
    have hord' := fun z => hord z
    cases o with
    | true =>
      walk_at "w"
      refine rd_ix_tup (by omega) hat ?_
      walk_at "w"
      refine we_append ?_
      walk_at "w"
      refine rd_ix_dctO (d := .adr a.cp) 1 rfl rfl ?_
      refine ⟨a.cp, rfl, ⟨2, _, rfl⟩, ?_⟩
      walk_at "w"
      refine ⟨2, _, rfl, by rw [List.length_map]; omega, ?_⟩
      refine WS.own (lO_pick a s false kvs ks (kk : Nat)) ?_
      walk_at "w"
      refine we_lst ?_
      walk_at "w"
      rw [eBs_len]
      refine cs0 ⟨rfl, bs.len, rfl, by omega, ?_⟩
      walk_at "w"
      refine rd_ix_lst (d := .lst (os.map fun k : Nat => .int (k : Int))) (by omega) (by rw [Int.toNat_natCast, List.getElem?_map, ← hbl, hord rfl]; rfl) ?_
      refine ws_seq ((inner _ _ _ _).imp ?_)
      exact fin
    | false =>
      have eos' : os = [kk] := eos
      subst eos'
      walk_at "w"
      refine rd_ix_tup (by omega) hat ?_
      walk_at "w"
      refine we_append ?_
      walk_at "w"
      refine rd_ix_dctO (d := .adr a.cp) 1 rfl rfl ?_
      refine ⟨a.cp, rfl, ⟨2, _, rfl⟩, ?_⟩
      walk_at "w"
      refine ⟨2, _, rfl, by rw [List.length_map]; omega, ?_⟩
      refine WS.own (lO_pick a s false kvs ks (kk : Nat)) ?_
      refine ws_seq (ws_asg (we_op (we_var rfl (we_int (rd_plus_int ?_)))))
      refine ws_seq (ws_asg (we_lst (wa_cons (we_var rfl (wa_nil ⟨Nat.le_of_ble_eq_true rfl, ?_⟩)))))
      refine ws_seq (WS.imp (PO := fun o => o = .nx [some (eS (.alt false bs)), some (.dct e.GaGr), some (.adr a.sp), some (eWay (pre ++ kk :: v ++ post)), some (.int ((pre.length : Int) + 1)), none, none, none, some (.int (kk : Nat)), some (.lst (([kk] : List Nat).map fun k : Nat => D.int (k : Int))), none] (lO a (s.pick (kk : Nat)) false kvs ks)) ?_ ?_)
      · walk_at "w"
        rfl
      · rintro o rfl
        refine ws_seq ((inner _ _ _ _).imp ?_)
        exact fin
end
end Hw
/-! HwAI -/
namespace Hw
section
variable {P : Program} {w : World} {K : PySem.W.Frag} {mg : Str → Option Value} {base : Heap} {T : Addr}
abbrev st_law_full_go : Stmt := top 92
abbrev N_law_full_go : List Str := ["_law_block_here", "_law_bodies", "_law_state_here", "_law_way", "_law_at", "_law_statement_here"]
theorem sc_law_full_go : FnScope N_law_full_go ["_law_block_here", "_law_bodies", "_law_state_here", "_law_way", "_law_at"] (defScope st_law_full_go) := ⟨rfl, rfl, rfl, by decide +kernel, rfl, by decide +kernel, by decide +kernel⟩

theorem ok_law_full_go {k : Nat} {n : Nat} (bl : Blt mg) (F : DefAt K mg "_law_full_go" st_law_full_go ["_law_block_here", "_law_bodies", "_law_state_here", "_law_way", "_law_at"]) (h__law_full_go : Has P w K mg base CX0 "_law_full_go" ["_law_block_here", "_law_bodies", "_law_state_here", "_law_way", "_law_at"] k (spOf K T (S_law_full_go n))) (h__law_full_choose : Has P w K mg base CX0 "_law_full_choose" ["_law_statement_here", "_law_bodies", "_law_state_here", "_law_way", "_law_at"] k (spOf K T (S_law_full_choose (n + 1)))) (h__law_row_done : Has P w K mg base CX0 "_law_row_done" ["_law_row_here", "_law_state_here"] k (spOf K T S_law_row_done)) : Has P w K mg base CX0 "_law_full_go" ["_law_block_here", "_law_bodies", "_law_state_here", "_law_way", "_law_at"] (k + 1) (spOf K T (S_law_full_go (n + 1))) := by
  refine defD F sc_law_full_go (fun _ _ _ _ h => h.1) fun f cdv A outer s H E hr => ?_
  have hu := hu_of hr
  have hu64 := hr.units
  have nd := sc_law_full_go.nd
  refine ⟨_, (pss_cons (ps_for PassesOwn.never rfl (k_walk (K := K) rfl (pv 0)) (pg_name (i := 5) nd rfl (Or.inl rfl))
        (pss_one (ps_if (pt_not (pt_val (pe_ix (k_ix (K := K) rfl hu) (pv 2) pe_str (fun _ _ => rfl))))
          (pss_one (ps_if (pt_cmpR (k_eq (K := K) rfl hu64) (pe_ix (k_ix (K := K) rfl hu) (pv 5) pe_int (fun _ _ => rfl)) pe_str (nomark _))
            (pss_one (ps_set (i := 4) nd rfl (Or.inl rfl) (pe_callH h__law_full_go hr rfl pass0 (pa_cons (pe_ix (k_ix (K := K) rfl hu) (pv 1) (pe_ix (k_ix (K := K) rfl hu) (pv 5) pe_int (fun _ _ => rfl)) (fun _ _ => rfl)) (pa_cons (pv 1) (pa_cons (pv 2) (pa_cons (pv 3) (pa_cons (pv 4) pa_nil))))))))
            (pss_one (ps_if (PW.pt (pw_or (pt_cmpR (k_eq (K := K) rfl hu64) (pe_ix (k_ix (K := K) rfl hu) (pv 5) pe_int (fun _ _ => rfl)) pe_str (nomark _)) (pw_or (pt_cmpR (k_eq (K := K) rfl hu64) (pe_ix (k_ix (K := K) rfl hu) (pv 5) pe_int (fun _ _ => rfl)) pe_str (nomark _)) (pw_or1 (pt_cmpR (k_eq (K := K) rfl hu64) (pe_ix (k_ix (K := K) rfl hu) (pv 5) pe_int (fun _ _ => rfl)) pe_str (nomark _))))))
              (pss_one (ps_set (i := 4) nd rfl (Or.inl rfl) (pe_callH h__law_full_choose hr rfl pass0 (pa_cons (pv 5) (pa_cons (pv 1) (pa_cons (pv 2) (pa_cons (pv 3) (pa_cons (pv 4) pa_nil))))))))
              (pss_one (ps_expr (pe_callH h__law_row_done hr rfl pass0 (pa_cons (pv 5) (pa_cons (pv 2) pa_nil)))))))))
          pss_nil)))
      (pss_one (ps_ret (pv 4)))), ?_⟩
  rintro ds w P X ⟨-, b, e, a, s, lg, kvs, ks, vd, i, rfl, rfl, hd, hor⟩
  have long : ∀ (b : Blk) (s : Sn) (kvs : List (Str × D)) (ks : List D) (v5 : Option D) (i : Int) (b0 : Blk), P (.int i) (lO a s true kvs ks) → Turns ⟨K, E, T, X⟩ (gName 5) (tIfS (tNot (tTest (tOp (rIxX K) (tVar 2) (tC (.str "long"))))) (tIfS (tTest (tOp (rEqX K) (tOp (rIxX K) (tVar 5) (tC (.int 0))) (tC (.str "call"))))
      (tAsg (tCall (spOf K T (S_law_full_go n)) [] E0 (tCons (tOp (rIxX K) (tVar 1) (tOp (rIxX K) (tVar 5) (tC (.int 1)))) (tCons (tVar 1) (tCons (tVar 2) (tCons (tVar 3) (tCons (tVar 4) tNil)))))) (gName 4))
      (tIfS (tOr (tTest (tOp (rEqX K) (tOp (rIxX K) (tVar 5) (tC (.int 0))) (tC (.str "loop")))) (tOr (tTest (tOp (rEqX K) (tOp (rIxX K) (tVar 5) (tC (.int 0))) (tC (.str "either")))) (tTest (tOp (rEqX K) (tOp (rIxX K) (tVar 5) (tC (.int 0))) (tC (.str "orders"))))))
        (tAsg (tCall (spOf K T (S_law_full_choose (n + 1))) [] E0 (tCons (tVar 5) (tCons (tVar 1) (tCons (tVar 2) (tCons (tVar 3) (tCons (tVar 4) tNil)))))) (gName 4))
        (tDrop (tCall (spOf K T S_law_row_done) [] E0 (tCons (tVar 5) (tCons (tVar 2) tNil)))))) tNext) (Out.thn (fun rhGr1 w1 => WS ⟨K, E, T, X⟩ (tRet (tVar 4)) rhGr1 w1 (Post P)) (Post P)) (eB b) [some (.tup (eB b0)), some (.dct e.GaGr), some (.adr a.sp), some vd, some (.int i), v5] (lO a s true kvs ks) := by
    intro b s kvs ks v5 i b0 hP
    refine turns_ind (A := Unit) (fun _ ds rhGr w' => (∃ v5, rhGr = [some (.tup (eB b0)), some (.dct e.GaGr), some (.adr a.sp), some vd, some (.int i), v5]) ∧ w' = lO a s true kvs ks) ?_ ?_ () ⟨⟨_, rfl⟩, rfl⟩
    · rintro _ rhGr w' ⟨⟨v5, rfl⟩, rfl⟩
      walk_at "w"
      exact hP
    · rintro _ x xs rhGr w' ⟨⟨v5, rfl⟩, rfl⟩
      walk_at "w"
      refine rd_ix_dctO (d := .bl true) 1 rfl rfl ?_
      walk_at "w"
      exact ⟨(), ⟨_, rfl⟩, rfl⟩
  walk_at "w"
  refine wi_anyT ?_
  walk_at "w"
  refine ⟨_, rfl, fun _ => trivial, ?_⟩
  rcases hor with ⟨rfl, hP⟩ | ⟨rfl, names, out, pre, ws, post, rfl, rfl, hE, hC, hp, hW, hL, hws, hP, hX⟩
  · exact long b s kvs ks none i b hP
  refine turns_ind (A := Sn × List (Str × D) × List D × Way × Way × Blk × Bool × Int) (fun z ds rhGr w' => ds = eB z.2.2.2.2.2.1 ∧
    (∃ v5, rhGr = [some (.tup (eB b)), some (.dct e.GaGr), some (.adr a.sp), some (eWay (pre ++ ws ++ post)), some (.int z.2.2.2.2.2.2.2), v5]) ∧ w' = lO a z.1 z.2.2.2.2.2.2.1 z.2.1 z.2.2.1 ∧
    ((z.2.2.2.2.2.2.1 = true ∧ runB (woB e.f b) s (ws ++ post) = none) ∨ (z.2.2.2.2.2.2.1 = false ∧ z.2.2.2.2.2.2.2 = z.2.2.2.1.length ∧ dpB e.gaGr z.2.2.2.2.2.1 < n + 1 ∧ CaB e.kn z.2.2.2.2.2.1 ∧ LpB z.2.2.2.2.2.1 ∧ LgW names (woB e.f z.2.2.2.2.2.1) ∧ z.2.2.2.2.1 ∈ wB (woB e.f z.2.2.2.2.2.1) ∧ z.2.2.2.1 ++ z.2.2.2.2.1 = pre ++ ws ∧
      runB (woB e.f z.2.2.2.2.2.1) z.1 (z.2.2.2.2.1 ++ post) = runB (woB e.f b) s (ws ++ post) ∧ LSt names (out + szB (woB e.f z.2.2.2.2.2.1)) e z.1 z.2.1 z.2.2.1))) ?_ ?_ (s, kvs, ks, pre, ws, b, false, (pre.length : Int)) ⟨rfl, ⟨none, rfl⟩, rfl, .inr ⟨rfl, rfl, hd, hC, hp, hW, hws, rfl, rfl, hL⟩⟩
  · rintro ⟨s1, kvs1, ks1, pr, wz, rest, lg, j⟩ rhGr w' ⟨h1, ⟨v5, rfl⟩, rfl, h2⟩
    cases rest with
    | cons st rest => cases h1
    | nil =>
      walk_at "w"
      rcases h2 with ⟨t1, t2⟩ | ⟨t1, t2, t3, t4, t5, t6, t7, t8, t9, t10⟩
      · have t1' : lg = true := t1
        subst t1'
        exact hX t2 _ _ _ _
      · have t1' : lg = false := t1
        subst t1'
        have en : woB e.f .nil = .nil := by simp [woB]
        have t7' : wz ∈ wB (woB e.f .nil) := t7
        have t9' : runB (woB e.f .nil) s1 (wz ++ post) = runB (woB e.f b) s (ws ++ post) := t9
        rw [en] at t7' t9'
        have e1 : wz = [] := by simpa [wB] using t7'
        subst e1
        have e2 : pr = pre ++ ws := by rw [← t8]; simp
        subst e2
        rw [runB_nil] at t9'
        have t2' : j = ((pre ++ ws).length : Nat) := t2
        subst t2'
        exact hP s1 kvs1 ks1 t9'.symm (t10.less (by omega))
  · rintro ⟨s1, kvs1, ks1, pr, wz, rest, lg, j⟩ x xs rhGr w' ⟨h1, ⟨v5, rfl⟩, rfl, h2⟩
    cases rest with
    | nil => cases h1
    | cons st rest =>
      obtain ⟨rfl, rfl⟩ := List.cons.inj h1
      rcases h2 with ⟨t1, t2⟩ | ⟨t1, t2, t3, t4, t5, t6, t7, t8, t9, t10⟩
      · have t1' : lg = true := t1
        subst t1'
        walk_at "w"
        refine rd_ix_dctO (d := .bl true) 1 rfl rfl ?_
        walk_at "w"
        exact ⟨(s1, kvs1, ks1, pr, wz, rest, true, j), rfl, ⟨_, rfl⟩, rfl, .inl ⟨rfl, t2⟩⟩
      · have t1' : lg = false := t1
        subst t1'
        have t2' : j = (pr.length : Nat) := t2
        subst t2'
        have ew : woB e.f (.cons st rest) = (woS e.f st).app (woB e.f rest) := by simp [woB]
        have t6' : LgW names (woB e.f (.cons st rest)) := t6
        have t7' : wz ∈ wB (woB e.f (.cons st rest)) := t7
        have t9' : runB (woB e.f (.cons st rest)) s1 (wz ++ post) = runB (woB e.f b) s (ws ++ post) := t9
        have t10' : LSt names (out + szB (woB e.f (.cons st rest))) e s1 kvs1 ks1 := t10
        rw [ew] at t6' t7' t9' t10'
        rw [wB_app] at t7'
        rw [szB_app] at t10'
        obtain ⟨x, hx, y, hy, rfl⟩ := both_mem.mp t7'
        obtain ⟨W1, W2⟩ := t6'.app
        obtain ⟨c1, c2⟩ : CaS e.kn st ∧ CaB e.kn rest := by simpa [CaB] using t4
        obtain ⟨l1, l2⟩ : LpS st ∧ LpB rest := by simpa [LpB] using t5
        have d1 : dpS e.gaGr st < n + 1 ∧ dpB e.gaGr rest < n + 1 := by
          have t3' : dpB e.gaGr (.cons st rest) < n + 1 := t3
          simp only [dpB] at t3'
          omega
        have h4' : (pr ++ x) ++ y = pre ++ ws := by rw [List.append_assoc]; exact t8
        have h5' : (runB (woS e.f st) s1 (x ++ (y ++ post))).bind (fun p => runB (woB e.f rest) p.1 p.2) = runB (woB e.f b) s (ws ++ post) := by rw [← runB_app, ← List.append_assoc]; exact t9'
        have hL1 : LSt names ((out + szB (woB e.f rest)) + szB (woS e.f st)) e s1 kvs1 ks1 := t10'.less (by omega)
        have hwy : pre ++ ws ++ post = pr ++ x ++ (y ++ post) := by rw [← h4']; simp
        have fin1 : ∀ (s2 : Sn) (kvs2 : List (Str × D)) (ks2 : List D) (rhGr2 : Sl) (w2 : Own), runB (woS e.f st) s1 (x ++ (y ++ post)) = some (s2, y ++ post) → LSt names (out + szB (woB e.f rest)) e s2 kvs2 ks2 → (∃ v5, rhGr2 = [some (.tup (eB b)), some (.dct e.GaGr), some (.adr a.sp), some (eWay (pre ++ ws ++ post)), some (.int ((pr ++ x).length : Nat)), v5]) → w2 = lO a s2 false kvs2 ks2 →
          ∃ z : Sn × List (Str × D) × List D × Way × Way × Blk × Bool × Int, eB rest = eB z.2.2.2.2.2.1 ∧ (∃ v5, rhGr2 = [some (.tup (eB b)), some (.dct e.GaGr), some (.adr a.sp), some (eWay (pre ++ ws ++ post)), some (.int z.2.2.2.2.2.2.2), v5]) ∧ w2 = lO a z.1 z.2.2.2.2.2.2.1 z.2.1 z.2.2.1 ∧
            ((z.2.2.2.2.2.2.1 = true ∧ runB (woB e.f b) s (ws ++ post) = none) ∨ (z.2.2.2.2.2.2.1 = false ∧ z.2.2.2.2.2.2.2 = z.2.2.2.1.length ∧ dpB e.gaGr z.2.2.2.2.2.1 < n + 1 ∧ CaB e.kn z.2.2.2.2.2.1 ∧ LpB z.2.2.2.2.2.1 ∧ LgW names (woB e.f z.2.2.2.2.2.1) ∧ z.2.2.2.2.1 ∈ wB (woB e.f z.2.2.2.2.2.1) ∧ z.2.2.2.1 ++ z.2.2.2.2.1 = pre ++ ws ∧
              runB (woB e.f z.2.2.2.2.2.1) z.1 (z.2.2.2.2.1 ++ post) = runB (woB e.f b) s (ws ++ post) ∧ LSt names (out + szB (woB e.f z.2.2.2.2.2.1)) e z.1 z.2.1 z.2.2.1)) := by
          rintro s2 kvs2 ks2 rhGr2 w2 g1 g2 g3 rfl
          exact ⟨(s2, kvs2, ks2, pr ++ x, y, rest, false, ((pr ++ x).length : Nat)), rfl, g3, rfl, .inr ⟨rfl, rfl, d1.2, c2, l2, W2, hy, h4', by rw [← h5', g1]; rfl, g2⟩⟩
        have fin0 : ∀ (s2 : Sn) (kvs2 : List (Str × D)) (ks2 : List D) (j : Int) (rhGr2 : Sl) (w2 : Own), runB (woS e.f st) s1 (x ++ (y ++ post)) = none → (∃ v5, rhGr2 = [some (.tup (eB b)), some (.dct e.GaGr), some (.adr a.sp), some (eWay (pre ++ ws ++ post)), some (.int j), v5]) → w2 = lO a s2 true kvs2 ks2 →
          ∃ z : Sn × List (Str × D) × List D × Way × Way × Blk × Bool × Int, eB rest = eB z.2.2.2.2.2.1 ∧ (∃ v5, rhGr2 = [some (.tup (eB b)), some (.dct e.GaGr), some (.adr a.sp), some (eWay (pre ++ ws ++ post)), some (.int z.2.2.2.2.2.2.2), v5]) ∧ w2 = lO a z.1 z.2.2.2.2.2.2.1 z.2.1 z.2.2.1 ∧
            ((z.2.2.2.2.2.2.1 = true ∧ runB (woB e.f b) s (ws ++ post) = none) ∨ (z.2.2.2.2.2.2.1 = false ∧ z.2.2.2.2.2.2.2 = z.2.2.2.1.length ∧ dpB e.gaGr z.2.2.2.2.2.1 < n + 1 ∧ CaB e.kn z.2.2.2.2.2.1 ∧ LpB z.2.2.2.2.2.1 ∧ LgW names (woB e.f z.2.2.2.2.2.1) ∧ z.2.2.2.2.1 ∈ wB (woB e.f z.2.2.2.2.2.1) ∧ z.2.2.2.1 ++ z.2.2.2.2.1 = pre ++ ws ∧
              runB (woB e.f z.2.2.2.2.2.1) z.1 (z.2.2.2.2.1 ++ post) = runB (woB e.f b) s (ws ++ post) ∧ LSt names (out + szB (woB e.f z.2.2.2.2.2.1)) e z.1 z.2.1 z.2.2.1)) := by
          rintro s2 kvs2 ks2 j rhGr2 w2 g1 g3 rfl
          exact ⟨(s2, kvs2, ks2, pr ++ x, y, rest, true, j), rfl, g3, rfl, .inl ⟨rfl, by rw [← h5', g1]; rfl⟩⟩
        refine wg_name ?_
        cases st with
        | row r =>
          have es : woS e.f (.row r) = .cons (.row r) .nil := by simp [woS]
          rw [es] at hx W1 hL1 fin1 fin0
          have ex : x = [] := by simpa [wB_one, wS] using hx
          subst ex
          have hr' : RowN names r := by have := W1.ru; simpa [RuB, RuS] using this
          have call : ∀ {Q : D → Own → Prop}, (∀ s2 kvs2, doRow s1 r = some s2 → Res names (out + szB (woB e.f rest)) s2 kvs2 → Q (.bl true) (lO a s2 false kvs2 ks1)) → (doRow s1 r = none → ∀ s2 kvs2, Q (.bl false) (lO a s2 true kvs2 ks1)) → CS S_law_row_done [eR r, .adr a.sp] (lO a s1 false kvs1 ks1) Q fun _ => False := fun q1 q2 =>
            csW ⟨rfl, a, s1, kvs1, ks1, names, r, out + szB (woB e.f rest), rfl, rfl, hL1.r.less (by omega), hr', q1, q2⟩
          have go1 : ∀ s2, doRow s1 r = some s2 → runB (.cons (.row r) .nil) s1 ([] ++ (y ++ post)) = some (s2, y ++ post) := fun s2 h => by
            rw [runB_one, runS_row, h]; rfl
          have go0 : doRow s1 r = none → runB (.cons (.row r) .nil) s1 ([] ++ (y ++ post)) = none := fun h => by
            rw [runB_one, runS_row, h]; rfl
          have hj : (pr.length : Int) = ((pr ++ []).length : Nat) := by rw [List.append_nil]
          cases r with
          | add z ts =>
            walk_at "w"
            refine rd_ix_dctO (d := .bl false) 1 rfl rfl ?_
            walk_at "w"
            exact call (fun s2 kvs2 g1 g2 => fin1 s2 kvs2 ks1 _ _ (go1 s2 g1) ⟨g2, hL1.k, by rw [(doRow_n g1).2]; exact hL1.l⟩ ⟨_, by rw [← hj]; rfl⟩ rfl) fun g1 s2 kvs2 => fin0 s2 kvs2 ks1 _ _ _ (go0 g1) ⟨_, rfl⟩ rfl
          | lift z ts =>
            walk_at "w"
            refine rd_ix_dctO (d := .bl false) 1 rfl rfl ?_
            walk_at "w"
            exact call (fun s2 kvs2 g1 g2 => fin1 s2 kvs2 ks1 _ _ (go1 s2 g1) ⟨g2, hL1.k, by rw [(doRow_n g1).2]; exact hL1.l⟩ ⟨_, by rw [← hj]; rfl⟩ rfl) fun g1 s2 kvs2 => fin0 s2 kvs2 ks1 _ _ _ (go0 g1) ⟨_, rfl⟩ rfl
          | set z ts =>
            walk_at "w"
            refine rd_ix_dctO (d := .bl false) 1 rfl rfl ?_
            walk_at "w"
            exact call (fun s2 kvs2 g1 g2 => fin1 s2 kvs2 ks1 _ _ (go1 s2 g1) ⟨g2, hL1.k, by rw [(doRow_n g1).2]; exact hL1.l⟩ ⟨_, by rw [← hj]; rfl⟩ rfl) fun g1 s2 kvs2 => fin0 s2 kvs2 ks1 _ _ _ (go0 g1) ⟨_, rfl⟩ rfl
        | call z =>
          obtain ⟨d, hz⟩ := Option.isSome_iff_exists.mp (show (e.bod z).isSome = true from c1)
          have es : woS e.f (.call z) = woB e.f d := by rw [← hE.en.wo z d hz]; simp [woS]
          rw [es] at hx W1 hL1 fin1 fin0
          have hdp := hE.en.dp z d hz
          have hd1 : e.gaGr z + 1 < n + 1 := by have := d1.1; simpa [dpS] using this
          walk_at "w"
          refine rd_ix_dctO (d := .bl false) 1 rfl rfl ?_
          walk_at "w"
          refine rd_ix_dct (hE.en.at_ z d hz) ?_
          walk_at "w"
          refine csW ⟨rfl, d, e, a, s1, false, kvs1, ks1, eWay (pre ++ ws ++ post), (pr.length : Nat), rfl, rfl, by omega, .inr ⟨rfl, names, out + szB (woB e.f rest), pr, x, y ++ post, by rw [hwy], rfl, hE, hE.en.ca z d hz, hE.lp z d hz, W1, hL1, hx, fun s2 kvs2 ks2 g1 g2 => ?_, fun g1 j s2 kvs2 ks2 => ?_⟩⟩
          · exact fin1 s2 kvs2 ks2 _ _ g1 g2 ⟨_, rfl⟩ rfl
          · exact fin0 s2 kvs2 ks2 _ _ _ g1 ⟨_, rfl⟩ rfl
        | loop z c =>
          walk_at "w"
          refine rd_ix_dctO (d := .bl false) 1 rfl rfl ?_
          walk_at "w"
          refine csW ⟨rfl, .loop z c, e, a, s1, kvs1, ks1, names, out + szB (woB e.f rest), pr, x, y ++ post, by rw [← hwy], rfl, d1.1, trivial, hE, c1, l1, W1, hL1, hx, fun s2 kvs2 ks2 g1 g2 => ?_, fun g1 j s2 kvs2 ks2 => ?_⟩
          · exact fin1 s2 kvs2 ks2 _ _ g1 g2 ⟨_, rfl⟩ rfl
          · exact fin0 s2 kvs2 ks2 _ _ _ g1 ⟨_, rfl⟩ rfl
        | alt o bs =>
          have call : ∀ {Q : D → Own → Prop}, (∀ s2 kvs2 ks2, runB (woS e.f (.alt o bs)) s1 (x ++ (y ++ post)) = some (s2, y ++ post) → LSt names (out + szB (woB e.f rest)) e s2 kvs2 ks2 → Q (.int ((pr ++ x).length : Nat)) (lO a s2 false kvs2 ks2)) → (runB (woS e.f (.alt o bs)) s1 (x ++ (y ++ post)) = none → ∀ (j : Int) s2 kvs2 ks2, Q (.int j) (lO a s2 true kvs2 ks2)) →
              CS (S_law_full_choose (n + 1)) [eS (.alt o bs), .dct e.GaGr, .adr a.sp, eWay (pre ++ ws ++ post), .int (pr.length : Nat)] (lO a s1 false kvs1 ks1) Q fun _ => False := fun q1 q2 =>
            csW ⟨rfl, .alt o bs, e, a, s1, kvs1, ks1, names, out + szB (woB e.f rest), pr, x, y ++ post, by rw [← hwy], rfl, d1.1, trivial, hE, c1, l1, W1, hL1, hx, q1, q2⟩
          cases o with
          | true =>
            walk_at "w"
            refine rd_ix_dctO (d := .bl false) 1 rfl rfl ?_
            walk_at "w"
            exact call (fun s2 kvs2 ks2 g1 g2 => fin1 s2 kvs2 ks2 _ _ g1 g2 ⟨_, rfl⟩ rfl) fun g1 j s2 kvs2 ks2 => fin0 s2 kvs2 ks2 _ _ _ g1 ⟨_, rfl⟩ rfl
          | false =>
            walk_at "w"
            refine rd_ix_dctO (d := .bl false) 1 rfl rfl ?_
            walk_at "w"
            exact call (fun s2 kvs2 ks2 g1 g2 => fin1 s2 kvs2 ks2 _ _ g1 g2 ⟨_, rfl⟩ rfl) fun g1 j s2 kvs2 ks2 => fin0 s2 kvs2 ks2 _ _ _ g1 ⟨_, rfl⟩ rfl
end
end Hw
/-! HwAJ -/
namespace Hw
def S_law_full (C : Addr) (n : Nat) : DSpec := fun ds w P _ => ds.length = 3 ∧ ∃ (names : List Str) (W : Wd) (b : Blk) (e : En) (v : Way) (siGr : List (Str × D)) (nuGr : Str → Int), ds = [eProg C names W b, eWay v, .dct siGr] ∧ w = [] ∧ FrOk W e n names b v siGr nuGr ∧
  (∀ s', runB (woB e.f b) ⟨nuGr, 0, []⟩ v = some (s', []) → NuB names s'.nuGr → ∀ p q, P (.tup [.str "told", .tup [.adr p, .adr q]]) [(p, .dct (eNu names s'.nuGr)), (q, .lst (s'.pk.map D.int))]) ∧ (runB (woB e.f b) ⟨nuGr, 0, []⟩ v = none → P (.tup [.str "long", .non]) [])
section
variable {P : Program} {w : World} {K : PySem.W.Frag} {mg : Str → Option Value} {base : Heap} {T C Cd : Addr}
abbrev st_law_full : Stmt := top 93
abbrev N_law_full : List Str := ["_law_program", "_law_way", "_law_starts_here", "_law_told"]
theorem sc_law_full : FnScope N_law_full ["_law_program", "_law_way", "_law_starts_here"] (defScope st_law_full) := ⟨rfl, rfl, rfl, by decide +kernel, rfl, by decide +kernel, by decide +kernel⟩

theorem ok_law_full {k n : Nat} (bl : Blt mg) (F : DefAt K mg "_law_full" st_law_full ["_law_program", "_law_way", "_law_starts_here"]) (tl : ExcAt K mg "TooLong" T) (ex : PySem.W.exmOne K (.ref T) (.ref T) = some true)
    (h_full_run : Has P w K mg base (L2.CX P w) "full_run" ["program", "way", "starts"] k (spOf K T (S_full_run C n))) : Has P w K mg base CX0 "_law_full" ["_law_program", "_law_way", "_law_starts_here"] (k + 1) (spOf K T (S_law_full C n)) := by
  refine defD F sc_law_full (fun _ _ _ _ h => h.1) fun f cdv A outer s H E hr => ?_
  have hu := hu_of hr
  have hu64 := hr.units
  have nd := sc_law_full.nd
  refine ⟨_, pss_cons (ps_try_only (tb := fun W => tAsg (tTup (tCons (tC (.str "told")) (tCons (tCallS (spOf K T (S_full_run C n)) (L2.WE W) (tCons (tVar 0) (tCons (tVar 1) (tCons (tVar 2) tNil)))) tNil))) (gName 3)) (ts := fun _ _ _ => tAsg (tTup (tCons (tC (.str "long")) (tCons (tC .non) tNil))) (gName 3)) (Wout := fun _ _ _ _ => False) rfl rfl ⟨rfl, by decide, .inl tl.g⟩ takes0
      (fun W pn xe tk _ => pss_one (ps_set (i := 3) nd rfl (Or.inl rfl) (pe_tup (pa_cons pe_str (pa_cons (pe_callHS h_full_run hr rfl (fun siGr => passAt tk siGr) (pa_cons (pv 0) (pa_cons (pv 1) (pa_cons (pv 2) pa_nil)))) pa_nil)))))
      (fun a oe cls d pn hz hf => pss_one (ps_set (i := 3) nd rfl (Or.inl rfl) (pe_tup (pa_cons pe_str (pa_cons pe_non pa_nil)))))) (pss_one (ps_ret (pv 3))), ?_⟩
  rintro ds w P X ⟨-, names, W, b, e, v, siGr, nuGr, rfl, rfl, hF, hP, hX⟩
  refine ws_seq (ws_tryCall (Z := ⟨K, E, T, X⟩) ex ?_)
  walk_at "w"
  refine cs0 ⟨rfl, names, W, b, e, v, siGr, nuGr, rfl, rfl, hF, fun s' h1 h2 p q => ?_, fun h1 w' => ?_⟩
  · walk_at "w"
    exact hP s' h1 h2 p q
  · intro _ _ _
    refine ws_asg (we_tup (wa_cons (we_str (wa_cons (we_non (wa_nil ⟨Nat.le_of_ble_eq_true rfl, ?_⟩))))))
    refine ws_ret (we_trim (we_var rfl ?_))
    exact ⟨[], _, rfl, hX h1⟩
end
end Hw
/-! HwAN -/
namespace Hw
/-! ### what is called -/
section
variable {f g : Str → Blk}
mutual
theorem woS_congr : ∀ s : Stm, CaS (fun x => f x = g x) s → woS f s = woS g s
  | .row r, _ => by simp only [woS]
  | .loop x b, h => by
    simp only [CaS] at h
    simp only [woS, woB_congr b h]
  | .alt o bs, h => by
    simp only [CaS] at h
    simp only [woS, woLs_congr bs h]
  | .call w, h => by
    simp only [CaS] at h
    simp only [woS]; exact h
theorem woB_congr : ∀ b : Blk, CaB (fun x => f x = g x) b → woB f b = woB g b
  | .nil, _ => by simp only [woB]
  | .cons s b, h => by
    simp only [CaB] at h
    simp only [woB, woS_congr s h.1, woB_congr b h.2]
theorem woLs_congr : ∀ bs : Bls, CaLs (fun x => f x = g x) bs → woLs f bs = woLs g bs
  | .nil, _ => by simp only [woLs]
  | .cons b bs, h => by
    simp only [CaLs] at h
    simp only [woLs, woB_congr b h.1, woLs_congr bs h.2]
end
end
section
variable {gaGr : Str → Nat} {G : Nat}
mutual
theorem dpS_le : ∀ s : Stm, CaS (fun x => gaGr x + 1 ≤ G) s → dpS gaGr s ≤ dS s + G
  | .row r, _ => by simp only [dpS]; omega
  | .loop x b, h => by
    simp only [CaS] at h
    have := dpB_le b h
    simp only [dpS, dS]; omega
  | .alt o bs, h => by
    simp only [CaS] at h
    have := dpLs_le bs h
    simp only [dpS, dS]; omega
  | .call w, h => by
    simp only [CaS] at h
    simp only [dpS, dS]; omega
theorem dpB_le : ∀ b : Blk, CaB (fun x => gaGr x + 1 ≤ G) b → dpB gaGr b ≤ dB b + G
  | .nil, _ => by simp only [dpB]; omega
  | .cons s b, h => by
    simp only [CaB] at h
    have h1 := dpS_le s h.1
    have h2 := dpB_le b h.2
    simp only [dpB, dB]; omega
theorem dpLs_le : ∀ bs : Bls, CaLs (fun x => gaGr x + 1 ≤ G) bs → dpLs gaGr bs ≤ dBs bs + G
  | .nil, _ => by simp only [dpLs]; omega
  | .cons b bs, h => by
    simp only [CaLs] at h
    have h1 := dpB_le b h.1
    have h2 := dpLs_le bs h.2
    simp only [dpLs, dBs]; omega
end
end
section
variable {f : Str → Blk} {gaGr : Str → Nat}
mutual
theorem dwS : ∀ s : Stm, CaS (fun x => dB (f x) ≤ gaGr x + 1) s → dB (woS f s) ≤ dpS gaGr s
  | .row r, _ => by simp [woS, dB, dS, dpS]
  | .loop x b, h => by
    simp only [CaS] at h
    have := dwB b h
    simp only [woS, dB, dS, dpS]; omega
  | .alt o bs, h => by
    simp only [CaS] at h
    have := dwLs bs h
    simp only [woS, dB, dS, dpS]; omega
  | .call w, h => by
    simp only [CaS] at h
    simp only [woS, dpS]; exact h
theorem dwB : ∀ b : Blk, CaB (fun x => dB (f x) ≤ gaGr x + 1) b → dB (woB f b) ≤ dpB gaGr b
  | .nil, _ => by simp [woB, dB]
  | .cons s b, h => by
    simp only [CaB] at h
    have h1 := dwS s h.1
    have h2 := dwB b h.2
    simp only [woB, dB_app, dpB]; omega
theorem dwLs : ∀ bs : Bls, CaLs (fun x => dB (f x) ≤ gaGr x + 1) bs → dBs (woLs f bs) ≤ dpLs gaGr bs
  | .nil, _ => by simp [woLs, dBs]
  | .cons b bs, h => by
    simp only [CaLs] at h
    have h1 := dwB b h.1
    have h2 := dwLs bs h.2
    simp only [woLs, dBs, dpLs]; omega
end
end
/-! ### rows -/
theorem VT.n {names : List Str} {t : Trm} (h : VT names t) : VPn names t.2 ∧ 1 ≤ t.1 ∧ t.1 ≤ 9 := by
  obtain ⟨h1, h2, h3⟩ := h
  refine ⟨?_, h1, h2⟩
  cases e : t.2 with
  | none => trivial
  | some x => rw [e] at h3; exact h3.1
theorem VR.n {names : List Str} {sets : Bool} {r : Row} (h : VR names sets r) : RowN names r := by
  cases r with
  | add x ts => exact ⟨h.1, fun t ht => (h.2.2.2.1 t ht).n⟩
  | lift x t => exact ⟨h.1, h.2.n⟩
  | set x ts => exact ⟨h.1, h.2.1.1, fun t ht => (h.2.1.2.2.1 t ht).n⟩
section
variable {names words : List Str} {f : Str → Blk}
mutual
theorem ruS : ∀ (s : Stm) (sets : Bool), VS names words sets s → CaS (fun x => RuB names (f x)) s → RuB names (woS f s)
  | .row r, sets, v, _ => by
    simp only [VS] at v
    simp only [woS, RuB, RuS, and_true]; exact v.n
  | .loop x b, sets, v, h => by
    simp only [VS] at v
    simp only [CaS] at h
    simp only [woS, RuB, RuS, and_true]; exact ⟨v.1, ruB b false v.2.2 h⟩
  | .alt o bs, sets, v, h => by
    simp only [VS] at v
    simp only [CaS] at h
    simp only [woS, RuB, RuS, and_true]; exact ruLs bs sets v.2.2 h
  | .call w, sets, v, h => by
    simp only [CaS] at h
    simp only [woS]; exact h
theorem ruB : ∀ (b : Blk) (sets : Bool), VB names words sets b → CaB (fun x => RuB names (f x)) b → RuB names (woB f b)
  | .nil, _, _, _ => by simp only [woB, RuB]
  | .cons s b, sets, v, h => by
    simp only [VB] at v
    simp only [CaB] at h
    simp only [woB, RuB_app]; exact ⟨ruS s sets v.1 h.1, ruB b sets v.2 h.2⟩
theorem ruLs : ∀ (bs : Bls) (sets : Bool), VBs names words sets bs → CaLs (fun x => RuB names (f x)) bs → RuLs names (woLs f bs)
  | .nil, _, _, _ => by simp only [woLs, RuLs]
  | .cons b bs, sets, v, h => by
    simp only [VBs] at v
    simp only [CaLs] at h
    simp only [woLs, RuLs]; exact ⟨ruB b sets v.1.2 h.1, ruLs bs sets v.2 h.2⟩
end
end
/-! ### measures -/
theorem foldl_a : ∀ (ps : List Ms) (m : Ms), (ps.foldl Ms.add m).a = m.a + (ps.map Ms.a).sum
  | [], m => by simp
  | p :: ps, m => by
    show (ps.foldl Ms.add (m.add p)).a = _
    rw [foldl_a ps]
    show m.a + p.a + _ = _
    rw [List.map_cons, List.sum_cons]; omega
theorem joinM_a (ps : List Ms) : (joinM ps).a = (ps.map Ms.a).sum := by unfold joinM; rw [foldl_a]; show 0 + _ = _; omega
def mxf (i : Int) (ps : List Ms) : Int := ps.foldl (fun i p => imax i p.f) i
theorem foldl_f : ∀ (ps : List Ms) (m : Ms), (ps.foldl Ms.add m).f = mxf m.f ps
  | [], m => rfl
  | p :: ps, m => foldl_f ps (m.add p)
theorem joinM_f (ps : List Ms) : (joinM ps).f = mxf 1 ps := foldl_f ps ms0
theorem imax_l (i j : Int) : i ≤ imax i j := by unfold imax; split <;> omega
theorem imax_r (i j : Int) : j ≤ imax i j := by unfold imax; split <;> omega
theorem mxf_ge : ∀ (ps : List Ms) (i : Int), i ≤ mxf i ps
  | [], i => Int.le_refl _
  | p :: ps, i => Int.le_trans (imax_l i p.f) (mxf_ge ps _)
theorem mxf_mem : ∀ (ps : List Ms) (i : Int), ∀ p ∈ ps, p.f ≤ mxf i ps
  | [], i, p, h => by cases h
  | q :: ps, i, p, h => by
    rcases List.mem_cons.mp h with rfl | h
    · exact Int.le_trans (imax_r i p.f) (mxf_ge ps _)
    · exact mxf_mem ps _ p h
theorem mxf_mono : ∀ (ps : List Ms) (i j : Int), i ≤ j → mxf i ps ≤ mxf j ps
  | [], i, j, h => h
  | p :: ps, i, j, h => by
    have e : imax i p.f ≤ imax j p.f := by
      unfold imax
      repeat' split
      all_goals omega
    exact mxf_mono ps _ _ e
theorem mxf_tl (p : Ms) (ps : List Ms) (i : Int) : mxf i ps ≤ mxf i (p :: ps) := mxf_mono ps _ _ (imax_l i p.f)
/-- what is written out, as it is measured -/
structure Mz (m : Ms) (u : Blk) : Prop where
  ln : (u.len : Int) ≤ m.a
  sz : (szB u : Int) ≤ 4 * m.a
  wl : ∀ v ∈ wB u, ((v.length : Nat) : Int) ≤ m.a
  e : (((wB u).length : Nat) : Int) = m.e
  sh : m.a ≤ 40 → m.f ≤ 24 → ShB u
structure Mw (m : Ms) (ws : List Way) : Prop where
  wl : ∀ v ∈ ws, ((v.length : Nat) : Int) ≤ m.a
  e : ((ws.length : Nat) : Int) = m.e
  a0 : 0 ≤ m.a
theorem Mz.a0 {m : Ms} {u : Blk} (h : Mz m u) : 0 ≤ m.a := by have := h.ln; omega
theorem Mz.gd {m : Ms} {u : Blk} (h : Mz m u) (ha : m.a ≤ 40) (he : m.e ≤ 24) : Gd (wB u) := by
  refine ⟨?_, fun v hv => ?_⟩
  · have := h.e; omega
  · have := h.wl v hv; omega
theorem both_wl {xs ys : List Way} {A B : Int} (hx : ∀ v ∈ xs, ((v.length : Nat) : Int) ≤ A) (hy : ∀ v ∈ ys, ((v.length : Nat) : Int) ≤ B) : ∀ v ∈ both xs ys, ((v.length : Nat) : Int) ≤ A + B := fun v hv => by
  obtain ⟨x, h1, y, h2, rfl⟩ := both_mem.mp hv
  have := hx x h1
  have := hy y h2
  rw [List.length_append]; omega
inductive Mws : List Ms → List (List Way) → Prop where
  | nil : Mws [] []
  | cons {m : Ms} {w : List Way} {ms : List Ms} {ws : List (List Way)} (h : Mw m w) (t : Mws ms ws) : Mws (m :: ms) (w :: ws)
theorem Mws.a0 : ∀ {ms : List Ms} {ws : List (List Way)}, Mws ms ws → 0 ≤ (ms.map Ms.a).sum
  | _, _, .nil => Int.le_refl _
  | _, _, .cons h t => by have := h.a0; have := t.a0; rw [List.map_cons, List.sum_cons]; omega
theorem Mws.len : ∀ {ms : List Ms} {ws : List (List Way)}, Mws ms ws → ms.length = ws.length
  | _, _, .nil => rfl
  | _, _, .cons h t => congrArg (· + 1) t.len
theorem one_wl (k : Nat) : ∀ v ∈ [[k]], ((v.length : Nat) : Int) ≤ 1 := fun v hv => by
  obtain rfl : v = [k] := by simpa using hv
  exact Int.le_refl _
theorem altE_m : ∀ {ms : List Ms} {ws : List (List Way)} (k : Nat), Mws ms ws → (∀ v ∈ altE k ws, ((v.length : Nat) : Int) ≤ (ms.map Ms.a).sum + 1) ∧ (((altE k ws).length : Nat) : Int) = (ms.map Ms.e).sum
  | _, _, k, .nil => ⟨fun v hv => (by cases hv), rfl⟩
  | _, _, k, .cons (m := m) (w := w) (ms := ms) (ws := ws) h t => by
    obtain ⟨h1, h2⟩ := altE_m (k + 1) t
    have a0 := h.a0
    have b0 := t.a0
    refine ⟨fun v hv => ?_, ?_⟩
    · rw [List.map_cons, List.sum_cons]
      rcases List.mem_append.mp (show v ∈ both [[k]] w ++ altE (k + 1) ws from hv) with hv | hv
      · have := both_wl (one_wl k) h.wl v hv; omega
      · have := h1 v hv; omega
    · show ((both [[k]] w ++ altE (k + 1) ws).length : Int) = _
      rw [List.length_append, both_len, List.map_cons, List.sum_cons]
      have := h.e
      simp only [List.length_cons, List.length_nil, Nat.zero_add, Nat.one_mul]
      omega
theorem altO_m {ms : List Ms} {ws : List (List Way)} (h : Mws ms ws) (hl : ws.length = 2 ∨ ws.length = 3) : (∀ v ∈ altO ws 0 (ordN ws.length), ((v.length : Nat) : Int) ≤ (ms.map Ms.a).sum + 1) ∧ (((altO ws 0 (ordN ws.length)).length : Nat) : Int) = prodE ms * (if ws.length = 2 then 2 else 6) := by
  cases h with
  | nil => simp at hl
  | cons h1 t =>
    cases t with
    | nil => simp at hl
    | cons h2 t =>
      cases t with
      | nil =>
        rename_i m w m' w'
        have e : altO [w, w'] 0 (ordN 2) = both (both [[0]] w) w' ++ (both (both [[1]] w') w ++ []) := rfl
        refine ⟨fun v hv => ?_, ?_⟩
        · have hv : v ∈ both (both [[0]] w) w' ++ (both (both [[1]] w') w ++ []) := hv
          simp only [List.map_cons, List.sum_cons, List.map_nil, List.sum_nil]
          simp only [List.mem_append, List.not_mem_nil, or_false] at hv
          rcases hv with hv | hv
          · have := both_wl (both_wl (one_wl 0) h1.wl) h2.wl v hv; omega
          · have := both_wl (both_wl (one_wl 1) h2.wl) h1.wl v hv; omega
        · show (((both (both [[0]] w) w' ++ (both (both [[1]] w') w ++ [])).length : Nat) : Int) = (m.e * (m'.e * 1)) * 2
          rw [← h1.e, ← h2.e]
          simp only [List.length_append, both_len, List.length_cons, List.length_nil, Nat.zero_add, Nat.one_mul, Nat.add_zero]
          rw [Nat.mul_comm w'.length w.length]
          push_cast
          rw [Int.mul_one]; omega
      | cons h3 t =>
        cases t with
        | nil =>
          rename_i m w m' w' m'' w''
          refine ⟨fun v hv => ?_, ?_⟩
          · have hv : v ∈ both (both (both [[0]] w) w') w'' ++ (both (both (both [[1]] w) w'') w' ++ (both (both (both [[2]] w') w) w'' ++ (both (both (both [[3]] w') w'') w ++ (both (both (both [[4]] w'') w) w' ++ (both (both (both [[5]] w'') w') w ++ []))))) := hv
            simp only [List.map_cons, List.sum_cons, List.map_nil, List.sum_nil]
            simp only [List.mem_append, List.not_mem_nil, or_false] at hv
            rcases hv with hv | hv | hv | hv | hv | hv
            · have := both_wl (both_wl (both_wl (one_wl 0) h1.wl) h2.wl) h3.wl v hv; omega
            · have := both_wl (both_wl (both_wl (one_wl 1) h1.wl) h3.wl) h2.wl v hv; omega
            · have := both_wl (both_wl (both_wl (one_wl 2) h2.wl) h1.wl) h3.wl v hv; omega
            · have := both_wl (both_wl (both_wl (one_wl 3) h2.wl) h3.wl) h1.wl v hv; omega
            · have := both_wl (both_wl (both_wl (one_wl 4) h3.wl) h1.wl) h2.wl v hv; omega
            · have := both_wl (both_wl (both_wl (one_wl 5) h3.wl) h2.wl) h1.wl v hv; omega
          · show (((both (both (both [[0]] w) w') w'' ++ (both (both (both [[1]] w) w'') w' ++ (both (both (both [[2]] w') w) w'' ++ (both (both (both [[3]] w') w'') w ++ (both (both (both [[4]] w'') w) w' ++ (both (both (both [[5]] w'') w') w ++ [])))))).length : Nat) : Int) = (m.e * (m'.e * (m''.e * 1))) * 6
            rw [← h1.e, ← h2.e, ← h3.e]
            simp only [List.length_append, both_len, List.length_cons, List.length_nil, Nat.zero_add, Nat.one_mul, Nat.add_zero]
            generalize w.length = p
            generalize w'.length = q
            generalize w''.length = r
            have e1 : p * r * q = p * q * r := by rw [Nat.mul_assoc, Nat.mul_comm r q, ← Nat.mul_assoc]
            have e2 : q * p * r = p * q * r := by rw [Nat.mul_comm q p]
            have e3 : q * r * p = p * q * r := by rw [Nat.mul_comm (q * r) p, Nat.mul_assoc]
            have e4 : r * p * q = p * q * r := by rw [Nat.mul_comm r p, e1]
            have e5 : r * q * p = p * q * r := by rw [Nat.mul_comm r q, e3]
            rw [e1, e2, e3, e4, e5]
            have e6 : (p : Int) * ((q : Int) * ((r : Int) * 1)) = ((p * q * r : Nat) : Int) := by push_cast; rw [Int.mul_one, Int.mul_assoc]
            rw [e6]; omega
        | cons h4 t => simp at hl
structure MzL (ms : List Ms) (us : Bls) : Prop where
  sz : (szLs us : Int) ≤ 4 * (ms.map Ms.a).sum + us.len
  sh : (ms.map Ms.a).sum ≤ 39 → (∀ m ∈ ms, m.f ≤ 24) → ShBs us
  mw : Mws ms (wLs us)
section
variable {names words : List Str} {f : Str → Blk} {beGr : Str → Ms}
mutual
theorem mzS : ∀ (s : Stm) (sets : Bool), VS names words sets s → CaS (fun x => Mz (beGr x) (f x)) s → Mz (mS beGr s) (woS f s)
  | .row r, sets, v, _ => by
    have e : wB (woS f (.row r)) = [[]] := by simp only [woS, wB_one, wS]
    simp only [mS]
    refine ⟨by simp [woS, Blk.len], by simp [woS, szB, szS], fun v hv => ?_, by rw [e]; rfl, fun _ _ => by simp [woS, ShB, ShS]⟩
    rw [e] at hv
    obtain rfl : v = [] := by simpa using hv
    show ((0 : Nat) : Int) ≤ 1
    decide
  | .loop x b, sets, v, h => by
    simp only [VS] at v
    simp only [CaS] at h
    have ih := mzB b false v.2.2 h
    have e : wB (woS f (.loop x b)) = [[]] := by simp only [woS, wB_one, wS]
    have a0 := ih.a0
    simp only [mS]
    refine ⟨?_, ?_, fun v hv => ?_, by rw [e]; rfl, fun h1 h2 => ?_⟩
    · simp only [woS, Blk.len]; omega
    · simp only [woS, szB, szS]; have := ih.sz; omega
    · rw [e] at hv
      obtain rfl : v = [] := by simpa using hv
      show ((0 : Nat) : Int) ≤ (joinM (mL beGr b)).a + 1
      omega
    · have h1 : (joinM (mL beGr b)).a + 1 ≤ 40 := h1
      have h2 : imax (joinM (mL beGr b)).e (joinM (mL beGr b)).f ≤ 24 := h2
      have l1 := imax_l (joinM (mL beGr b)).e (joinM (mL beGr b)).f
      have l2 := imax_r (joinM (mL beGr b)).e (joinM (mL beGr b)).f
      simp only [woS, ShB, ShS, and_true]
      exact ⟨by have := ih.ln; omega, ih.gd (by omega) (by omega), ih.sh (by omega) (by omega)⟩
  | .alt o bs, sets, v, h => by
    simp only [VS] at v
    simp only [CaS] at h
    have ih := mzLs bs sets v.2.2 h
    have el : (wLs (woLs f bs)).length = bs.len := by rw [wLs_len, woLs_len]
    have a0 := ih.mw.a0
    have sl := woLs_len f bs
    have hsz := ih.sz
    have hw : (∀ v ∈ wS (.alt o (woLs f bs)), ((v.length : Nat) : Int) ≤ ((mLs beGr bs).map Ms.a).sum + 1) ∧ (((wS (.alt o (woLs f bs))).length : Nat) : Int) = if o then (joinM (mLs beGr bs)).e * (if bs.len = 2 then 2 else 6) else ((mLs beGr bs).map Ms.e).sum := by
      cases o with
      | false =>
        have := altE_m 0 ih.mw
        simpa only [wS, if_neg (show ¬ false = true by decide), Bool.false_eq_true, if_false] using this
      | true =>
        have := altO_m ih.mw (by rw [el]; omega)
        rw [el] at this
        rw [joinM_e]
        simpa only [wS, if_true, el] using this
    simp only [mS]
    refine ⟨?_, ?_, fun v hv => ?_, ?_, fun h1 h2 => ?_⟩
    · simp only [woS, Blk.len, joinM_a]; omega
    · simp only [woS, szB, szS, joinM_a]; omega
    · simp only [woS, wB_one] at hv
      have := hw.1 v hv
      simp only [joinM_a]; exact this
    · simp only [woS, wB_one]
      exact hw.2
    · simp only [woS, ShB, ShS, and_true]
      have h1 : (joinM (mLs beGr bs)).a + 1 ≤ 40 := h1
      have h2 : (joinM (mLs beGr bs)).f ≤ 24 := h2
      rw [joinM_a] at h1
      rw [joinM_f] at h2
      exact ⟨by omega, by omega, ih.sh (by omega) fun m hm => Int.le_trans (mxf_mem _ _ m hm) h2⟩
  | .call w, sets, v, h => by
    simp only [CaS] at h
    simp only [woS, mS]; exact h
theorem mzB : ∀ (b : Blk) (sets : Bool), VB names words sets b → CaB (fun x => Mz (beGr x) (f x)) b → Mz (joinM (mL beGr b)) (woB f b)
  | .nil, _, _, _ => by
    have e : wB (woB f .nil) = [[]] := by simp only [woB, wB]
    refine ⟨by simp [woB, Blk.len, mL, joinM, ms0], by simp [woB, szB, mL, joinM, ms0], fun v hv => ?_, by rw [e]; rfl, fun _ _ => by simp [woB, ShB]⟩
    rw [e] at hv
    obtain rfl : v = [] := by simpa using hv
    show ((0 : Nat) : Int) ≤ 0
    decide
  | .cons s b, sets, v, h => by
    simp only [VB] at v
    simp only [CaB] at h
    have h1 := mzS s sets v.1 h.1
    have h2 := mzB b sets v.2 h.2
    have ea : (joinM (mL beGr (.cons s b))).a = (mS beGr s).a + (joinM (mL beGr b)).a := by simp only [mL, joinM_a, List.map_cons, List.sum_cons]
    have ee : (joinM (mL beGr (.cons s b))).e = (mS beGr s).e * (joinM (mL beGr b)).e := by simp only [mL, joinM_e]; rfl
    have a1 := h1.a0
    have a2 := h2.a0
    have ew : wB (woB f (.cons s b)) = both (wB (woS f s)) (wB (woB f b)) := by simp only [woB, wB_app]
    have f1 : (mS beGr s).f ≤ (joinM (mL beGr (.cons s b))).f := by
      simp only [mL, joinM_f]
      exact mxf_mem _ _ _ (by simp)
    have f2 : (joinM (mL beGr b)).f ≤ (joinM (mL beGr (.cons s b))).f := by
      simp only [mL, joinM_f]
      exact mxf_tl _ _ _
    refine ⟨?_, ?_, fun v hv => ?_, ?_, fun g1 g2 => ?_⟩
    · rw [ea]; have := h1.ln; have := h2.ln
      have el : ∀ a b : Blk, (a.app b).len = a.len + b.len := by
        intro a b
        have := eB_app a b
        have := congrArg List.length this
        rwa [List.length_append, eB_len, eB_len, eB_len] at this
      simp only [woB, el]; omega
    · rw [ea]; have := h1.sz; have := h2.sz
      simp only [woB, szB_app]; omega
    · rw [ea]; rw [ew] at hv
      exact both_wl h1.wl h2.wl v hv
    · rw [ee, ew, both_len, ← h1.e, ← h2.e]; push_cast; rfl
    · rw [ea] at g1
      simp only [woB, ShB_app]
      exact ⟨h1.sh (by omega) (by omega), h2.sh (by omega) (by omega)⟩
theorem mzLs : ∀ (bs : Bls) (sets : Bool), VBs names words sets bs → CaLs (fun x => Mz (beGr x) (f x)) bs → MzL (mLs beGr bs) (woLs f bs)
  | .nil, _, _, _ => by simp only [mLs, woLs]; exact ⟨by simp [szLs, Bls.len], fun _ _ => by simp [ShBs], by simp only [wLs]; exact .nil⟩
  | .cons b bs, sets, v, h => by
    simp only [VBs] at v
    simp only [CaLs] at h
    have h1 := mzB b sets v.1.2 h.1
    have h2 := mzLs bs sets v.2 h.2
    have a1 := h1.a0
    have a2 := h2.mw.a0
    simp only [mLs, woLs]
    refine ⟨?_, fun g1 g2 => ?_, ?_⟩
    · have := h1.sz; have := h2.sz
      simp only [szLs, Bls.len, List.map_cons, List.sum_cons]; push_cast; omega
    · rw [List.map_cons, List.sum_cons] at g1
      simp only [ShBs]
      have := h1.ln
      exact ⟨⟨by omega, h1.sh (by omega) (g2 _ (by simp))⟩, h2.sh (by omega) fun m hm => g2 m (List.mem_cons_of_mem _ hm)⟩
    · simp only [wLs]
      exact .cons ⟨h1.wl, h1.e, a1⟩ h2.mw
end
end
/-! ### what can be compared -/
mutual
theorem isPyS : ∀ s : Stm, isPy (eS s) = true
  | .row r => by
    have t : ∀ t : Trm, isPy (eT t) = true := fun t => by
      obtain ⟨c, p⟩ := t
      cases p <;> rfl
    have ts : ∀ ts : List Trm, isPy (eTs ts) = true := fun ts => by
      show isPys (ts.map eT) = true
      exact isPys_map eT t ts
    simp only [eS]
    cases r with
    | add x l => show (true && (true && (isPy (eTs l) && true))) = true; rw [ts]; rfl
    | lift x l => show (true && (true && (isPy (eT l) && true))) = true; rw [t]; rfl
    | set x l => show (true && (true && (isPy (eTs l) && true))) = true; rw [ts]; rfl
  | .loop x b => by
    have := isPyB b
    simp only [eS, isPy, isPys, this, Bool.and_self]
  | .alt o bs => by
    have := isPyBs bs
    simp only [eS, isPy, isPys, this, Bool.and_self]
  | .call w => by simp only [eS, isPy, isPys, Bool.and_self]
theorem isPyB : ∀ b : Blk, isPys (eB b) = true
  | .nil => by simp only [eB, isPys]
  | .cons s b => by
    have h1 := isPyS s
    have h2 := isPyB b
    simp only [eB, isPys, h1, h2, Bool.and_self]
theorem isPyBs : ∀ b : Bls, isPys (eBs b) = true
  | .nil => by simp only [eBs, isPys]
  | .cons s b => by
    have h1 := isPyB s
    have h2 := isPyBs b
    simp only [eBs, isPys, isPy, h1, h2, Bool.and_self]
end
/-- it can be laid, and is no deeper -/
def Ld (d : D) (n : Nat) : Prop := PyData.canLay0 (py d) = true ∧ PyData.depth (py d) ≤ n
def Lds (ds : List D) (n : Nat) : Prop := PyData.canLayAll0 (pys ds) = true ∧ PyData.depthAll (pys ds) ≤ n
theorem Ld.int (i : Int) (n : Nat) : Ld (.int i) n := ⟨by simp [py, PyData.canLay0], by simp [py, PyData.depth]⟩
theorem Ld.str {x : Str} (h : PyData.strOk x = true) (n : Nat) : Ld (.str x) n := ⟨by simp [py, PyData.canLay0, h], by simp [py, PyData.depth]⟩
theorem Ld.tup {ds : List D} {n : Nat} (h : Lds ds n) : Ld (.tup ds) (n + 1) := ⟨by simp only [py, PyData.canLay0]; exact h.1, by simp only [py, PyData.depth]; have := h.2; omega⟩
theorem Lds.nil (n : Nat) : Lds [] n := ⟨by simp [pys, PyData.canLayAll0], by simp [pys, PyData.depthAll]⟩
theorem Lds.cons {d : D} {ds : List D} {n : Nat} (h : Ld d n) (t : Lds ds n) : Lds (d :: ds) n := ⟨by simp only [pys, PyData.canLayAll0, h.1, t.1, Bool.and_self], by simp only [pys, PyData.depthAll]; have := h.2; have := t.2; omega⟩
theorem Ld.le {d : D} {m n : Nat} (h : Ld d m) (l : m ≤ n) : Ld d n := ⟨h.1, Nat.le_trans h.2 l⟩
theorem Lds.le {d : List D} {m n : Nat} (h : Lds d m) (l : m ≤ n) : Lds d n := ⟨h.1, Nat.le_trans h.2 l⟩
theorem Lds.map {alGr : Type} {f : alGr → D} {n : Nat} : ∀ {l : List alGr}, (∀ x ∈ l, Ld (f x) n) → Lds (l.map f) n
  | [], _ => .nil n
  | x :: l, h => .cons (h x (by simp)) (Lds.map fun y hy => h y (List.mem_cons_of_mem _ hy))
theorem ldP {names : List Str} : ∀ {p : Prd}, VP names p → Ld (eP p) 2
  | none, _ => .tup (.nil 1)
  | some x, h => .tup (.cons (.tup (.cons (.str (word_strOk h.2) 0) (.cons (.int 1 0) (.nil 0)))) (.nil 1))
theorem ldT {names : List Str} {t : Trm} (h : VT names t) : Ld (eT t) 3 := .tup (.cons (.int _ 2) (.cons (ldP h.2.2) (.nil 2)))
theorem ldTs {names : List Str} {ts : List Trm} (h : VTs names ts) : Ld (eTs ts) 4 := .tup (.map fun t ht => ldT (h.2.2.1 t ht))
theorem ldR {names : List Str} (hn : ∀ x ∈ names, WordOk x) {sets : Bool} {r : Row} (h : VR names sets r) : Ld (eR r) 5 := by
  cases r with
  | add x ts => exact .tup (.cons (.str (by decide +kernel) 4) (.cons (.str (word_strOk (hn x h.1)) 4) (.cons (ldTs h.2) (.nil 4))))
  | lift x ts => exact .tup (.cons (.str (by decide +kernel) 4) (.cons (.str (word_strOk (hn x h.1)) 4) (.cons ((ldT h.2).le (by decide)) (.nil 4))))
  | set x ts => exact .tup (.cons (.str (by decide +kernel) 4) (.cons (.str (word_strOk (hn x h.1)) 4) (.cons (ldTs h.2.1) (.nil 4))))
section
variable {names words : List Str} (hn : ∀ x ∈ names, WordOk x) (hw : ∀ x ∈ words, WordOk x)
include hn hw
mutual
theorem ldS : ∀ (s : Stm) (sets : Bool), VS names words sets s → Ld (eS s) (5 + 3 * dS s)
  | .row r, sets, v => by
    simp only [VS] at v
    simp only [eS, dS]
    exact ldR hn v
  | .loop x b, sets, v => by
    simp only [VS] at v
    have := ldB b false v.2.2
    simp only [eS, dS]
    exact (Ld.tup (n := 6 + 3 * dB b) (.cons (.str (by decide +kernel) _) (.cons (.str (word_strOk (hn x v.1)) _) (.cons ((Ld.tup this).le (by omega)) (.nil _))))).le (by omega)
  | .alt o bs, sets, v => by
    simp only [VS] at v
    have := ldBs bs sets v.2.2
    simp only [eS, dS]
    exact (Ld.tup (n := 7 + 3 * dBs bs) (.cons (.str (by cases o <;> decide +kernel) _) (.cons ((Ld.tup this).le (by omega)) (.nil _)))).le (by omega)
  | .call w, sets, v => by
    simp only [VS] at v
    simp only [eS, dS]
    exact (Ld.tup (n := 1) (.cons (.str (by decide +kernel) _) (.cons (.str (word_strOk (hw w v)) _) (.nil _)))).le (by omega)
theorem ldB : ∀ (b : Blk) (sets : Bool), VB names words sets b → Lds (eB b) (5 + 3 * dB b)
  | .nil, _, _ => by simp only [eB]; exact .nil _
  | .cons s b, sets, v => by
    simp only [VB] at v
    have h1 := ldS s sets v.1
    have h2 := ldB b sets v.2
    simp only [eB, dB]
    exact .cons (h1.le (by omega)) (h2.le (by omega))
theorem ldBs : ∀ (b : Bls) (sets : Bool), VBs names words sets b → Lds (eBs b) (6 + 3 * dBs b)
  | .nil, _, _ => by simp only [eBs]; exact .nil _
  | .cons s b, sets, v => by
    simp only [VBs] at v
    have h1 := ldB s sets v.1.2
    have h2 := ldBs b sets v.2
    simp only [eBs, dBs]
    exact .cons ((Ld.tup h1).le (by omega)) (h2.le (by omega))
end
theorem plB {b : Blk} {sets : Bool} (v : VB names words sets b) (hd : dB b ≤ 12) : PlB b := by
  have h := Ld.tup (ldB hn hw b sets v)
  refine ⟨by simp only [isPy]; exact isPyB b, ?_⟩
  unfold SeqAt.shaped
  rw [h.1, Bool.true_and]
  have := h.2
  exact decide_eq_true (by omega)
mutual
theorem lpS : ∀ (s : Stm) (sets : Bool), VS names words sets s → dS s ≤ 12 → LpS s
  | .row r, _, _, _ => by simp only [LpS]
  | .loop x b, sets, v, hd => by
    simp only [VS] at v
    simp only [dS] at hd
    simp only [LpS]
    exact ⟨plB hn hw v.2.2 (by omega), lpB b false v.2.2 (by omega)⟩
  | .alt o bs, sets, v, hd => by
    simp only [VS] at v
    simp only [dS] at hd
    simp only [LpS]
    exact lpLs bs sets v.2.2 (by omega)
  | .call w, _, _, _ => by simp only [LpS]
theorem lpB : ∀ (b : Blk) (sets : Bool), VB names words sets b → dB b ≤ 12 → LpB b
  | .nil, _, _, _ => by simp only [LpB]
  | .cons s b, sets, v, hd => by
    simp only [VB] at v
    simp only [dB] at hd
    simp only [LpB]
    exact ⟨lpS s sets v.1 (by omega), lpB b sets v.2 (by omega)⟩
theorem lpLs : ∀ (b : Bls) (sets : Bool), VBs names words sets b → dBs b ≤ 12 → LpLs b
  | .nil, _, _, _ => by simp only [LpLs]
  | .cons s b, sets, v, hd => by
    simp only [VBs] at v
    simp only [dBs] at hd
    simp only [LpLs]
    exact ⟨lpB s sets v.1.2 (by omega), lpLs b sets v.2 (by omega)⟩
end
end
end Hw
/-! HwAO -/
namespace Hw
def nob : Str → Blk := fun _ => .nil
def fOne (w1 : Str) (b1 : Blk) : Str → Blk := fun x => if x = w1 then woB nob b1 else .nil
def Wd.bod : Wd → Str → Option Blk
  | .n0 => fun _ => none
  | .n1 w1 b1 => fun x => if x = w1 then some b1 else none
  | .n2 w1 b1 w0 b0 => fun x => if x = w1 then some b1 else if x = w0 then some b0 else none
def Wd.fn : Wd → Str → Blk
  | .n0 => nob
  | .n1 w1 b1 => fOne w1 b1
  | .n2 w1 b1 w0 b0 => fun x => if x = w1 then woB nob b1 else if x = w0 then woB (fOne w1 b1) b0 else .nil
def Wd.dp : Wd → Str → Nat
  | .n0 => fun _ => 0
  | .n1 _ _ => fun _ => 2
  | .n2 w1 _ _ _ => fun x => if x = w1 then 2 else 5
def Wd.en (W : Wd) (kvs : List (Str × D)) : En := ⟨kvs, W.bod, W.fn, W.dp⟩
structure WordG (names : List Str) (W : Wd) (x : Str) : Prop where
  mz : Mz (W.beGr x) (W.fn x)
  ru : RuB names (W.fn x)
  db : dB (W.fn x) ≤ W.dp x + 1
  dp : W.dp x + 1 ≤ 6
  kn : (W.bod x).isSome = true
structure BodG (names : List Str) (W : Wd) (d : Blk) (x : Str) : Prop where
  kv : lk W.kvs x = some (.tup (eB d))
  me : x ∈ W.words
  wo : W.fn x = woB W.fn d
  dp : dpB W.dp d ≤ W.dp x
  ca : CaB (fun x => (W.bod x).isSome = true) d
  lp : LpB d
theorem noW {p : Str → Prop} : ∀ x ∈ ([] : List Str), p x := fun x h => by cases h
section
variable {names : List Str} {b1 : Blk} {c1 : Nat}
theorem B1Ok.mz (h : B1Ok names b1 c1) : Mz (joinM (mL beGr0 b1)) (woB nob b1) := mzB b1 false h.v (CaB_of noW b1 h.v)
theorem B1Ok.ru (h : B1Ok names b1 c1) : RuB names (woB nob b1) := ruB b1 false h.v (CaB_of noW b1 h.v)
theorem B1Ok.db (h : B1Ok names b1 c1) (gaGr : Str → Nat) : dpB gaGr b1 ≤ 2 := Nat.le_trans (dpB_le (G := 0) b1 (CaB_of noW b1 h.v)) h.d
theorem B1Ok.dw (h : B1Ok names b1 c1) : dB (woB nob b1) ≤ 2 := Nat.le_trans (dwB (gaGr := fun _ => 0) b1 (CaB_of noW b1 h.v)) (h.db _)
end
theorem WorldOk.bodG {names : List Str} {W : Wd} {u : Blk} (h : WorldOk names W u) : ∀ x d, W.bod x = some d → BodG names W d x := by
  obtain ⟨v1, v0, c1, c0, hv1, hv0, hlt, hW⟩ := h.w
  have hn := h.nm.2.2.1
  intro x d hb
  cases W with
  | n0 => cases hb
  | n1 w1 b1 =>
    obtain ⟨rfl, -, hB⟩ := hW
    by_cases e : x = w1
    · subst e
      have hb : b1 = d := by simpa [Wd.bod] using hb
      subst hb
      exact ⟨by simp [Wd.kvs, lk], by simp [Wd.words], by
        show fOne x b1 x = woB (fOne x b1) b1
        unfold fOne
        rw [if_pos rfl]
        exact woB_congr b1 (CaB_of noW b1 hB.v), hB.db _, CaB_of noW b1 hB.v, lpB hn noW b1 false hB.v (by have := hB.d; omega)⟩
    · simp [Wd.bod, e] at hb
  | n2 w1 b1 w0 b0 =>
    obtain ⟨rfl, rfl, hB, hC⟩ := hW
    have hne : ¬ w0 = w1 := strLt_ne hlt
    have hne1 : ¬ w1 = w0 := fun e => hne e.symm
    by_cases e : x = w1
    · subst e
      have hb : b1 = d := by simpa [Wd.bod] using hb
      subst hb
      exact ⟨by simp [Wd.kvs, lk], by simp [Wd.words], by
        simp only [Wd.fn, if_pos]
        exact woB_congr b1 (CaB_of noW b1 hB.v), by simpa [Wd.dp] using hB.db _, CaB_of noW b1 hB.v, lpB hn noW b1 false hB.v (by have := hB.d; omega)⟩
    · by_cases e0 : x = w0
      · subst e0
        have hb : b0 = d := by simpa [Wd.bod, e] using hb
        subst hb
        refine ⟨by simp [Wd.kvs, lk, hne1], by simp [Wd.words], ?_, ?_, ?_, lpB hn (words := [w1]) (fun y hy => (by simpa using hy : y = w1) ▸ hv1) b0 false hC.v (by have := hC.d; omega)⟩
        · simp only [Wd.fn, if_neg e, if_pos]
          refine woB_congr b0 (CaB_of (words := [w1]) (fun y hy => ?_) b0 hC.v)
          obtain rfl : y = w1 := by simpa using hy
          show fOne y b1 y = _
          unfold fOne
          simp
        · have e5 : (Wd.n2 w1 b1 x b0).dp x = 5 := by simp [Wd.dp, e]
          rw [e5]
          refine Nat.le_trans (dpB_le (G := 3) b0 (CaB_of (words := [w1]) (fun y hy => ?_) b0 hC.v)) (by have := hC.d; omega)
          obtain rfl : y = w1 := by simpa using hy
          simp [Wd.dp]
        · refine CaB_of (words := [w1]) (fun y hy => ?_) b0 hC.v
          obtain rfl : y = w1 := by simpa using hy
          simp [Wd.bod]
      · simp [Wd.bod, e, e0] at hb
theorem WorldOk.wordG {names : List Str} {W : Wd} {u : Blk} (h : WorldOk names W u) : ∀ x ∈ W.words, WordG names W x := by
  obtain ⟨v1, v0, c1, c0, hv1, hv0, hlt, hW⟩ := h.w
  intro x hx
  cases W with
  | n0 => cases hx
  | n1 w1 b1 =>
    obtain ⟨rfl, -, hB⟩ := hW
    obtain rfl : x = w1 := by simpa [Wd.words] using hx
    have e1 : (Wd.n1 x b1).fn x = woB nob b1 := by simp [Wd.fn, fOne]
    have e2 : (Wd.n1 x b1).beGr x = joinM (mL beGr0 b1) := by simp [Wd.beGr, beGr1]
    exact ⟨by rw [e1, e2]; exact hB.mz, by rw [e1]; exact hB.ru, by rw [e1]; have := hB.dw; show _ ≤ 3; omega, by show 3 ≤ 6; decide, by simp [Wd.bod]⟩
  | n2 w1 b1 w0 b0 =>
    obtain ⟨rfl, rfl, hB, hC⟩ := hW
    have hne : ¬ w0 = w1 := strLt_ne hlt
    have hne1 : ¬ w1 = w0 := fun e => hne e.symm
    have hf1 : fOne w1 b1 w1 = woB nob b1 := by simp [fOne]
    have hb1 : beGr1 w1 b1 w1 = joinM (mL beGr0 b1) := by simp [beGr1]
    have hx : x = w0 ∨ x = w1 := by simpa [Wd.words] using hx
    rcases hx with rfl | rfl
    · have e1 : (Wd.n2 w1 b1 x b0).fn x = woB (fOne w1 b1) b0 := by simp [Wd.fn, hne]
      have e2 : (Wd.n2 w1 b1 x b0).beGr x = joinM (mL (beGr1 w1 b1) b0) := by simp [Wd.beGr]
      have e3 : (Wd.n2 w1 b1 x b0).dp x = 5 := by simp [Wd.dp, hne]
      refine ⟨?_, ?_, ?_, by rw [e3]; decide, by simp [Wd.bod, hne]⟩
      · rw [e1, e2]
        refine mzB b0 false hC.v (CaB_of (words := [w1]) (fun y hy => ?_) b0 hC.v)
        obtain rfl : y = w1 := by simpa using hy
        rw [hf1, hb1]; exact hB.mz
      · rw [e1]
        refine ruB b0 false hC.v (CaB_of (words := [w1]) (fun y hy => ?_) b0 hC.v)
        obtain rfl : y = w1 := by simpa using hy
        rw [hf1]; exact hB.ru
      · rw [e1, e3]
        have := dwB (f := fOne w1 b1) (gaGr := fun _ => 2) b0 (CaB_of (words := [w1]) (fun y hy => by
          obtain rfl : y = w1 := by simpa using hy
          show dB (fOne y b1 y) ≤ 2 + 1
          rw [hf1]; have := hB.dw; omega) b0 hC.v)
        have h2 := dpB_le (gaGr := fun _ => 2) (G := 3) b0 (CaB_of (words := [w1]) (fun y hy => Nat.le_refl 3) b0 hC.v)
        have := hC.d
        omega
    · have e1 : (Wd.n2 x b1 w0 b0).fn x = woB nob b1 := by simp [Wd.fn]
      have e2 : (Wd.n2 x b1 w0 b0).beGr x = joinM (mL beGr0 b1) := by simp [Wd.beGr, hne1, beGr1]
      have e3 : (Wd.n2 x b1 w0 b0).dp x = 2 := by simp [Wd.dp]
      exact ⟨by rw [e1, e2]; exact hB.mz, by rw [e1]; exact hB.ru, by rw [e1, e3]; have := hB.dw; omega, by rw [e3]; decide, by simp [Wd.bod]⟩
theorem WorldOk.en {names : List Str} {W : Wd} {u : Blk} (h : WorldOk names W u) {kvs : List (Str × D)} (hk : ∀ x ∈ W.words, lk kvs x = lk W.kvs x) : EnOk (W.en kvs) where
  at_ x d hb := by have g := h.bodG x d hb; exact (hk x g.me).trans g.kv
  wo x d hb := (h.bodG x d hb).wo
  dp x d hb := (h.bodG x d hb).dp
  ca x d hb := (h.bodG x d hb).ca
theorem WorldOk.lgE {names : List Str} {W : Wd} {u : Blk} (h : WorldOk names W u) : LgE (W.en W.kvs) := ⟨h.en fun _ _ => rfl, fun x d hb => (h.bodG x d hb).lp⟩
section
variable {names : List Str} {W : Wd} {u : Blk} (h : WorldOk names W u)
include h
theorem WorldOk.wordsOk : ∀ x ∈ W.words, WordOk x := by
  obtain ⟨v1, v0, c1, c0, hv1, hv0, hlt, hW⟩ := h.w
  cases W with
  | n0 => intro x hx; cases hx
  | n1 w1 b1 =>
    obtain ⟨rfl, -, -⟩ := hW
    intro x hx
    obtain rfl : x = w1 := by simpa [Wd.words] using hx
    exact hv1
  | n2 w1 b1 w0 b0 =>
    obtain ⟨rfl, rfl, -⟩ := hW
    intro x hx
    have hx : x = w0 ∨ x = w1 := by simpa [Wd.words] using hx
    rcases hx with rfl | rfl
    · exact hv0
    · exact hv1
theorem WorldOk.mz : Mz (mM W u) (woB W.fn u) := mzB u true h.v (CaB_of (fun x hx => (h.wordG x hx).mz) u h.v)
theorem WorldOk.dpu : dpB W.dp u < 12 := by
  have := dpB_le (gaGr := W.dp) (G := 6) u (CaB_of (fun x hx => (h.wordG x hx).dp) u h.v)
  have := h.d
  omega
theorem WorldOk.cau : CaB (fun x => (W.bod x).isSome = true) u := CaB_of (fun x hx => (h.wordG x hx).kn) u h.v
theorem WorldOk.gd : Gd (wB (woB W.fn u)) := h.mz.gd (by have := h.a; omega) h.e
theorem WorldOk.sh : ShB (woB W.fn u) := h.mz.sh (by have := h.a; omega) h.f
theorem WorldOk.bk : Bk names 12 (woB W.fn u) where
  sh := h.sh
  ru := ruB u true h.v (CaB_of (fun x hx => (h.wordG x hx).ru) u h.v)
  dp := by
    have := dwB (f := W.fn) (gaGr := W.dp) u (CaB_of (fun x hx => (h.wordG x hx).db) u h.v)
    have := h.dpu
    omega
  sz := by have := h.mz.sz; have := h.a; omega
theorem WorldOk.lgW : LgW names (woB W.fn u) := ⟨h.sh, h.bk.ru, h.bk.sz⟩
theorem WorldOk.lp : LpB u := lpB h.nm.2.2.1 h.wordsOk u true h.v (by have := h.d; omega)
theorem WorldOk.fo (kvs : List (Str × D)) : Fo (W.en kvs) 12 u := ⟨h.cau, h.dpu, by have := h.bk.sz; show szB (woB W.fn u) ≤ 1000; omega, h.sh⟩
theorem WorldOk.wk : W.K 12 := by
  obtain ⟨v1, v0, c1, c0, hv1, hv0, hlt, hW⟩ := h.w
  cases W with
  | n0 => trivial
  | n1 w1 b1 =>
    obtain ⟨rfl, -, hB⟩ := hW
    exact ⟨hB.k, by have := hB.d; omega, by have := hB.l; omega⟩
  | n2 w1 b1 w0 b0 =>
    obtain ⟨rfl, rfl, hB, hC⟩ := hW
    exact ⟨hlt, ⟨hB.k, by have := hB.d; omega, by have := hB.l; omega⟩, hC.k, by have := hC.d; omega, by have := hC.l; omega⟩
theorem WorldOk.wv : W.V names := by
  obtain ⟨v1, v0, c1, c0, hv1, hv0, hlt, hW⟩ := h.w
  cases W with
  | n0 => trivial
  | n1 w1 b1 =>
    obtain ⟨rfl, -, hB⟩ := hW
    exact ⟨hv1, hB.v⟩
  | n2 w1 b1 w0 b0 =>
    obtain ⟨rfl, rfl, hB, hC⟩ := hW
    exact ⟨hv1, hB.v, hv0, hC.v⟩
theorem WorldOk.small : W.small := by
  obtain ⟨v1, v0, c1, c0, hv1, hv0, hlt, hW⟩ := h.w
  intro x hx
  cases W with
  | n0 => cases hx
  | n1 w1 b1 =>
    obtain ⟨rfl, -, hB⟩ := hW
    obtain rfl : x = w1 := by simpa [Wd.words] using hx
    exact ⟨_, by simp [Wd.ms, lk]; rfl, by have := hB.a; have := hB.c; omega⟩
  | n2 w1 b1 w0 b0 =>
    obtain ⟨rfl, rfl, hB, hC⟩ := hW
    have hne : ¬ w0 = w1 := strLt_ne hlt
    have hne1 : ¬ w1 = w0 := fun e => hne e.symm
    have hx : x = w0 ∨ x = w1 := by simpa [Wd.words] using hx
    rcases hx with rfl | rfl
    · exact ⟨joinM (mL (beGr1 w1 b1) b0), by simp [Wd.ms, lk, hne1], by have := hC.a; have := hC.c; omega⟩
    · exact ⟨joinM (mL beGr0 b1), by simp [Wd.ms, lk], by have := hB.a; have := hB.c; omega⟩
theorem WorldOk.main : VMain 12 names W u := ⟨h.v, by have := h.d; omega, by have := h.l; omega, h.k, by have := h.a; omega, h.b, by have := h.c; omega, h.dd, h.e, h.f⟩
theorem WorldOk.fr {v : Way} {siGr : List (Str × D)} {nuGr : Str → Int} (hv : v ∈ wB (woB W.fn u)) (nu : Nu siGr names nuGr) (nb : NuB names nuGr) (sl : siGr.length = names.length) (nd : names.Nodup) : FrOk W (W.en W.held) 12 names u v siGr nuGr where
  GaGr := rfl
  en := h.en fun x hx => by
    have := Wd.has h.wk x hx
    rw [this]
    show lk (W.words.map fun x => (x, W.body x)) x = _
    have : ∀ ks : List Str, x ∈ ks → lk (ks.map fun x => (x, W.body x)) x = some (W.body x) := by
      intro ks
      induction ks with
      | nil => intro h; cases h
      | cons k ks ih =>
        intro hm
        by_cases e : k = x
        · subst e; simp [lk]
        · simp only [List.map_cons, lk, e, if_false]
          exact ih (by rcases List.mem_cons.mp hm with h | h; exact absurd h.symm e; exact h)
    exact this _ hx
  fo := h.fo _
  v := hv
  bk := h.bk
  nu := nu
  nb := nb
  sl := sl
  nd := nd
  nl := h.nm.2.1
theorem WorldOk.nd : names.Nodup := h.nm.2.2.2.imp fun l e => strLt_ne l e
end
end Hw
/-! HwAD -/
namespace Hw
def stD0 (np cp : Addr) : List (Str × D) := [("numbers", .adr np), ("choices", .adr cp), ("at", .int 0), ("steps", .int 0), ("due", .non), ("long", .bl false), ("dice", .non), ("rounds", .int 0), ("trace", .lst []), ("top", .int TOP)]
def S_law_state : DSpec := fun ds w P _ => ds.length = 4 ∧ ∃ (siGr : List (Str × D)), ds = [.dct siGr, .lst [], .non, .int 0] ∧ w = [] ∧ ∀ sp np cp, P (.adr sp) [(sp, .dct (stD0 np cp)), (np, .dct siGr), (cp, .lst [])]
theorem top_pow : (10 ^ (50 : Int).toNat : Int) ^ (20 : Int).toNat = TOP := by
  unfold TOP
  rw [← Int.pow_mul]
  rfl
section
variable {P : Program} {w : World} {K : PySem.W.Frag} {mg : Str → Option Value} {base : Heap} {T : Addr}
abbrev st_law_state : Stmt := top 87
abbrev N_law_state : List Str := ["_law_starts_here", "_law_choices", "_law_dice_here", "_law_rounds"]
theorem sc_law_state : FnScope N_law_state ["_law_starts_here", "_law_choices", "_law_dice_here", "_law_rounds"] (defScope st_law_state) := ⟨rfl, rfl, rfl, by decide +kernel, rfl, by decide +kernel, by decide +kernel⟩

theorem ok_law_state {k : Nat} (bl : Blt mg) (F : DefAt K mg "_law_state" st_law_state ["_law_starts_here", "_law_choices", "_law_dice_here", "_law_rounds"]) : Has P w K mg base CX0 "_law_state" ["_law_starts_here", "_law_choices", "_law_dice_here", "_law_rounds"] (k + 1) (spOf K T S_law_state) := by
  refine defD F sc_law_state (fun _ _ _ _ h => h.1) fun f cdv A outer s H E hr => ?_
  have hu := hu_of hr
  have hu64 := hr.units
  have nd := sc_law_state.nd
  refine ⟨_, (pss_one (ps_ret (pe_disp (pps_cons pe_str (pe_callTy call_dictD rfl bl.dict bt_dict (pa_cons (pv 0) pa_nil)) (pps_cons pe_str (pe_callTy (k_list (K := K) rfl rfl) rfl bl.list bt_list (pa_cons (pv 1) pa_nil)) (pps_cons pe_str pe_int (pps_cons pe_str pe_int (pps_cons pe_str pe_non (pps_cons pe_str pe_bl (pps_cons pe_str (pv 2) (pps_cons pe_str (pv 3) (pps_cons pe_str (pe_lst pa_nil) (pps_cons pe_str (pe_op op_powW (pe_op op_powW pe_int pe_int) pe_int) pps_nil)))))))))) rfl rfl (fun z => by cases z) (by decide)))), ?_⟩
  rintro ds w P X ⟨-, siGr, rfl, rfl, hP⟩
  refine ws_ret (we_disp fun sp => wps_cons ?_)
  walk_at "w"
  refine ⟨_, rfl, ?_⟩
  walk_at "w"
  refine rc_dictO fun np => wps_cons ?_
  walk_at "w"
  refine ⟨_, rfl, ?_⟩
  walk_at "w"
  refine rc_list_lstO fun cp => wps_cons ?_
  walk_at "w"
  refine ⟨_, rfl, ?_⟩
  walk_at "w"
  refine wps_cons ?_
  walk_at "w"
  refine ⟨_, rfl, ?_⟩
  walk_at "w"
  refine wps_cons ?_
  walk_at "w"
  refine ⟨_, rfl, ?_⟩
  walk_at "w"
  refine wps_cons ?_
  walk_at "w"
  refine ⟨_, rfl, ?_⟩
  walk_at "w"
  refine wps_cons ?_
  walk_at "w"
  refine ⟨_, rfl, ?_⟩
  walk_at "w"
  refine wps_cons ?_
  walk_at "w"
  refine ⟨_, rfl, ?_⟩
  walk_at "w"
  refine wps_cons ?_
  walk_at "w"
  refine ⟨_, rfl, ?_⟩
  refine we_lst ?_
  walk_at "w"
  refine wps_cons ?_
  walk_at "w"
  refine ⟨_, rfl, ?_⟩
  walk_at "w"
  refine rd_powW ⟨by decide, by decide +kernel⟩ ?_
  walk_at "w"
  refine rd_powW ⟨by decide, by decide +kernel⟩ (wps_nil ?_)
  rw [top_pow]
  exact ⟨Nat.le_of_ble_eq_true rfl, by show (["numbers", "choices", "at", "steps", "due", "long", "dice", "rounds", "trace", "top"] : List Str).Nodup; decide +kernel, 0, rfl, hP sp np cp⟩
end
end Hw
/-! HwAP -/
namespace Hw
def S_law : DSpec := fun ds w P _ => ds.length = 1 ∧ ∃ is : List Int, ds = [.sq (is.map D.int)] ∧ w = [] ∧ P (.bl true) []
theorem asc_eq : ∀ {xs ys : List Str}, xs.Perm ys → xs.Pairwise strLt → ys.Pairwise strLt → xs = ys
  | [], ys, p, _, _ => p.nil_eq
  | x :: xs, [], p, _, _ => absurd p.length_eq (by simp)
  | x :: xs, y :: ys, p, hx, hy => by
    have hx' := List.pairwise_cons.mp hx
    have hy' := List.pairwise_cons.mp hy
    have e : x = y := by
      rcases List.mem_cons.mp (p.mem_iff.mp (List.mem_cons_self (a := x) (l := xs))) with h | h
      · exact h
      rcases List.mem_cons.mp (p.mem_iff.mpr (List.mem_cons_self (a := y) (l := ys))) with g | g
      · exact g.symm
      · exact absurd (List.lt_trans (hx'.1 y g) (hy'.1 x h)) (List.lt_irrefl _)
    subst e
    rw [asc_eq p.cons_inv hx'.2 hy'.2]
theorem eqv_nms : ∀ ks : List Str, PyData.eqvAll (pys (nms ks)) (pys (nms ks)) = true
  | [] => by simp [nms, pys, PyData.eqvAll]
  | k :: ks => by
    have := eqv_nms ks
    show PyData.eqvAll (PyData.str k :: pys (nms ks)) (PyData.str k :: pys (nms ks)) = true
    rw [eqvAll_cons, eqv_str, this]; simp
theorem nms_sh {ks : List Str} (h : ∀ x ∈ ks, WordOk x) : SeqAt.shaped (py (.lst (nms ks))) = true := by
  have l : Lds (nms ks) 0 := .map fun x hx => .str (word_strOk (h x hx)) 0
  unfold SeqAt.shaped
  have e1 : PyData.canLay0 (py (.lst (nms ks))) = true := by simp only [py, PyData.canLay0]; exact l.1
  have e2 : PyData.depth (py (.lst (nms ks))) ≤ 64 := by simp only [py, PyData.depth]; have := l.2; omega
  rw [e1, Bool.true_and]; exact decide_eq_true e2
theorem nms_py (ks : List Str) : isPy (.lst (nms ks)) = true := by
  simp only [isPy]
  exact isPys_map D.str (fun _ => by simp [isPy]) ks
theorem eNu_nu {names : List Str} {nuGr : Str → Int} (nd : names.Nodup) (h4 : names.length ≤ 4) : Nu (eNu names nuGr) names nuGr where
  at_ x hx := lk_eNu hx
  nd := by rw [eNu_keys]; exact nd
  len := by unfold eNu; rw [List.length_map]; omega
  ks x hx := by rw [eNu_keys]; exact hx
theorem eNu_len (names : List Str) (nuGr : Str → Int) : (eNu names nuGr).length = names.length := by unfold eNu; rw [List.length_map]
theorem eNu_at {names : List Str} {nuGr : Str → Int} {kvs : List (Str × D)} (h : Nu kvs names nuGr) : ∀ p ∈ eNu names nuGr, ∃ i, p.2 = .int i ∧ lk kvs p.1 = some (.int i) := fun p hp => by
  obtain ⟨x, hx, rfl⟩ := List.mem_map.mp hp
  exact ⟨nuGr x, rfl, h.at_ x hx⟩
theorem stD_kept (np cp kp : Addr) : putD (stD0 np cp) "kept" (.adr kp) = stD np cp kp 0 false := putD_new (by
  show ¬ ("kept" : Str) ∈ (["numbers", "choices", "at", "steps", "due", "long", "dice", "rounds", "trace", "top"] : List Str)
  decide +kernel)
section
variable {P : Program} {w : World} {K : PySem.W.Frag} {mg : Str → Option Value} {base : Heap} {T C : Addr}
abbrev st_law : Stmt := top 95
abbrev N_law : List Str := ["_law_script", "_law_dice_here", "_law_world_here", "_law_starts_here", "_law_ways", "_law_way", "_law_state_here", "_law_program", "_law_told"]
theorem sc_law : FnScope N_law ["_law_script"] (defScope st_law) := ⟨rfl, rfl, rfl, by decide +kernel, rfl, by decide +kernel, by decide +kernel⟩

theorem ok_law {k : Nat} {fa : Addr} {fd : FuncData} (bl : Blt mg) (F : Fun K "law" "law" st_law fa fd)
    (h__law_dice : Has P w K mg base CX0 "_law_dice" ["_law_script"] (k + 1) (spOf K T S_law_dice))
    (h__law_world : Has P w K mg base CX0 "_law_world" ["_law_dice_here", "_law_many", "_law_amount", "_law_top"] (k + 1) (spOf K T S_law_world))
    (h__law_draw : Has P w K mg base CX0 "_law_draw" ["_law_dice_here", "_law_many"] (k + 1) (spOf K T S_law_draw))
    (h__law_starts : Has P w K mg base CX0 "_law_starts" ["_law_dice_here", "_law_names_here", "_law_top"] (k + 1) (spOf K T S_law_starts))
    (h__law_ways_of : Has P w K mg base CX0 "_law_ways_of" ["_law_block_here", "_law_bodies"] (k + 1) (spOf K T (S_law_ways_of 12)))
    (h__law_state : Has P w K mg base CX0 "_law_state" ["_law_starts_here", "_law_choices", "_law_dice_here", "_law_rounds"] (k + 1) (spOf K T S_law_state))
    (h__law_full_go : Has P w K mg base CX0 "_law_full_go" ["_law_block_here", "_law_bodies", "_law_state_here", "_law_way", "_law_at"] (k + 1) (spOf K T (S_law_full_go 12)))
    (i_Program : HasI P w K mg base CX0 C "Program" ["self", "names", "bodies", "main"] k (spOf K T (S_Program___init__ C 12)))
    (h__law_full : Has P w K mg base CX0 "_law_full" ["_law_program", "_law_way", "_law_starts_here"] (k + 1) (spOf K T (S_law_full C 12)))
    (h__law_turned : Has P w K mg base CX0 "_law_turned" ["_law_dice_here", "_law_starts_here"] (k + 1) (spOf K T S_law_turned)) :
    FnOk P w K mg base CX0 (k + 2) fa fd ["_law_script"] (spOf K T S_law) := by
  refine fnD F sc_law (fun _ _ _ _ h => h.1) fun cdv A outer s H E hr => ?_
  have hu := hu_of hr
  have hu64 := hr.units
  have nd := sc_law.nd
  refine ⟨_, (pss_cons (ps_set (i := 1) nd rfl (Or.inl rfl) (pe_callH h__law_dice hr rfl pass0 (pa_cons (pv 0) pa_nil)))
      (pss_cons (ps_set (i := 2) nd rfl (Or.inl rfl) (pe_callH h__law_world hr rfl pass0 (pa_cons (pv 1) (pa_cons (pe_op (k_plus (K := K) rfl) pe_int (pe_callH h__law_draw hr rfl pass0 (pa_cons (pv 1) (pa_cons pe_int pa_nil)))) (pa_cons pe_int (pa_cons (pe_lst (pa_cons pe_int (pa_cons pe_int pa_nil))) pa_nil))))))
      (pss_cons (ps_set (i := 3) nd rfl (Or.inl rfl) (pe_callH h__law_starts hr rfl pass0 (pa_cons (pv 1) (pa_cons (pe_ix (k_ix (K := K) rfl hu) (pv 2) pe_int (fun _ _ => rfl)) (pa_cons pe_int pa_nil)))))
      (pss_cons (ps_set (i := 4) nd rfl (Or.inl rfl) (pe_callB (k_srtZ (K := K) rfl rfl hu64) rfl bl.sorted bt_sorted (pa_cons (pe_callH h__law_ways_of hr rfl pass0 (pa_cons (pe_ix (k_ix (K := K) rfl hu) (pv 2) pe_int (fun _ _ => rfl)) (pa_cons (pe_ix (k_ix (K := K) rfl hu) (pv 2) pe_int (fun _ _ => rfl)) pa_nil))) pa_nil)))
      (pss_cons (ps_set (i := 5) nd rfl (Or.inl rfl) (pe_ix (k_ix (K := K) rfl hu) (pv 4) (pe_callH h__law_draw hr rfl pass0 (pa_cons (pv 1) (pa_cons (pe_callB (k_len (K := K) rfl) rfl bl.len bt_len (pa_cons (pv 4) pa_nil)) pa_nil))) (fun _ _ => rfl)))
      (pss_cons (ps_set (i := 6) nd rfl (Or.inl rfl) (pe_callH h__law_state hr rfl pass0 (pa_cons (pv 3) (pa_cons (pe_lst pa_nil) (pa_cons pe_non (pa_cons pe_int pa_nil))))))
      (pss_cons (ps_asg (pe_lst pa_nil) (pg_sub (pv 6) pe_str (set_X hu)))
      (pss_cons (ps_expr (pe_callH h__law_full_go hr rfl pass0 (pa_cons (pe_ix (k_ix (K := K) rfl hu) (pv 2) pe_int (fun _ _ => rfl)) (pa_cons (pe_ix (k_ix (K := K) rfl hu) (pv 2) pe_int (fun _ _ => rfl)) (pa_cons (pv 6) (pa_cons (pv 5) (pa_cons pe_int pa_nil)))))))
      (pss_cons (ps_set (i := 7) nd rfl (Or.inl rfl) (pe_makeH i_Program hr rfl pass0 (pa_cons (pe_ix (k_ix (K := K) rfl hu) (pv 2) pe_int (fun _ _ => rfl)) (pa_cons (pe_callTy call_dictD rfl bl.dict bt_dict (pa_cons (pe_ix (k_ix (K := K) rfl hu) (pv 2) pe_int (fun _ _ => rfl)) pa_nil)) (pa_cons (pe_ix (k_ix (K := K) rfl hu) (pv 2) pe_int (fun _ _ => rfl)) pa_nil)))))
      (pss_cons (ps_set (i := 8) nd rfl (Or.inl rfl) (pe_callH h__law_full hr rfl pass0 (pa_cons (pv 7) (pa_cons (pv 5) (pa_cons (pe_callH h__law_turned hr rfl pass0 (pa_cons (pv 1) (pa_cons (pv 3) pa_nil))) pa_nil)))))
      (pss_cons (ps_if (pt_val (pe_ix (k_ix (K := K) rfl hu) (pv 6) pe_str (fun _ _ => rfl)))
        (pss_one (ps_ret (pe_cmpR (k_eqZ (K := K) rfl hu64) (pv 8) (pe_tup (pa_cons pe_str (pa_cons pe_non pa_nil))) (nomark _))))
        pss_nil)
      (pss_cons (ps_if (PW.pt (pw_or (pt_cmpR (k_neZ (K := K) rfl hu64) (pv 8) (pe_tup (pa_cons pe_str (pa_cons (pe_tup (pa_cons (pe_ix (k_ix (K := K) rfl hu) (pv 6) pe_str (fun _ _ => rfl)) (pa_cons (pe_ix (k_ix (K := K) rfl hu) (pv 6) pe_str (fun _ _ => rfl)) pa_nil))) pa_nil))) (nomark _)) (pw_or1 (pt_cmpR (k_neZ (K := K) rfl hu64) (pe_callB (k_srtZ (K := K) rfl rfl hu64) rfl bl.sorted bt_sorted (pa_cons (pe_ix (k_ix (K := K) rfl hu) (pe_ix (k_ix (K := K) rfl hu) (pv 8) pe_int (fun _ _ => rfl)) pe_int (fun _ _ => rfl)) pa_nil)) (pe_callTy (k_list (K := K) rfl rfl) rfl bl.list bt_list (pa_cons (pe_ix (k_ix (K := K) rfl hu) (pv 2) pe_int (fun _ _ => rfl)) pa_nil)) (nomark _)))))
        (pss_one (ps_ret pe_bl))
        pss_nil)
      (pss_cons (ps_if (pt_not (pt_val (pe_callB (k_isi (K := K) rfl) rfl bl.isinstance bt_isinstance (pa_cons (pe_ix (k_ix (K := K) rfl hu) (pe_ix (k_ix (K := K) rfl hu) (pv 8) pe_int (fun _ _ => rfl)) pe_int (fun _ _ => rfl)) (pa_cons (pe_bltn (v := .ty "list") rfl bl.list bt_list rfl) pa_nil)))))
        (pss_one (ps_ret pe_bl))
        pss_nil)
      (pss_cons (ps_asg pe_int (pg_sub (pe_ix (k_ix (K := K) rfl hu) (pe_ix (k_ix (K := K) rfl hu) (pv 8) pe_int (fun _ _ => rfl)) pe_int (fun _ _ => rfl)) (pe_ix (k_ix (K := K) rfl hu) (pe_ix (k_ix (K := K) rfl hu) (pv 2) pe_int (fun _ _ => rfl)) pe_int (fun _ _ => rfl)) (set_X hu)))
      (pss_cons (ps_expr (pe_bm PySem.F.plainAttrs_list PySem.F.slot_list_append PySem.F.type_list_append mt_append (pe_ix (k_ix (K := K) rfl hu) (pe_ix (k_ix (K := K) rfl hu) (pv 8) pe_int (fun _ _ => rfl)) pe_int (fun _ _ => rfl)) (pa_cons pe_int pa_nil)))
      (pss_one (ps_ret (pe_or (pe_cmpR op_gt (pe_ix (k_ix (K := K) rfl hu) (pv 6) pe_str (fun _ _ => rfl)) pe_int (nomark _)) (pe_one (pe_cmpR (k_eqZ (K := K) rfl hu64) (pe_callH h__law_full hr rfl pass0 (pa_cons (pv 7) (pa_cons (pv 5) (pa_cons (pv 3) pa_nil)))) (pe_tup (pa_cons pe_str (pa_cons (pe_tup (pa_cons (pe_ix (k_ix (K := K) rfl hu) (pv 6) pe_str (fun _ _ => rfl)) (pa_cons (pe_ix (k_ix (K := K) rfl hu) (pv 6) pe_str (fun _ _ => rfl)) pa_nil))) pa_nil))) (nomark _))))))))))))))))))))), ?_⟩
  rintro ds w P X ⟨-, is, rfl, rfl, hP⟩
  walk_at "w"
  refine csW ⟨rfl, is, rfl, rfl, fun p d1 hd1 => ?_⟩
  walk_at "w"
  refine csW ⟨rfl, p, d1, 4, rfl, rfl, hd1, by decide, by decide, fun r d2 hr hd2 => ?_⟩
  walk_at "w"
  refine we_lst ?_
  walk_at "w"
  rw [show (1 : Int) + ((r : Nat) : Int) = ((1 + r : Nat) : Int) by omega]
  refine csW ⟨rfl, p, d2, 1 + r, rfl, rfl, hd2, by omega, by omega, fun names W b d3 hW hd3 => ?_⟩
  walk_at "w"
  refine csW ⟨rfl, p, d3, names, rfl, rfl, hd3, hW.nd, hW.nm.2.1, fun nuGr d4 hnuGr hd4 => ?_⟩
  walk_at "w"
  refine cs0 ⟨rfl, b, W.en W.kvs, rfl, rfl, hW.en fun _ _ => rfl, hW.cau, hW.dpu, hW.sh, hW.gd, ?_⟩
  walk_at "w"
  refine rc_sortW (asc_wB _) ?_
  walk_at "w"
  have hwn : 0 < (wB (woB W.fn b)).length := List.length_pos_iff.mpr (wB_ne _ hW.sh)
  have hwl := hW.gd.1
  refine csW ⟨rfl, p, d4, (wB (woB W.fn b)).length, ?_, rfl, hd4, hwn, by omega, fun i d5 hi hd5 => ?_⟩
  · show [D.adr p, .int (((wB (woB W.fn b)).map eWay).length : Nat)] = _
    rw [List.length_map]
  obtain ⟨v, hv, hvi⟩ : ∃ v ∈ wB (woB W.fn b), ((wB (woB W.fn b)).map eWay)[((i : Nat) : Int).toNat]? = some (eWay v) := by
    refine ⟨_, List.getElem_mem hi, ?_⟩
    rw [Int.toNat_natCast, List.getElem?_map, List.getElem?_eq_getElem hi]; rfl
  refine rd_ix_lst (Int.natCast_nonneg _) hvi ?_
  walk_at "w"
  refine we_lst ?_
  walk_at "w"
  refine cs0 ⟨rfl, eNu names nuGr, rfl, rfl, fun sp np cp => ?_⟩
  walk_at "w"
  refine we_lstO ?_
  walk_at "w"
  intro kp
  refine wg_subD ?_
  walk_at "w"
  refine ⟨sp, rfl, ?_⟩
  walk_at "w"
  refine ⟨"kept", rfl, 0, stD0 np cp, rfl, (by
    show (["numbers", "choices", "at", "steps", "due", "long", "dice", "rounds", "trace", "top"] : List Str).Nodup
    decide +kernel), (by show 10 < 10000000; decide), ?_⟩
  rw [stD_kept]
  refine WS.perm (w' := lO ⟨np, sp, cp, kp⟩ ⟨nuGr, 0, []⟩ false (eNu names nuGr) [] ++ dw p d5) ?_ (((List.Perm.swap _ _ _).trans ((((List.Perm.swap _ _ _).cons _).cons _).cons _)).symm)
  have hsz := hW.bk.sz
  walk_at "w"
  refine cpF rfl ⟨rfl, b, W.en W.kvs, ⟨np, sp, cp, kp⟩, ⟨nuGr, 0, []⟩, false, eNu names nuGr, [], eWay v, 0, rfl, rfl, hW.dpu, .inr ⟨rfl, names, 0, [], v, [], by rw [List.append_nil]; rfl, rfl, hW.lgE, hW.cau, hW.lp, hW.lgW,
    ⟨⟨eNu_nu hW.nd hW.nm.2.1, hnuGr, by show 0 + (0 + szB (woB W.fn b)) ≤ 100 * (0 + 1); omega, Nat.zero_le _, eNu_len _ _⟩, fun d hd => (by cases hd), Nat.le_refl _⟩, hv, fun s' kvs' ks' g1 g2 => ?_, fun g1 j s' kvs' ks' => ?_⟩⟩
  · rw [List.append_nil] at g1
    have g1' : runB (woB W.fn b) ⟨nuGr, 0, []⟩ v = some (s', []) := g1
    have hfew := g2.few
    walk_at "w"
    refine we_freeze (we_make ?_)
    walk_at "w"
    refine rc_dict ?_
    walk_at "w"
    intro x
    refine ⟨[(x, .ins C [])], dw p d5 ++ lO ⟨np, sp, cp, kp⟩ s' false kvs' ks', List.perm_append_comm.trans (List.Perm.append_left _ List.perm_append_comm), rfl, x, W, names, b, rfl, rfl, hW.nm, hW.wk, hW.wv, hW.small, hW.main, rfl, 0, x, _, rfl, rfl, ?_⟩
    walk_at "w"
    refine cpF (mine := dw p d5) rfl ⟨rfl, p, d5, names, nuGr, rfl, rfl, hd5, hW.nd, hW.nm.2.1, fun siGr d6 hsiGr hsl hd6 => ?_⟩
    walk_at "w"
    refine cs0 ⟨rfl, names, W, b, W.en W.held, v, siGr, nuGr, rfl, rfl, hW.fr hv hsiGr hnuGr hsl hW.nd, fun s2 k1 k2 a q => ?_, fun k1 => absurd (g1'.symm.trans k1) (by simp)⟩
    obtain rfl : s' = s2 := by
      have := g1'.symm.trans k1
      simpa using this
    walk_at "w"
    refine rd_ix_dctO (d := .bl false) 4 rfl rfl ?_
    walk_at "w"
    refine rd_ix_dctO (d := .adr np) 4 rfl rfl ?_
    walk_at "w"
    refine rd_ix_dctO (d := .adr cp) 4 rfl rfl ?_
    walk_at "w"
    refine fun B H vx vy k er rx ry Q q => .inr ((told_raw (c := false) 0 1 3 5 rfl rfl rfl rfl (by rw [eNu_len]; exact g2.r.sl.symm) (eNu_at g2.r.nu) ?_) B H vx vy k er rx ry Q q)
    walk_at "w"
    refine rc_srtL (rc_sortS_dctO 0 rfl (by rw [eNu_len]; have := hW.nm.2.1; omega) fun ys py hys => ?_)
    rw [eNu_keys] at py
    obtain rfl : ys = names := asc_eq py (sorted_strict hys (py.symm.nodup hW.nd)) hW.nm.2.2.2
    walk_at "w"
    refine rc_list_tup ?_
    walk_at "w"
    refine rd_neL (rd_ne_dat (nms_py _) (nms_py _) (nms_sh hW.nm.2.2.1) (nms_sh hW.nm.2.2.1) ?_)
    have ee : PyData.eqv (DL.py (.lst (ys.map D.str))) (DL.py (.lst (nms ys))) = true := by
      simp only [DL.py, PyData.eqv]
      exact eqv_nms ys
    rw [ee]
    walk_at "w"
    refine rc_isi_lstO 1 rfl rfl ?_
    walk_at "w"
    obtain ⟨y, rest, hy⟩ : ∃ y rest, ys = y :: rest := by
      cases ys with
      | nil => exact absurd hW.nm.1 (by decide)
      | cons y rest => exact ⟨y, rest, rfl⟩
    have hy0 : (nms ys)[(0 : Int).toNat]? = some (.str y) := by rw [hy]; rfl
    refine wg_subD ?_
    walk_at "w"
    refine ⟨a, rfl, ?_⟩
    walk_at "w"
    refine rd_ix_tup (by decide) hy0 ?_
    walk_at "w"
    refine ⟨y, rfl, 0, eNu ys s'.nuGr, rfl, by rw [eNu_keys]; exact hW.nd, by rw [eNu_len]; have := hW.nm.2.1; omega, ?_⟩
    refine ws_seq (ws_drop (we_append ?_))
    walk_at "w"
    refine ⟨_, rfl, ⟨1, _, rfl⟩, ?_⟩
    walk_at "w"
    refine ⟨1, s'.pk.map D.int, rfl, by rw [List.length_map]; omega, ?_⟩
    refine ws_ret (we_trim ?_)
    walk_at "w"
    refine rd_ix_dctO (d := .int s'.n) 4 rfl rfl ?_
    walk_at "w"
    by_cases h5 : (500 : Int) < s'.n
    · refine rd_gt_t h5 ?_
      exact ⟨true, rfl, fun h => (by cases h), fun _ => ⟨[], _, rfl, hP⟩⟩
    · refine rd_gt_f h5 ?_
      refine ⟨false, rfl, fun _ => ?_, fun h => (by cases h)⟩
      walk_at "w"
      refine cs0 ⟨rfl, ys, W, b, W.en W.held, v, eNu ys nuGr, nuGr, rfl, rfl, hW.fr hv (eNu_nu hW.nd hW.nm.2.1) hnuGr (eNu_len _ _) hW.nd, fun s3 k3 k4 a2 q2 => ?_, fun k1 => absurd (g1'.symm.trans k1) (by simp)⟩
      obtain rfl : s' = s3 := by
        have := g1'.symm.trans k3
        simpa using this
      walk_at "w"
      refine rd_ix_dctO (d := .adr np) 6 rfl rfl ?_
      walk_at "w"
      refine rd_ix_dctO (d := .adr cp) 6 rfl rfl ?_
      walk_at "w"
      refine fun B H vx vy k er rx ry Q q => .inr ((told_raw (c := true) 0 1 5 7 rfl rfl rfl rfl (by rw [eNu_len]; exact g2.r.sl.symm) (eNu_at g2.r.nu) ?_) B H vx vy k er rx ry Q q)
      exact ⟨[], _, rfl, hP⟩
  · rw [List.append_nil] at g1
    have g1' : runB (woB W.fn b) ⟨nuGr, 0, []⟩ v = none := g1
    walk_at "w"
    refine we_freeze (we_make ?_)
    walk_at "w"
    refine rc_dict ?_
    walk_at "w"
    intro x
    refine ⟨[(x, .ins C [])], dw p d5 ++ lO ⟨np, sp, cp, kp⟩ s' true kvs' ks', List.perm_append_comm.trans (List.Perm.append_left _ List.perm_append_comm), rfl, x, W, names, b, rfl, rfl, hW.nm, hW.wk, hW.wv, hW.small, hW.main, rfl, 0, x, _, rfl, rfl, ?_⟩
    walk_at "w"
    refine cpF (mine := dw p d5) rfl ⟨rfl, p, d5, names, nuGr, rfl, rfl, hd5, hW.nd, hW.nm.2.1, fun siGr d6 hsiGr hsl hd6 => ?_⟩
    walk_at "w"
    refine cs0 ⟨rfl, names, W, b, W.en W.held, v, siGr, nuGr, rfl, rfl, hW.fr hv hsiGr hnuGr hsl hW.nd, fun s2 k1 k2 a q => absurd (g1'.symm.trans k1) (by simp), fun k1 => ?_⟩
    walk_at "w"
    refine rd_ix_dctO (d := .bl true) 2 rfl rfl ?_
    refine ⟨true, rfl, fun _ => ?_, fun h => (by cases h)⟩
    refine ws_ret (we_trim ?_)
    walk_at "w"
    have hs : SeqAt.shaped (DL.py (.tup [.str "long", .non])) = true := by decide +kernel
    have he : PyData.eqv (DL.py (.tup [.str "long", .non])) (DL.py (.tup [.str "long", .non])) = true := by decide +kernel
    refine rd_eqL (rd_eq_dat rfl rfl hs hs ?_)
    rw [he]
    exact ⟨[], _, rfl, hP⟩
end
end Hw
/-! HwAQ -/
namespace Hw
theorem fun_of {K : PySem.W.Frag} {x q : Str} {st : Stmt} {kws : List (Str × V)} {f : Addr} {fd : FuncData} (F : FunD K x q (defArgs st) (defBody st) (defScope st) [] kws f fd) : Fun K x q st f fd := by
  obtain ⟨⟨oc, od, dV, kV, doc, pm, an, cdv, ct, osl, rfl, lk, hcd, hD, hK⟩, kp⟩ := F
  rcases hD with ⟨_, rfl⟩ | ⟨e, _⟩
  · exact ⟨⟨oc, od, kV, doc, pm, an, cdv, ct, osl, rfl, lk, hcd⟩, kp⟩
  · exact absurd rfl e
theorem defAt_of {K : PySem.W.Frag} {mg : Str → Option Value} {x : Str} {st : Stmt} {ps : List Str} {kws : List (Str × V)} {f : Addr} (F : ∃ fd, FunD K x x (defArgs st) (defBody st) (defScope st) [] kws f fd) (g : mg x = some (.ref f))
    (h : ∀ (kV doc pm : Value) (an : Option Addr) (cdv ct : Value) (us : List Value), us.length = ps.length → bindArgs (PySem.W.fnOf x x (defArgs st) (defBody st) (defScope st) .none kV doc pm an cdv ct) ⟨us, []⟩ = pure (ps.zip us)) : DefAt K mg x st ps := by
  obtain ⟨fd, F⟩ := F
  exact ⟨f, fd, fun_of F, g, F.bindsN h⟩
theorem methAt_of {K : PySem.W.Frag} {C : Addr} {m q : Str} {st : Stmt} {ps : List Str} {kws : List (Str × V)} {f : Addr} (F : ∃ fd, FunD K m q (defArgs st) (defBody st) (defScope st) [] kws f fd) (g : Meth K C m f)
    (h : ∀ (kV doc pm : Value) (an : Option Addr) (cdv ct : Value) (us : List Value), us.length = ps.length → bindArgs (PySem.W.fnOf m q (defArgs st) (defBody st) (defScope st) .none kV doc pm an cdv ct) ⟨us, []⟩ = pure (ps.zip us)) : MethAt K C m q st ps := by
  obtain ⟨fd, F⟩ := F
  exact ⟨f, fd, fun_of F, g, F.bindsN h⟩
theorem initAt_of {K : PySem.W.Frag} {mg : Str → Option Value} {C : Addr} {x q : Str} {st : Stmt} {ps : List Str} {kws : List (Str × V)} {f : Addr} (F : ∃ fd, FunD K "__init__" q (defArgs st) (defBody st) (defScope st) [] kws f fd) (g : mg x = some (.ref C)) (k : Mk K C f)
    (h : ∀ (kV doc pm : Value) (an : Option Addr) (cdv ct : Value) (us : List Value), us.length = ps.length → bindArgs (PySem.W.fnOf "__init__" q (defArgs st) (defBody st) (defScope st) .none kV doc pm an cdv ct) ⟨us, []⟩ = pure (ps.zip us)) : InitAt K mg C x q st ps := by
  obtain ⟨fd, F⟩ := F
  exact ⟨f, fd, fun_of F, g, k, F.bindsN h⟩
theorem hasI_mono {P : Program} {w : World} {K : PySem.W.Frag} {mg : Str → Option Value} {base : Heap} {CX : CXT} {C : Addr} {x : Str} {ps : List Str} {j k : Nat} {S : Sp} (h : HasI P w K mg base CX C x ps j S) (l : j ≤ k) : HasI P w K mg base CX C x ps k S := let ⟨f, fd, a, b, c, G⟩ := h; ⟨f, fd, a, b, c, G.mono l⟩
theorem reps_of {K : PySem.W.Frag} {B : Hp} {alGr : Type} (f : alGr → V) (g : alGr → D) (h : ∀ x, Rep K B (f x) (g x)) : ∀ l : List alGr, Reps K B (l.map f) (l.map g)
  | [] => .nil
  | x :: l => .cons (h x) (reps_of f g h l)
/-- what the head tells -/
structure Fx (K : PySem.W.Frag) (mg : Str → Option Value) (T C Cd : Addr) : Prop where
  bl : Blt mg
  tl : ExcAt K mg "TooLong" T
  ex : PySem.W.exmOne K (.ref T) (.ref T) = some true
  df : DoF K Cd
  cl : Cls K C
  na1 : NoAttr K C "names"
  na2 : NoAttr K C "held"
  na3 : NoAttr K C "main"
  c_MOST_TERMS : HasC K mg "MOST_TERMS" cd_MOST_TERMS
  c_MOST_COEFFICIENT : HasC K mg "MOST_COEFFICIENT" cd_MOST_COEFFICIENT
  c_MOST_DEGREE : HasC K mg "MOST_DEGREE" cd_MOST_DEGREE
  c_MOST_WORDS : HasC K mg "MOST_WORDS" cd_MOST_WORDS
  c_MOST_STATEMENTS : HasC K mg "MOST_STATEMENTS" cd_MOST_STATEMENTS
  c_MOST_ROWS : HasC K mg "MOST_ROWS" cd_MOST_ROWS
  c_MOST_DEEP : HasC K mg "MOST_DEEP" cd_MOST_DEEP
  c_MOST_LOOPS : HasC K mg "MOST_LOOPS" cd_MOST_LOOPS
  c_MOST_WAYS : HasC K mg "MOST_WAYS" cd_MOST_WAYS
  c_MOST_NAMES : HasC K mg "MOST_NAMES" cd_MOST_NAMES
  c_MOST_STEPS : HasC K mg "MOST_STEPS" cd_MOST_STEPS
  c_ROUNDS : HasC K mg "ROUNDS" cd_ROUNDS
  c_ROWS : HasC K mg "ROWS" cd_ROWS
  c_ORDERS_OF_TWO : HasC K mg "ORDERS_OF_TWO" cd_ORDERS_OF_TWO
  c_ORDERS_OF_THREE : HasC K mg "ORDERS_OF_THREE" cd_ORDERS_OF_THREE
  d_is_integer : DefAt K mg "is_integer" st_is_integer ["thing"]
  d_is_pair : DefAt K mg "is_pair" st_is_pair ["thing"]
  d_is_number : DefAt K mg "is_number" st_is_number ["thing", "low", "high"]
  d_is_letter : DefAt K mg "is_letter" st_is_letter ["thing", "letters"]
  d_is_name : DefAt K mg "is_name" st_is_name ["thing"]
  d_sum_of_powers : DefAt K mg "sum_of_powers" st_sum_of_powers ["product"]
  d_is_product : DefAt K mg "is_product" st_is_product ["thing", "letters"]
  d_is_term : DefAt K mg "is_term" st_is_term ["thing", "names"]
  d_is_sum : DefAt K mg "is_sum" st_is_sum ["thing", "letters"]
  d_is_terms : DefAt K mg "is_terms" st_is_terms ["thing", "names"]
  d_is_row_statement : DefAt K mg "is_row_statement" st_is_row_statement ["thing", "names", "sets"]
  d_is_block : DefAt K mg "is_block" st_is_block ["thing", "names", "words", "sets"]
  d_is_blocks : DefAt K mg "is_blocks" st_is_blocks ["thing", "names", "words", "sets"]
  d_is_statement : DefAt K mg "is_statement" st_is_statement ["thing", "names", "words", "sets"]
  d_joined : DefAt K mg "joined" st_joined ["parts"]
  d_measure : DefAt K mg "measure" st_measure ["block", "bodies"]
  d_statement_measure : DefAt K mg "statement_measure" st_statement_measure ["statement", "bodies"]
  d_body_measures : DefAt K mg "body_measures" st_body_measures ["bodies"]
  d_is_names : DefAt K mg "is_names" st_is_names ["thing", "least", "most"]
  d_are_bodies : DefAt K mg "are_bodies" st_are_bodies ["bodies", "names"]
  d_is_main : DefAt K mg "is_main" st_is_main ["main", "names", "bodies"]
  d_Program___init__ : InitAt K mg C "Program" "Program.__init__" st_Program___init__ ["self", "names", "bodies", "main"]
  d_power : DefAt K mg "power" st_power ["number", "times"]
  d_greatest_number : DefAt K mg "greatest_number" st_greatest_number []
  d_value : DefAt K mg "value" st_value ["product", "numbers"]
  d_total : DefAt K mg "total" st_total ["terms", "numbers"]
  d_changed : DefAt K mg "changed" st_changed ["row", "numbers"]
  d_orders_of : DefAt K mg "orders_of" st_orders_of ["many"]
  d_both_behind : DefAt K mg "both_behind" st_both_behind ["ones", "others"]
  d_block_ways : DefAt K mg "block_ways" st_block_ways ["block"]
  d_statement_ways : DefAt K mg "statement_ways" st_statement_ways ["statement"]
  d_written_out : DefAt K mg "written_out" st_written_out ["block", "bodies"]
  d_prepared : DefAt K mg "prepared" st_prepared ["block"]
  d_follow : DefAt K mg "follow" st_follow ["block", "bodies", "way", "at"]
  d_follow_choice : DefAt K mg "follow_choice" st_follow_choice ["statement", "bodies", "way", "at"]
  d_straight : DefAt K mg "straight" st_straight ["program", "way"]
  d_is_way : DefAt K mg "is_way" st_is_way ["program", "thing"]
  d_Doing_one_step : MethAt K Cd "one_step" "Doing.one_step" st_Doing_one_step ["self"]
  d_Doing_do_row : MethAt K Cd "do_row" "Doing.do_row" st_Doing_do_row ["self", "row"]
  d_Doing_do_loop : MethAt K Cd "do_loop" "Doing.do_loop" st_Doing_do_loop ["self", "statement"]
  d_Doing_do_block : MethAt K Cd "do_block" "Doing.do_block" st_Doing_do_block ["self", "block", "way", "at"]
  d_check_starts : DefAt K mg "check_starts" st_check_starts ["program", "starts"]
  d_in_order : DefAt K mg "in_order" st_in_order ["program", "numbers"]
  d_Doing___init__ : InitAt K mg Cd "Doing" "Doing.__init__" st_Doing___init__ ["self", "starts"]
  d_full_run : DefAt K mg "full_run" st_full_run ["program", "way", "starts"]
  d_law_dice : DefAt K mg "_law_dice" st_law_dice ["_law_script"]
  d_law_draw : DefAt K mg "_law_draw" st_law_draw ["_law_dice_here", "_law_many"]
  d_law_word : DefAt K mg "_law_word" st_law_word ["_law_dice_here", "_law_most"]
  d_law_names : DefAt K mg "_law_names" st_law_names ["_law_dice_here", "_law_many"]
  d_law_product : DefAt K mg "_law_product" st_law_product ["_law_dice_here", "_law_names_here", "_law_most"]
  d_law_row : DefAt K mg "_law_row" st_law_row ["_law_dice_here", "_law_names_here", "_law_sets", "_law_top"]
  d_law_block : DefAt K mg "_law_block" st_law_block ["_law_dice_here", "_law_names_here", "_law_words", "_law_room", "_law_deep", "_law_loops_here", "_law_sets", "_law_top", "_law_most"]
  d_law_statement : DefAt K mg "_law_statement" st_law_statement ["_law_dice_here", "_law_names_here", "_law_words", "_law_room", "_law_deep", "_law_loops_here", "_law_sets", "_law_top"]
  d_law_loops : DefAt K mg "_law_loops" st_law_loops ["_law_block_here", "_law_held"]
  d_law_starts : DefAt K mg "_law_starts" st_law_starts ["_law_dice_here", "_law_names_here", "_law_top"]
  d_law_turned : DefAt K mg "_law_turned" st_law_turned ["_law_dice_here", "_law_starts_here"]
  d_law_orders : DefAt K mg "_law_orders" st_law_orders ["_law_many"]
  d_law_worth : DefAt K mg "_law_worth" st_law_worth ["_law_terms", "_law_numbers"]
  d_law_do : DefAt K mg "_law_do" st_law_do ["_law_row_here", "_law_numbers"]
  d_law_step : DefAt K mg "_law_step" st_law_step ["_law_state_here"]
  d_law_row_done : DefAt K mg "_law_row_done" st_law_row_done ["_law_row_here", "_law_state_here"]
  d_law_state : DefAt K mg "_law_state" st_law_state ["_law_starts_here", "_law_choices", "_law_dice_here", "_law_rounds"]
  d_law_ways_of : DefAt K mg "_law_ways_of" st_law_ways_of ["_law_block_here", "_law_bodies"]
  d_law_ways_kept : DefAt K mg "_law_ways_kept" st_law_ways_kept ["_law_block_here", "_law_bodies", "_law_state_here"]
  d_law_full_choose : DefAt K mg "_law_full_choose" st_law_full_choose ["_law_statement_here", "_law_bodies", "_law_state_here", "_law_way", "_law_at"]
  d_law_full_go : DefAt K mg "_law_full_go" st_law_full_go ["_law_block_here", "_law_bodies", "_law_state_here", "_law_way", "_law_at"]
  d_law_full : DefAt K mg "_law_full" st_law_full ["_law_program", "_law_way", "_law_starts_here"]
  d_law_sum : DefAt K mg "_law_sum" st_law_sum ["_law_dice_here", "_law_names_here", "_law_terms", "_law_most", "_law_top"]
  d_law_world : DefAt K mg "_law_world" st_law_world ["_law_dice_here", "_law_many", "_law_amount", "_law_top"]
section
variable {h : Heap} {K : PySem.W.Frag} {mg : Str → Option Value}
theorem ints_at {mg : Str → Option Value} {K : PySem.W.Frag} {x : Str} {i : Int} (h : ∃ t, mg x = some (.int i t)) : HasC K mg x (.int i) := by
  obtain ⟨t, h⟩ := h
  exact ⟨.int i, .int i t, h, ⟨t, rfl⟩, fun B => .int i⟩
theorem strs_at {mg : Str → Option Value} {K : PySem.W.Frag} {x z : Str} (h : ∃ t, mg x = some (.str z t)) : HasC K mg x (.str z) := by
  obtain ⟨t, h⟩ := h
  exact ⟨.str z, .str z t, h, ⟨t, rfl⟩, fun B => .str z⟩
theorem ord_at {x : Str} {n : Nat} (g : mg x = some (.ref (He.ga K x))) (h : Hd.ordB K x (ordN n) = true) : HasC K mg x (.tup ((ordN n).map eWay)) := by
  refine ⟨.ref (He.ga K x), _, g, rfl, fun B => ?_⟩
  obtain ⟨h1, h2⟩ := He.ba h
  have h3 := List.all_eq_true.mp h2
  refine .tup (Hd.tupA_ok h1 B) ?_
  have e : (ordN n).map eWay = (List.range (ordN n).length).map fun i => eWay ((ordN n).getD i []) := by
    refine List.ext_getElem (by simp) fun i a b => ?_
    simp at a
    simp [List.getD, a]
  rw [e]
  have key : ∀ l : List Nat, (∀ i ∈ l, i < (ordN n).length) → Reps K B (l.map fun i => V.ref (Hd.itemA K (He.ga K x) i)) (l.map fun i => eWay ((ordN n).getD i [])) := by
    intro l
    induction l with
    | nil => intro _; exact .nil
    | cons i l ih =>
      intro hl
      refine .cons ?_ (ih fun j hj => hl j (List.mem_cons_of_mem _ hj))
      have := h3 i (List.mem_range.mpr (hl i (by simp)))
      exact .tup (Hd.tupA_ok this B) (reps_of (fun k : Nat => V.int (k : Int)) (fun k : Nat => D.int (k : Int)) (fun k => .int _) _)
  exact key _ fun i hi => List.mem_range.mp hi
theorem fx (X : K.In h) (G : h.Ns mainGlobals mg) (d : He.SaysD Hd.fa Hd.fn K) (more : Hd.ex K = true) : Fx K mg (He.ga K "TooLong") (He.ga K "Program") (He.ga K "Doing") := by
  obtain ⟨r1, r2⟩ := He.ba more
  obtain ⟨r2, r3⟩ := He.ba r2
  obtain ⟨e1, e2, e3, e4⟩ := He.exc_ok (d.fact 115 (f := .exc "TooLong") rfl)
  exact {
    bl := {
      len := He.free_ok X G (d.fact 67 (f := .free "len") rfl)
      isinstance := He.free_ok X G (d.fact 68 (f := .free "isinstance") rfl)
      all := He.free_ok X G (d.fact 69 (f := .free "all") rfl)
      any := He.free_ok X G (d.fact 70 (f := .free "any") rfl)
      sum := He.free_ok X G (d.fact 71 (f := .free "sum") rfl)
      max := He.free_ok X G (d.fact 72 (f := .free "max") rfl)
      min := He.free_ok X G (d.fact 73 (f := .free "min") rfl)
      abs := He.free_ok X G (d.fact 74 (f := .free "abs") rfl)
      int := He.free_ok X G (d.fact 75 (f := .free "int") rfl)
      bool := He.free_ok X G (d.fact 76 (f := .free "bool") rfl)
      str := He.free_ok X G (d.fact 77 (f := .free "str") rfl)
      tuple := He.free_ok X G (d.fact 78 (f := .free "tuple") rfl)
      list := He.free_ok X G (d.fact 79 (f := .free "list") rfl)
      dict := He.free_ok X G (d.fact 80 (f := .free "dict") rfl)
      sorted := He.free_ok X G (d.fact 81 (f := .free "sorted") rfl)
      reversed := He.free_ok X G (d.fact 82 (f := .free "reversed") rfl)
      range := He.free_ok X G (d.fact 83 (f := .free "range") rfl)
      enumerate := He.free_ok X G (d.fact 84 (f := .free "enumerate") rfl)
    }
    tl := ⟨⟨_, _, _, _, PySem.F.excBase_ValueError, e1⟩, He.glo_ok X G (d.fact 66 (f := .glo "TooLong") rfl), e2, e3, e4⟩
    ex := He.exm_ok (d.fact 116 (f := .exm "TooLong" "TooLong" true) rfl)
    df := ⟨He.cls_ok (d.fact 100 (f := .cls "Doing") rfl), He.noat_ok (d.fact 104 (f := .noat "Doing" "held") rfl), He.noat_ok (d.fact 105 (f := .noat "Doing" "count") rfl), He.noat_ok (d.fact 106 (f := .noat "Doing" "picks") rfl), He.noat_ok (d.fact 107 (f := .noat "Doing" "most") rfl)⟩
    cl := He.cls_ok (d.fact 101 (f := .cls "Program") rfl)
    na1 := He.noat_ok (d.fact 110 (f := .noat "Program" "names") rfl)
    na2 := He.noat_ok (d.fact 108 (f := .noat "Program" "held") rfl)
    na3 := He.noat_ok (d.fact 109 (f := .noat "Program" "main") rfl)
    c_MOST_TERMS := ints_at (He.int_ok X G (d.fact 89 (f := .int "MOST_TERMS" 3) rfl))
    c_MOST_COEFFICIENT := ints_at (He.int_ok X G (d.fact 88 (f := .int "MOST_COEFFICIENT" 9) rfl))
    c_MOST_DEGREE := ints_at (He.int_ok X G (d.fact 87 (f := .int "MOST_DEGREE" 3) rfl))
    c_MOST_WORDS := ints_at (He.int_ok X G (d.fact 86 (f := .int "MOST_WORDS" 4) rfl))
    c_MOST_STATEMENTS := ints_at (He.int_ok X G (d.fact 90 (f := .int "MOST_STATEMENTS" 40) rfl))
    c_MOST_ROWS := ints_at (He.int_ok X G (d.fact 91 (f := .int "MOST_ROWS" 12) rfl))
    c_MOST_DEEP := ints_at (He.int_ok X G (d.fact 92 (f := .int "MOST_DEEP" 8) rfl))
    c_MOST_LOOPS := ints_at (He.int_ok X G (d.fact 93 (f := .int "MOST_LOOPS" 2) rfl))
    c_MOST_WAYS := ints_at (He.int_ok X G (d.fact 94 (f := .int "MOST_WAYS" 24) rfl))
    c_MOST_NAMES := ints_at (He.int_ok X G (d.fact 85 (f := .int "MOST_NAMES" 4) rfl))
    c_MOST_STEPS := ints_at (He.int_ok X G (d.fact 95 (f := .int "MOST_STEPS" 10000) rfl))
    c_ROUNDS := strs_at (He.str_ok X G (d.fact 96 (f := .str "ROUNDS" "#") rfl))
    c_ROWS := ⟨.ref (He.ga K "ROWS"), _, He.glo_ok X G (d.fact 97 (f := .glo "ROWS") rfl), rfl, fun B => .tup (Hd.tupA_ok r1 B) (.cons (.str _) (.cons (.str _) (.cons (.str _) .nil)))⟩
    c_ORDERS_OF_TWO := ord_at (n := 2) (He.glo_ok X G (d.fact 98 (f := .glo "ORDERS_OF_TWO") rfl)) r2
    c_ORDERS_OF_THREE := ord_at (n := 3) (He.glo_ok X G (d.fact 99 (f := .glo "ORDERS_OF_THREE") rfl)) r3
    d_is_integer := defAt_of (d.def_ 33 (d := Hd.d_is_integer) rfl) (He.glo_ok X G (d.fact 33 (f := .glo "is_integer") rfl)) (fun _ _ _ _ _ _ us hl => match us, hl with | [_], _ => rfl)
    d_is_pair := defAt_of (d.def_ 31 (d := Hd.d_is_pair) rfl) (He.glo_ok X G (d.fact 31 (f := .glo "is_pair") rfl)) (fun _ _ _ _ _ _ us hl => match us, hl with | [_], _ => rfl)
    d_is_number := defAt_of (d.def_ 49 (d := Hd.d_is_number) rfl) (He.glo_ok X G (d.fact 49 (f := .glo "is_number") rfl)) (fun _ _ _ _ _ _ us hl => match us, hl with | [_, _, _], _ => rfl)
    d_is_letter := defAt_of (d.def_ 32 (d := Hd.d_is_letter) rfl) (He.glo_ok X G (d.fact 32 (f := .glo "is_letter") rfl)) (fun _ _ _ _ _ _ us hl => match us, hl with | [_, _], _ => rfl)
    d_is_name := defAt_of (d.def_ 22 (d := Hd.d_is_name) rfl) (He.glo_ok X G (d.fact 22 (f := .glo "is_name") rfl)) (fun _ _ _ _ _ _ us hl => match us, hl with | [_], _ => rfl)
    d_sum_of_powers := defAt_of (d.def_ 35 (d := Hd.d_sum_of_powers) rfl) (He.glo_ok X G (d.fact 35 (f := .glo "sum_of_powers") rfl)) (fun _ _ _ _ _ _ us hl => match us, hl with | [_], _ => rfl)
    d_is_product := defAt_of (d.def_ 34 (d := Hd.d_is_product) rfl) (He.glo_ok X G (d.fact 34 (f := .glo "is_product") rfl)) (fun _ _ _ _ _ _ us hl => match us, hl with | [_, _], _ => rfl)
    d_is_term := defAt_of (d.def_ 36 (d := Hd.d_is_term) rfl) (He.glo_ok X G (d.fact 36 (f := .glo "is_term") rfl)) (fun _ _ _ _ _ _ us hl => match us, hl with | [_, _], _ => rfl)
    d_is_sum := defAt_of (d.def_ 37 (d := Hd.d_is_sum) rfl) (He.glo_ok X G (d.fact 37 (f := .glo "is_sum") rfl)) (fun _ _ _ _ _ _ us hl => match us, hl with | [_, _], _ => rfl)
    d_is_terms := defAt_of (d.def_ 38 (d := Hd.d_is_terms) rfl) (He.glo_ok X G (d.fact 38 (f := .glo "is_terms") rfl)) (fun _ _ _ _ _ _ us hl => match us, hl with | [_, _], _ => rfl)
    d_is_row_statement := defAt_of (d.def_ 39 (d := Hd.d_is_row_statement) rfl) (He.glo_ok X G (d.fact 39 (f := .glo "is_row_statement") rfl)) (fun _ _ _ _ _ _ us hl => match us, hl with | [_, _, _], _ => rfl)
    d_is_block := defAt_of (d.def_ 41 (d := Hd.d_is_block) rfl) (He.glo_ok X G (d.fact 41 (f := .glo "is_block") rfl)) (fun _ _ _ _ _ _ us hl => match us, hl with | [_, _, _, _], _ => rfl)
    d_is_blocks := defAt_of (d.def_ 30 (d := Hd.d_is_blocks) rfl) (He.glo_ok X G (d.fact 30 (f := .glo "is_blocks") rfl)) (fun _ _ _ _ _ _ us hl => match us, hl with | [_, _, _, _], _ => rfl)
    d_is_statement := defAt_of (d.def_ 40 (d := Hd.d_is_statement) rfl) (He.glo_ok X G (d.fact 40 (f := .glo "is_statement") rfl)) (fun _ _ _ _ _ _ us hl => match us, hl with | [_, _, _, _], _ => rfl)
    d_joined := defAt_of (d.def_ 26 (d := Hd.d_joined) rfl) (He.glo_ok X G (d.fact 26 (f := .glo "joined") rfl)) (fun _ _ _ _ _ _ us hl => match us, hl with | [_], _ => rfl)
    d_measure := defAt_of (d.def_ 28 (d := Hd.d_measure) rfl) (He.glo_ok X G (d.fact 28 (f := .glo "measure") rfl)) (fun _ _ _ _ _ _ us hl => match us, hl with | [_, _], _ => rfl)
    d_statement_measure := defAt_of (d.def_ 27 (d := Hd.d_statement_measure) rfl) (He.glo_ok X G (d.fact 27 (f := .glo "statement_measure") rfl)) (fun _ _ _ _ _ _ us hl => match us, hl with | [_, _], _ => rfl)
    d_body_measures := defAt_of (d.def_ 29 (d := Hd.d_body_measures) rfl) (He.glo_ok X G (d.fact 29 (f := .glo "body_measures") rfl)) (fun _ _ _ _ _ _ us hl => match us, hl with | [_], _ => rfl)
    d_is_names := defAt_of (d.def_ 23 (d := Hd.d_is_names) rfl) (He.glo_ok X G (d.fact 23 (f := .glo "is_names") rfl)) (fun _ _ _ _ _ _ us hl => match us, hl with | [_, _, _], _ => rfl)
    d_are_bodies := defAt_of (d.def_ 42 (d := Hd.d_are_bodies) rfl) (He.glo_ok X G (d.fact 42 (f := .glo "are_bodies") rfl)) (fun _ _ _ _ _ _ us hl => match us, hl with | [_, _], _ => rfl)
    d_is_main := defAt_of (d.def_ 43 (d := Hd.d_is_main) rfl) (He.glo_ok X G (d.fact 43 (f := .glo "is_main") rfl)) (fun _ _ _ _ _ _ us hl => match us, hl with | [_, _, _], _ => rfl)
    d_Program___init__ := initAt_of (d.def_ 65 (d := Hd.d_Program___init__) rfl) (He.glo_ok X G (d.fact 65 (f := .glo "Program") rfl)) (He.mkr_ok (d.fact 103 (f := .mkr "Program") rfl)) (fun _ _ _ _ _ _ us hl => match us, hl with | [_, _, _, _], _ => rfl)
    d_power := defAt_of (d.def_ 24 (d := Hd.d_power) rfl) (He.glo_ok X G (d.fact 24 (f := .glo "power") rfl)) (fun _ _ _ _ _ _ us hl => match us, hl with | [_, _], _ => rfl)
    d_greatest_number := defAt_of (d.def_ 25 (d := Hd.d_greatest_number) rfl) (He.glo_ok X G (d.fact 25 (f := .glo "greatest_number") rfl)) (fun _ _ _ _ _ _ us hl => match us, hl with | [], _ => rfl)
    d_value := defAt_of (d.def_ 45 (d := Hd.d_value) rfl) (He.glo_ok X G (d.fact 45 (f := .glo "value") rfl)) (fun _ _ _ _ _ _ us hl => match us, hl with | [_, _], _ => rfl)
    d_total := defAt_of (d.def_ 46 (d := Hd.d_total) rfl) (He.glo_ok X G (d.fact 46 (f := .glo "total") rfl)) (fun _ _ _ _ _ _ us hl => match us, hl with | [_, _], _ => rfl)
    d_changed := defAt_of (d.def_ 47 (d := Hd.d_changed) rfl) (He.glo_ok X G (d.fact 47 (f := .glo "changed") rfl)) (fun _ _ _ _ _ _ us hl => match us, hl with | [_, _], _ => rfl)
    d_orders_of := defAt_of (d.def_ 48 (d := Hd.d_orders_of) rfl) (He.glo_ok X G (d.fact 48 (f := .glo "orders_of") rfl)) (fun _ _ _ _ _ _ us hl => match us, hl with | [_], _ => rfl)
    d_both_behind := defAt_of (d.def_ 54 (d := Hd.d_both_behind) rfl) (He.glo_ok X G (d.fact 54 (f := .glo "both_behind") rfl)) (fun _ _ _ _ _ _ us hl => match us, hl with | [_, _], _ => rfl)
    d_block_ways := defAt_of (d.def_ 56 (d := Hd.d_block_ways) rfl) (He.glo_ok X G (d.fact 56 (f := .glo "block_ways") rfl)) (fun _ _ _ _ _ _ us hl => match us, hl with | [_], _ => rfl)
    d_statement_ways := defAt_of (d.def_ 55 (d := Hd.d_statement_ways) rfl) (He.glo_ok X G (d.fact 55 (f := .glo "statement_ways") rfl)) (fun _ _ _ _ _ _ us hl => match us, hl with | [_], _ => rfl)
    d_written_out := defAt_of (d.def_ 59 (d := Hd.d_written_out) rfl) (He.glo_ok X G (d.fact 59 (f := .glo "written_out") rfl)) (fun _ _ _ _ _ _ us hl => match us, hl with | [_, _], _ => rfl)
    d_prepared := defAt_of (d.def_ 57 (d := Hd.d_prepared) rfl) (He.glo_ok X G (d.fact 57 (f := .glo "prepared") rfl)) (fun _ _ _ _ _ _ us hl => match us, hl with | [_], _ => rfl)
    d_follow := defAt_of (d.def_ 51 (d := Hd.d_follow) rfl) (He.glo_ok X G (d.fact 51 (f := .glo "follow") rfl)) (fun _ _ _ _ _ _ us hl => match us, hl with | [_, _, _, _], _ => rfl)
    d_follow_choice := defAt_of (d.def_ 50 (d := Hd.d_follow_choice) rfl) (He.glo_ok X G (d.fact 50 (f := .glo "follow_choice") rfl)) (fun _ _ _ _ _ _ us hl => match us, hl with | [_, _, _, _], _ => rfl)
    d_straight := defAt_of (d.def_ 52 (d := Hd.d_straight) rfl) (He.glo_ok X G (d.fact 52 (f := .glo "straight") rfl)) (fun _ _ _ _ _ _ us hl => match us, hl with | [_, _], _ => rfl)
    d_is_way := defAt_of (d.def_ 53 (d := Hd.d_is_way) rfl) (He.glo_ok X G (d.fact 53 (f := .glo "is_way") rfl)) (fun _ _ _ _ _ _ us hl => match us, hl with | [_, _], _ => rfl)
    d_Doing_one_step := methAt_of (d.def_ 66 (d := Hd.d_Doing_one_step) rfl) (He.meth_ok (d.fact 111 (f := .meth "Doing" "one_step") rfl)) (fun _ _ _ _ _ _ us hl => match us, hl with | [_], _ => rfl)
    d_Doing_do_row := methAt_of (d.def_ 67 (d := Hd.d_Doing_do_row) rfl) (He.meth_ok (d.fact 112 (f := .meth "Doing" "do_row") rfl)) (fun _ _ _ _ _ _ us hl => match us, hl with | [_, _], _ => rfl)
    d_Doing_do_loop := methAt_of (d.def_ 68 (d := Hd.d_Doing_do_loop) rfl) (He.meth_ok (d.fact 113 (f := .meth "Doing" "do_loop") rfl)) (fun _ _ _ _ _ _ us hl => match us, hl with | [_, _], _ => rfl)
    d_Doing_do_block := methAt_of (d.def_ 69 (d := Hd.d_Doing_do_block) rfl) (He.meth_ok (d.fact 114 (f := .meth "Doing" "do_block") rfl)) (fun _ _ _ _ _ _ us hl => match us, hl with | [_, _, _, _], _ => rfl)
    d_check_starts := defAt_of (d.def_ 44 (d := Hd.d_check_starts) rfl) (He.glo_ok X G (d.fact 44 (f := .glo "check_starts") rfl)) (fun _ _ _ _ _ _ us hl => match us, hl with | [_, _], _ => rfl)
    d_in_order := defAt_of (d.def_ 58 (d := Hd.d_in_order) rfl) (He.glo_ok X G (d.fact 58 (f := .glo "in_order") rfl)) (fun _ _ _ _ _ _ us hl => match us, hl with | [_, _], _ => rfl)
    d_Doing___init__ := initAt_of (d.def_ 64 (d := Hd.d_Doing___init__) rfl) (He.glo_ok X G (d.fact 64 (f := .glo "Doing") rfl)) (He.mkr_ok (d.fact 102 (f := .mkr "Doing") rfl)) (fun _ _ _ _ _ _ us hl => match us, hl with | [_, _], _ => rfl)
    d_full_run := defAt_of (d.def_ 60 (d := Hd.d_full_run) rfl) (He.glo_ok X G (d.fact 60 (f := .glo "full_run") rfl)) (fun _ _ _ _ _ _ us hl => match us, hl with | [_, _, _], _ => rfl)
    d_law_dice := defAt_of (d.def_ 0 (d := Hd.d_law_dice) rfl) (He.glo_ok X G (d.fact 0 (f := .glo "_law_dice") rfl)) (fun _ _ _ _ _ _ us hl => match us, hl with | [_], _ => rfl)
    d_law_draw := defAt_of (d.def_ 1 (d := Hd.d_law_draw) rfl) (He.glo_ok X G (d.fact 1 (f := .glo "_law_draw") rfl)) (fun _ _ _ _ _ _ us hl => match us, hl with | [_, _], _ => rfl)
    d_law_word := defAt_of (d.def_ 2 (d := Hd.d_law_word) rfl) (He.glo_ok X G (d.fact 2 (f := .glo "_law_word") rfl)) (fun _ _ _ _ _ _ us hl => match us, hl with | [_, _], _ => rfl)
    d_law_names := defAt_of (d.def_ 3 (d := Hd.d_law_names) rfl) (He.glo_ok X G (d.fact 3 (f := .glo "_law_names") rfl)) (fun _ _ _ _ _ _ us hl => match us, hl with | [_, _], _ => rfl)
    d_law_product := defAt_of (d.def_ 4 (d := Hd.d_law_product) rfl) (He.glo_ok X G (d.fact 4 (f := .glo "_law_product") rfl)) (fun _ _ _ _ _ _ us hl => match us, hl with | [_, _, _], _ => rfl)
    d_law_row := defAt_of (d.def_ 6 (d := Hd.d_law_row) rfl) (He.glo_ok X G (d.fact 6 (f := .glo "_law_row") rfl)) (fun _ _ _ _ _ _ us hl => match us, hl with | [_, _, _, _], _ => rfl)
    d_law_block := defAt_of (d.def_ 8 (d := Hd.d_law_block) rfl) (He.glo_ok X G (d.fact 8 (f := .glo "_law_block") rfl)) (fun _ _ _ _ _ _ us hl => match us, hl with | [_, _, _, _, _, _, _, _, _], _ => rfl)
    d_law_statement := defAt_of (d.def_ 7 (d := Hd.d_law_statement) rfl) (He.glo_ok X G (d.fact 7 (f := .glo "_law_statement") rfl)) (fun _ _ _ _ _ _ us hl => match us, hl with | [_, _, _, _, _, _, _, _], _ => rfl)
    d_law_loops := defAt_of (d.def_ 9 (d := Hd.d_law_loops) rfl) (He.glo_ok X G (d.fact 9 (f := .glo "_law_loops") rfl)) (fun _ _ _ _ _ _ us hl => match us, hl with | [_, _], _ => rfl)
    d_law_starts := defAt_of (d.def_ 11 (d := Hd.d_law_starts) rfl) (He.glo_ok X G (d.fact 11 (f := .glo "_law_starts") rfl)) (fun _ _ _ _ _ _ us hl => match us, hl with | [_, _, _], _ => rfl)
    d_law_turned := defAt_of (d.def_ 62 (d := Hd.d_law_turned) rfl) (He.glo_ok X G (d.fact 62 (f := .glo "_law_turned") rfl)) (fun _ _ _ _ _ _ us hl => match us, hl with | [_, _], _ => rfl)
    d_law_orders := defAt_of (d.def_ 13 (d := Hd.d_law_orders) rfl) (He.glo_ok X G (d.fact 13 (f := .glo "_law_orders") rfl)) (fun _ _ _ _ _ _ us hl => match us, hl with | [_], _ => rfl)
    d_law_worth := defAt_of (d.def_ 18 (d := Hd.d_law_worth) rfl) (He.glo_ok X G (d.fact 18 (f := .glo "_law_worth") rfl)) (fun _ _ _ _ _ _ us hl => match us, hl with | [_, _], _ => rfl)
    d_law_do := defAt_of (d.def_ 19 (d := Hd.d_law_do) rfl) (He.glo_ok X G (d.fact 19 (f := .glo "_law_do") rfl)) (fun _ _ _ _ _ _ us hl => match us, hl with | [_, _], _ => rfl)
    d_law_step := defAt_of (d.def_ 16 (d := Hd.d_law_step) rfl) (He.glo_ok X G (d.fact 16 (f := .glo "_law_step") rfl)) (fun _ _ _ _ _ _ us hl => match us, hl with | [_], _ => rfl)
    d_law_row_done := defAt_of (d.def_ 20 (d := Hd.d_law_row_done) rfl) (He.glo_ok X G (d.fact 20 (f := .glo "_law_row_done") rfl)) (fun _ _ _ _ _ _ us hl => match us, hl with | [_, _], _ => rfl)
    d_law_state := defAt_of (d.def_ 12 (d := Hd.d_law_state) rfl) (He.glo_ok X G (d.fact 12 (f := .glo "_law_state") rfl)) (fun _ _ _ _ _ _ us hl => match us, hl with | [_, _, _, _], _ => rfl)
    d_law_ways_of := defAt_of (d.def_ 14 (d := Hd.d_law_ways_of) rfl) (He.glo_ok X G (d.fact 14 (f := .glo "_law_ways_of") rfl)) (fun _ _ _ _ _ _ us hl => match us, hl with | [_, _], _ => rfl)
    d_law_ways_kept := defAt_of (d.def_ 15 (d := Hd.d_law_ways_kept) rfl) (He.glo_ok X G (d.fact 15 (f := .glo "_law_ways_kept") rfl)) (fun _ _ _ _ _ _ us hl => match us, hl with | [_, _, _], _ => rfl)
    d_law_full_choose := defAt_of (d.def_ 17 (d := Hd.d_law_full_choose) rfl) (He.glo_ok X G (d.fact 17 (f := .glo "_law_full_choose") rfl)) (fun _ _ _ _ _ _ us hl => match us, hl with | [_, _, _, _, _], _ => rfl)
    d_law_full_go := defAt_of (d.def_ 21 (d := Hd.d_law_full_go) rfl) (He.glo_ok X G (d.fact 21 (f := .glo "_law_full_go") rfl)) (fun _ _ _ _ _ _ us hl => match us, hl with | [_, _, _, _, _], _ => rfl)
    d_law_full := defAt_of (d.def_ 61 (d := Hd.d_law_full) rfl) (He.glo_ok X G (d.fact 61 (f := .glo "_law_full") rfl)) (fun _ _ _ _ _ _ us hl => match us, hl with | [_, _, _], _ => rfl)
    d_law_sum := defAt_of (d.def_ 5 (d := Hd.d_law_sum) rfl) (He.glo_ok X G (d.fact 5 (f := .glo "_law_sum") rfl)) (fun _ _ _ _ _ _ us hl => match us, hl with | [_, _, _, _, _], _ => rfl)
    d_law_world := defAt_of (d.def_ 10 (d := Hd.d_law_world) rfl) (He.glo_ok X G (d.fact 10 (f := .glo "_law_world") rfl)) (fun _ _ _ _ _ _ us hl => match us, hl with | [_, _, _, _], _ => rfl)
  }
end
end Hw
/-! HwAR -/
namespace Hw
section
variable {P : Program} {w : World} {K : PySem.W.Frag} {mg : Str → Option Value} {base : Heap} {T C Cd : Addr} (a : Fx K mg T C Cd)
include a
theorem t_is_integer : Has P w K mg base CX0 "is_integer" ["thing"] 1 (spOf K T S_is_integer) := ok_is_integer (k := 0) a.bl a.d_is_integer
theorem t_is_pair : Has P w K mg base CX0 "is_pair" ["thing"] 1 (spOf K T S_is_pair) := ok_is_pair (k := 0) a.bl a.d_is_pair
theorem t_is_number : Has P w K mg base CX0 "is_number" ["thing", "low", "high"] 2 (spOf K T S_is_number) := ok_is_number (k := 1) a.bl a.d_is_number ((t_is_integer a).mono (by decide))
theorem t_is_name : Has P w K mg base CX0 "is_name" ["thing"] 1 (spOf K T S_is_name) := ok_is_name (k := 0) a.bl a.d_is_name
theorem t_is_letter : Has P w K mg base CX0 "is_letter" ["thing", "letters"] 2 (spOf K T S_is_letter) := ok_is_letter (k := 1) a.bl a.d_is_letter a.c_ROUNDS ((t_is_name a).mono (by decide))
theorem t_sum_of_powers : Has P w K mg base CX0 "sum_of_powers" ["product"] 1 (spOf K T S_sum_of_powers) := ok_sum_of_powers (k := 0) a.bl a.d_sum_of_powers
theorem t_is_product : Has P w K mg base CX0 "is_product" ["thing", "letters"] 3 (spOf K T S_is_product) := ok_is_product (k := 2) a.bl a.d_is_product ((t_is_letter a).mono (by decide)) ((t_is_pair a).mono (by decide)) ((t_is_integer a).mono (by decide))
theorem t_is_term : Has P w K mg base CX0 "is_term" ["thing", "names"] 4 (spOf K T S_is_term) := ok_is_term (k := 3) a.bl a.d_is_term a.c_MOST_COEFFICIENT ((t_is_integer a).mono (by decide)) ((t_is_pair a).mono (by decide)) ((t_sum_of_powers a).mono (by decide)) a.c_MOST_DEGREE ((t_is_product a).mono (by decide))
theorem t_is_sum : Has P w K mg base CX0 "is_sum" ["thing", "letters"] 4 (spOf K T S_is_sum) := ok_is_sum (k := 3) a.bl a.d_is_sum ((t_is_integer a).mono (by decide)) ((t_is_pair a).mono (by decide)) ((t_is_product a).mono (by decide))
theorem t_is_terms : Has P w K mg base CX0 "is_terms" ["thing", "names"] 5 (spOf K T S_is_terms) := ok_is_terms (k := 4) a.bl a.d_is_terms a.c_MOST_TERMS ((t_is_sum a).mono (by decide)) ((t_is_term a).mono (by decide))
theorem t_is_row_statement : Has P w K mg base CX0 "is_row_statement" ["thing", "names", "sets"] 6 (spOf K T S_is_row_statement) := ok_is_row_statement (k := 5) a.bl a.d_is_row_statement ((t_is_term a).mono (by decide)) ((t_is_terms a).mono (by decide))
theorem t_is_statement : ∀ n : Nat, Has P w K mg base CX0 "is_statement" ["thing", "names", "words", "sets"] (6 + 3 * n) (spOf K T (S_is_statement n))
  | 0 => has_void (k := 5) a.d_is_statement sc_is_statement (by
    rintro ds w P X ⟨-, s, names, words, sets, -, -, hh, -⟩
    exact absurd hh (Nat.not_lt_zero _))
  | n + 1 => by
    have h0 := t_is_statement n
    have h1 := ok_is_block (k := 6 + 3 * n) (n := n) a.bl a.d_is_block h0
    have h2 := ok_is_blocks (k := 6 + 3 * n + 1) (n := n) a.bl a.d_is_blocks h1
    exact (ok_is_statement (k := 6 + 3 * n + 2) (n := n) a.bl a.d_is_statement a.c_ROWS ((t_is_row_statement a).mono (by omega)) (h1.mono (by omega)) h2).mono (by omega)
theorem t_is_block (n : Nat) : Has P w K mg base CX0 "is_block" ["thing", "names", "words", "sets"] (6 + 3 * n + 1) (spOf K T (S_is_block n)) := ok_is_block a.bl a.d_is_block (t_is_statement a n)
theorem t_joined : Has P w K mg base CX0 "joined" ["parts"] 1 (spOf K T S_joined) := ok_joined (k := 0) a.bl a.d_joined
theorem t_statement_measure : ∀ n : Nat, Has P w K mg base CX0 "statement_measure" ["statement", "bodies"] (1 + 2 * n) (spOf K T (S_statement_measure n))
  | 0 => has_void (k := 0) a.d_statement_measure sc_statement_measure (by
    rintro ds w P X ⟨-, beGr, s, p, kvs, -, -, -, hh, -⟩
    exact absurd hh (Nat.not_lt_zero _))
  | n + 1 => by
    have h0 := t_statement_measure n
    have h1 := ok_measure (k := 1 + 2 * n) (n := n) a.bl a.d_measure ((t_joined a).mono (by omega)) h0
    exact (ok_statement_measure (k := 1 + 2 * n + 1) (n := n) a.bl a.d_statement_measure a.c_ROWS h1 ((t_joined a).mono (by omega))).mono (by omega)
theorem t_measure (n : Nat) : Has P w K mg base CX0 "measure" ["block", "bodies"] (1 + 2 * n + 1) (spOf K T (S_measure n)) := ok_measure (k := 1 + 2 * n) a.bl a.d_measure ((t_joined a).mono (by omega)) (t_statement_measure a n)
theorem t_body_measures : Has P w K mg base CX0 "body_measures" ["bodies"] 27 (spOf K T (S_body_measures 12)) := ok_body_measures (k := 26) a.bl a.d_body_measures ((t_measure a 12).mono (by decide))
theorem t_is_names : Has P w K mg base CX0 "is_names" ["thing", "least", "most"] 2 (spOf K T S_is_names) := ok_is_names (k := 1) a.bl a.d_is_names ((t_is_name a).mono (by decide))
theorem t_are_bodies : Has P w K mg base CX0 "are_bodies" ["bodies", "names"] 44 (spOf K T (S_are_bodies 12)) := ok_are_bodies (k := 43) (n := 12) a.bl a.d_are_bodies a.c_MOST_WORDS ((t_is_name a).mono (by decide)) ((t_is_block a 12).mono (by decide)) ((t_body_measures a).mono (by decide)) a.c_MOST_STATEMENTS
theorem t_is_main : Has P w K mg base CX0 "is_main" ["main", "names", "bodies"] 44 (spOf K T (S_is_main 12)) := ok_is_main (k := 43) (n := 12) a.bl a.d_is_main ((t_is_block a 12).mono (by decide)) ((t_measure a 12).mono (by decide)) ((t_body_measures a).mono (by decide)) a.c_MOST_LOOPS a.c_MOST_DEEP a.c_MOST_ROWS a.c_MOST_STATEMENTS a.c_MOST_WAYS
theorem t_Program___init__ : HasI P w K mg base CX0 C "Program" ["self", "names", "bodies", "main"] 45 (spOf K T (S_Program___init__ C 12)) := ok_Program___init__ (k := 44) a.bl a.d_Program___init__ a.cl a.na1 a.na2 a.na3 a.c_MOST_NAMES ((t_is_names a).mono (by decide)) ((t_are_bodies a).mono (by decide)) ((t_is_main a).mono (by decide))
theorem t_power : Has P w K mg base CX0 "power" ["number", "times"] 1 (spOf K T S_power) := ok_power (k := 0) a.bl a.d_power
theorem t_greatest_number : Has P w K mg base CX0 "greatest_number" [] 2 (spOf K T S_greatest_number) := ok_greatest_number (k := 1) a.bl a.d_greatest_number ((t_power a).mono (by decide))
theorem t_value : Has P w K mg base CX0 "value" ["product", "numbers"] 2 (spOf K T S_value) := ok_value (k := 1) a.bl a.d_value ((t_power a).mono (by decide))
theorem t_total : Has P w K mg base CX0 "total" ["terms", "numbers"] 3 (spOf K T S_total) := ok_total (k := 2) a.bl a.d_total ((t_value a).mono (by decide))
theorem t_changed : Has P w K mg base CX0 "changed" ["row", "numbers"] 4 (spOf K T S_changed) := ok_changed (k := 3) a.bl a.d_changed ((t_value a).mono (by decide)) ((t_total a).mono (by decide))
theorem t_orders_of : Has P w K mg base CX0 "orders_of" ["many"] 1 (spOf K T S_orders_of) := ok_orders_of (k := 0) a.bl a.d_orders_of a.c_ORDERS_OF_TWO a.c_ORDERS_OF_THREE
theorem t_both_behind : Has P w K mg base CX0 "both_behind" ["ones", "others"] 1 (spOf K T S_both_behind) := ok_both_behind (k := 0) a.bl a.d_both_behind
theorem t_statement_ways : ∀ n : Nat, Has P w K mg base CX0 "statement_ways" ["statement"] (1 + 2 * n) (spOf K T (S_statement_ways n))
  | 0 => has_void (k := 0) a.d_statement_ways sc_statement_ways (by
    rintro ds w P X ⟨-, s, -, -, -, hh, -⟩
    exact absurd hh (Nat.not_lt_zero _))
  | n + 1 => by
    have h0 := t_statement_ways n
    have h1 := ok_block_ways (k := 1 + 2 * n) (n := n) a.bl a.d_block_ways ((t_both_behind a).mono (by omega)) h0
    exact (ok_statement_ways (k := 1 + 2 * n + 1) (n := n) a.bl a.d_statement_ways a.c_ROWS ((t_both_behind a).mono (by omega)) h1 ((t_orders_of a).mono (by omega))).mono (by omega)
theorem t_block_ways (n : Nat) : Has P w K mg base CX0 "block_ways" ["block"] (1 + 2 * n + 1) (spOf K T (S_block_ways n)) := ok_block_ways (k := 1 + 2 * n) a.bl a.d_block_ways ((t_both_behind a).mono (by omega)) (t_statement_ways a n)
theorem t_written_out : ∀ n : Nat, Has P w K mg base CX0 "written_out" ["block", "bodies"] (1 + 1 * n) (spOf K T (S_written_out n))
  | 0 => has_void (k := 0) a.d_written_out sc_written_out (by
    rintro ds w P X ⟨-, b, e, -, -, -, -, hh, -⟩
    exact absurd hh (Nat.not_lt_zero _))
  | n + 1 => by
    have h0 := t_written_out n
    exact (ok_written_out (n := n) a.bl a.d_written_out h0 a.c_ROWS).mono (by omega)
theorem t_prepared : ∀ n : Nat, Has P w K mg base CX0 "prepared" ["block"] (2 + 2 * n) (spOf K T (S_prepared n))
  | 0 => has_void (k := 1) a.d_prepared sc_prepared (by
    rintro ds w P X ⟨-, b, -, -, -, hh, -⟩
    exact absurd hh (Nat.not_lt_zero _))
  | n + 1 => by
    have h0 := t_prepared n
    exact (ok_prepared (k := 2 + 2 * n) (n := n) a.bl a.d_prepared h0 ((t_block_ways a n).mono (by omega)) a.c_ROWS).mono (by omega)
theorem t_follow : ∀ n : Nat, Has P w K mg base CX0 "follow" ["block", "bodies", "way", "at"] (2 + 2 * n) (spOf K T (S_follow n))
  | 0 => has_void (k := 1) a.d_follow sc_follow (by
    rintro ds w P X ⟨-, b, e, pre, ws, post, -, -, -, hf, -⟩
    have hh := hf.dp
    exact absurd hh (Nat.not_lt_zero _))
  | n + 1 => by
    have h0 := t_follow n
    have h1 := ok_follow_choice (k := 2 + 2 * n) (n := n) a.bl a.d_follow_choice ((t_orders_of a).mono (by omega)) ((t_is_number a).mono (by omega)) h0
    exact (ok_follow (k := 2 + 2 * n + 1) (n := n) a.bl a.d_follow (h0.mono (by omega)) h1).mono (by omega)
theorem t_straight : Has P w K mg base CX0 "straight" ["program", "way"] 27 (spOf K T (S_straight C 12)) := ok_straight (k := 26) a.cl a.na2 a.na3 a.bl a.d_straight ((t_follow a 12).mono (by decide))
theorem t_is_way : Has P w K mg base CX0 "is_way" ["program", "thing"] 28 (spOf K T (S_is_way C 12)) := ok_is_way (k := 27) a.bl a.d_is_way ((t_straight a).mono (by decide))
theorem t_Doing_one_step : HasM P w K mg base (L2.CX P w) Cd "one_step" ["self"] 1 (spOf K T (S_Doing_one_step Cd)) := ok_Doing_one_step (k := 0) a.bl a.d_Doing_one_step a.tl a.df a.c_MOST_STEPS
theorem t_Doing_do_row : HasM P w K mg base (L2.CX P w) Cd "do_row" ["self", "row"] 5 (spOf K T (S_Doing_do_row Cd)) := ok_Doing_do_row (k := 4) a.bl a.d_Doing_do_row a.tl a.df a.df.cl ((t_Doing_one_step a).mono (by decide)) ((t_changed a).mono (by decide))
theorem t_Doing_do_block : ∀ n : Nat, HasM P w K mg base (L2.CX P w) Cd "do_block" ["self", "block", "way", "at"] (5 + 2 * n) (spOf K T (S_Doing_do_block Cd n))
  | 0 => hasM_void (k := 4) a.d_Doing_do_block sc_Doing_do_block (by
    rintro ds w P X ⟨-, self, h, q, s, kvs, names, b, out, pre, ws, post, -, -, -, hb, -⟩
    have hh := hb.dp
    exact absurd hh (Nat.not_lt_zero _))
  | n + 1 => by
    have h0 := t_Doing_do_block n
    have h1 := ok_Doing_do_loop (k := 5 + 2 * n) (n := n) a.bl a.d_Doing_do_loop a.tl a.df a.df.cl ((t_Doing_one_step a).mono (by omega)) h0
    exact (ok_Doing_do_block (k := 5 + 2 * n + 1) (n := n) a.bl a.d_Doing_do_block a.tl a.df a.df.cl a.c_ROWS ((t_orders_of a).mono (by omega)) ((t_Doing_do_row a).mono (by omega)) h1 (h0.mono (by omega))).mono (by omega)
theorem t_check_starts : Has P w K mg base CX0 "check_starts" ["program", "starts"] 2 (spOf K T (S_check_starts C)) := ok_check_starts (k := 1) a.cl a.na1 a.bl a.d_check_starts ((t_is_integer a).mono (by decide))
theorem t_in_order : Has P w K mg base CX0 "in_order" ["program", "numbers"] 1 (spOf K T (S_in_order C)) := ok_in_order (k := 0) a.cl a.na1 a.bl a.d_in_order
theorem t_Doing___init__ : HasI P w K mg base CX0 Cd "Doing" ["self", "starts"] 3 (spOf K T (S_Doing___init__ Cd)) := ok_Doing___init__ (k := 2) a.bl a.d_Doing___init__ a.df ((t_greatest_number a).mono (by decide))
theorem t_full_run : Has P w K mg base (L2.CX P w) "full_run" ["program", "way", "starts"] 30 (spOf K T (S_full_run C 12)) := ok_full_run (k := 28) (n := 12) a.bl a.d_full_run a.cl a.na2 a.na3 a.df a.df.cl ((t_is_way a).mono (by decide)) ((t_check_starts a).mono (by decide)) (hasI_mono (t_Doing___init__ a) (by decide)) ((t_Doing_do_block a 12).mono (by decide)) ((t_prepared a 12).mono (by decide)) ((t_written_out a 12).mono (by decide)) ((t_in_order a).mono (by decide))
theorem t_law_full : Has P w K mg base CX0 "_law_full" ["_law_program", "_law_way", "_law_starts_here"] 31 (spOf K T (S_law_full C 12)) := ok_law_full (k := 30) a.bl a.d_law_full a.tl a.ex ((t_full_run a).mono (by decide))
theorem t_law_dice : Has P w K mg base CX0 "_law_dice" ["_law_script"] 1 (spOf K T S_law_dice) := ok_law_dice (k := 0) a.bl a.d_law_dice
theorem t_law_draw : Has P w K mg base CX0 "_law_draw" ["_law_dice_here", "_law_many"] 1 (spOf K T S_law_draw) := ok_law_draw (k := 0) a.bl a.d_law_draw
theorem t_law_word : Has P w K mg base CX0 "_law_word" ["_law_dice_here", "_law_most"] 2 (spOf K T S_law_word) := ok_law_word (k := 1) a.bl a.d_law_word ((t_law_draw a).mono (by decide))
theorem t_law_names : Has P w K mg base CX0 "_law_names" ["_law_dice_here", "_law_many"] 3 (spOf K T S_law_names) := ok_law_names (k := 2) a.bl a.d_law_names ((t_law_draw a).mono (by decide)) ((t_law_word a).mono (by decide))
theorem t_law_product : Has P w K mg base CX0 "_law_product" ["_law_dice_here", "_law_names_here", "_law_most"] 2 (spOf K T S_law_product) := ok_law_product (k := 1) a.bl a.d_law_product ((t_law_draw a).mono (by decide))
theorem t_law_sum : Has P w K mg base CX0 "_law_sum" ["_law_dice_here", "_law_names_here", "_law_terms", "_law_most", "_law_top"] 3 (spOf K T S_law_sum) := ok_law_sum (k := 2) a.bl a.d_law_sum ((t_law_draw a).mono (by decide)) ((t_law_product a).mono (by decide))
theorem t_law_row : Has P w K mg base CX0 "_law_row" ["_law_dice_here", "_law_names_here", "_law_sets", "_law_top"] 4 (spOf K T S_law_row) := ok_law_row (k := 3) a.bl a.d_law_row ((t_law_draw a).mono (by decide)) ((t_law_sum a).mono (by decide)) ((t_law_product a).mono (by decide))
theorem t_law_statement : ∀ n : Nat, Has P w K mg base CX0 "_law_statement" ["_law_dice_here", "_law_names_here", "_law_words", "_law_room", "_law_deep", "_law_loops_here", "_law_sets", "_law_top"] (4 + 2 * n) (spOf K T (S_law_statement n))
  | 0 => has_void (k := 3) a.d_law_statement sc_law_statement (by
    rintro ds w P X ⟨-, x, p, rp, lp, s, deep, loops, sets, -, -, hg, -⟩
    have hh : 0 < 0 := by
      have := hg.dp
      have := hg.d3
      omega
    exact absurd hh (Nat.not_lt_zero _))
  | n + 1 => by
    have h0 := t_law_statement n
    have h1 := ok_law_block (k := 4 + 2 * n) (n := n) a.bl a.d_law_block ((t_law_draw a).mono (by omega)) h0
    exact (ok_law_statement (k := 4 + 2 * n + 1) (n := n) a.bl a.d_law_statement ((t_law_draw a).mono (by omega)) h1 ((t_law_row a).mono (by omega))).mono (by omega)
theorem t_law_block (n : Nat) : Has P w K mg base CX0 "_law_block" ["_law_dice_here", "_law_names_here", "_law_words", "_law_room", "_law_deep", "_law_loops_here", "_law_sets", "_law_top", "_law_most"] (4 + 2 * n + 1) (spOf K T (S_law_block n)) := ok_law_block a.bl a.d_law_block ((t_law_draw a).mono (by omega)) (t_law_statement a n)
theorem t_law_loops : ∀ n : Nat, Has P w K mg base CX0 "_law_loops" ["_law_block_here", "_law_held"] (1 + 1 * n) (spOf K T (S_law_loops n))
  | 0 => has_void (k := 0) a.d_law_loops sc_law_loops (by
    rintro ds w P X ⟨-, b, hp, hk, beGr, -, -, -, hh, -⟩
    exact absurd hh (Nat.not_lt_zero _))
  | n + 1 => by
    have h0 := t_law_loops n
    exact (ok_law_loops (n := n) a.bl a.d_law_loops h0).mono (by omega)
theorem t_law_starts : Has P w K mg base CX0 "_law_starts" ["_law_dice_here", "_law_names_here", "_law_top"] 2 (spOf K T S_law_starts) := ok_law_starts (k := 1) a.bl a.d_law_starts ((t_law_draw a).mono (by decide))
theorem t_law_turned : Has P w K mg base CX0 "_law_turned" ["_law_dice_here", "_law_starts_here"] 2 (spOf K T S_law_turned) := ok_law_turned (k := 1) a.bl a.d_law_turned ((t_law_draw a).mono (by decide))
theorem t_law_orders : Has P w K mg base CX0 "_law_orders" ["_law_many"] 1 (spOf K T S_law_orders) := ok_law_orders (k := 0) a.bl a.d_law_orders
theorem t_law_worth : Has P w K mg base CX0 "_law_worth" ["_law_terms", "_law_numbers"] 1 (spOf K T S_law_worth) := ok_law_worth (k := 0) a.bl a.d_law_worth
theorem t_law_do : Has P w K mg base CX0 "_law_do" ["_law_row_here", "_law_numbers"] 2 (spOf K T S_law_do) := ok_law_do (k := 1) a.bl a.d_law_do ((t_law_worth a).mono (by decide))
theorem t_law_step : Has P w K mg base CX0 "_law_step" ["_law_state_here"] 1 (spOf K T S_law_step) := ok_law_step (k := 0) a.bl a.d_law_step
theorem t_law_row_done : Has P w K mg base CX0 "_law_row_done" ["_law_row_here", "_law_state_here"] 3 (spOf K T S_law_row_done) := ok_law_row_done (k := 2) a.bl a.d_law_row_done ((t_law_step a).mono (by decide)) ((t_law_do a).mono (by decide))
theorem t_law_state : Has P w K mg base CX0 "_law_state" ["_law_starts_here", "_law_choices", "_law_dice_here", "_law_rounds"] 1 (spOf K T S_law_state) := ok_law_state (k := 0) a.bl a.d_law_state
theorem t_law_ways_of : ∀ n : Nat, Has P w K mg base CX0 "_law_ways_of" ["_law_block_here", "_law_bodies"] (1 + 1 * n) (spOf K T (S_law_ways_of n))
  | 0 => has_void (k := 0) a.d_law_ways_of sc_law_ways_of (by
    rintro ds w P X ⟨-, b, e, -, -, -, -, hh, -⟩
    exact absurd hh (Nat.not_lt_zero _))
  | n + 1 => by
    have h0 := t_law_ways_of n
    exact (ok_law_ways_of (k := 1 + 1 * n) (n := n) a.bl a.d_law_ways_of h0 ((t_law_orders a).mono (by omega))).mono (by omega)
theorem t_law_ways_kept (n : Nat) : Has P w K mg base CX0 "_law_ways_kept" ["_law_block_here", "_law_bodies", "_law_state_here"] (1 + 1 * n + 1) (spOf K T (S_law_ways_kept n)) := ok_law_ways_kept a.bl a.d_law_ways_kept (t_law_ways_of a n)
theorem t_law_full_go : ∀ n : Nat, Has P w K mg base CX0 "_law_full_go" ["_law_block_here", "_law_bodies", "_law_state_here", "_law_way", "_law_at"] (3 + 2 * n) (spOf K T (S_law_full_go n))
  | 0 => has_void (k := 2) a.d_law_full_go sc_law_full_go (by
    rintro ds w P X ⟨-, b, e, ad, s, lg, kvs, ks, vd, i, -, -, hh, -⟩
    exact absurd hh (Nat.not_lt_zero _))
  | n + 1 => by
    have h0 := t_law_full_go n
    have h1 := ok_law_full_choose (k := 3 + 2 * n) (n := n) a.bl a.d_law_full_choose ((t_law_ways_kept a n).mono (by omega)) ((t_law_step a).mono (by omega)) h0 ((t_law_orders a).mono (by omega))
    exact (ok_law_full_go (k := 3 + 2 * n + 1) (n := n) a.bl a.d_law_full_go (h0.mono (by omega)) h1 ((t_law_row_done a).mono (by omega))).mono (by omega)
theorem t_law_world : Has P w K mg base CX0 "_law_world" ["_law_dice_here", "_law_many", "_law_amount", "_law_top"] 13 (spOf K T S_law_world) := ok_law_world (k := 12) a.bl a.d_law_world ((t_law_names a).mono (by decide)) ((t_law_draw a).mono (by decide)) ((t_law_block a 3).mono (by decide)) ((t_law_loops a 4).mono (by decide)) ((t_law_statement a 4).mono (by decide))
theorem t_law {fa : Addr} {fd : FuncData} (F : Fun K "law" "law" st_law fa fd) : FnOk P w K mg base CX0 47 fa fd ["_law_script"] (spOf K T S_law) := ok_law (k := 45) a.bl F ((t_law_dice a).mono (by decide)) ((t_law_world a).mono (by decide)) ((t_law_draw a).mono (by decide)) ((t_law_starts a).mono (by decide)) ((t_law_ways_of a 12).mono (by decide)) ((t_law_state a).mono (by decide)) ((t_law_full_go a 12).mono (by decide)) (hasI_mono (t_Program___init__ a) (by decide)) ((t_law_full a).mono (by decide)) ((t_law_turned a).mono (by decide))
end
end Hw
/-! HwAS -/
namespace Hw
theorem asks {K : PySem.W.Frag} {T : Addr} {H : Hp} {c : Addr} {is : List Int} (h : SqL K H c (is.map V.int)) : spOf K T S_law [.ref c] H (fun v _ => v = .bl true) fun _ _ _ => False := by
  have e : Reps K H (is.map V.int) (is.map D.int) := reps_of V.int D.int (fun i => .int i) is
  exact ⟨H, [.sq (is.map D.int)], [], fun d _ => d = .bl true, fun _ => False, ⟨fun _ _ q => q, fun x q => (by cases q), .nil⟩, .cons (.sq h e) .nil, ⟨rfl, is, rfl, rfl, rfl⟩, fun v d w2 B2 H2 p t r => (by subst p; cases r; rfl), fun _ _ _ x _ => x⟩
end Hw
end
open PySem PySem.W PySem.Calls PyProof.Rows
theorem PySem.Challenge.cw_howhigh_k23_whole_full_runs_take_ways_in_holds : PySem.Challenge.rw_howhigh_k23_whole_full_runs_take_ways_in.Holds := by
  refine Hd.start ?_
  refine L2.walk_ofE (l := PySem.Challenge.rw_howhigh_k23_whole_full_runs_take_ways_in) (n := 63) (k := 47) (x := "_law_script") (CX := L2.CX0) rfl (by decide) (by kernel_rfl) ⟨rfl, by decide, by decide⟩ ?F fun _ _ _ _ z => z
  intro w mg fa h Y G m0
  obtain ⟨K, KX, d, more⟩ := Y
  have m1 : mg ("law" : PySem.Str) = some (.ref fa) := by
    have e : (HandSHeadRun.topDef Hd.R.prog 95).name = ("law" : PySem.Str) := by kernel_rfl
    exact e ▸ m0
  have fx := Hw.fx KX G d more
  obtain ⟨fd, F⟩ := d.def_ 63 (d := Hd.d_law) rfl
  have m2 : mg ("law" : PySem.Str) = some (.ref (He.ga K "law")) := He.glo_ok KX G (d.fact 63 (f := .glo "law") rfl)
  obtain rfl : fa = He.ga K "law" := by
    have := m1.symm.trans m2
    cases this
    rfl
  have b := L2.FunD.bindsA (ps := ["_law_script"]) F fun _ _ _ _ _ _ us hl => match us, hl with | [_], _ => rfl
  exact ⟨K, fd, DL.spOf K (He.ga K "TooLong") Hw.S_law, KX, fun s u => b s [u] rfl, fun H q ns _ _ hS => Hw.asks hS, fun base _ _ => Hw.t_law fx (Hw.fun_of F)⟩
