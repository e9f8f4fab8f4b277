import PyProof.Rows.All
import Wide.All
import OpenK.AllK
import Wide.FinOn
import HandS.ForMost
import HandS.ForExc
import HandS.Walk
import HandS.IsInst
import HandS.Conv
import KE.DataEq
import HandS.Wide
import HandS.ExcInit
import HandS.ExcField
import HandS.ExcIs
import HandS.TryOnly
import HandS.ExcCtx
import HandS.HotCalls
import PySem.Challenge.RW_tablesplayed_k86_meetings_checked
set_option Elab.async false
set_option linter.all false
set_option maxRecDepth 100000
set_option maxHeartbeats 4000000
/-! plain data over the hand layer: what a value stands for, regions of the heap, the judgements over readings -/
namespace TP
open PySem PySem.Spec L2

/-! ### data in a heap -/
mutual
inductive Dv (G : Hp) : V → PyData → Prop
  | non : Dv G .non .none
  | bl (b : Bool) : Dv G (.bl b) (.bool b)
  | int (i : Int) : Dv G (.int i) (.int i)
  | str (x : Str) : Dv G (.str x) (.str x)
  | lst {a : Addr} {xs : List V} {ds : List PyData} : G a = some (.lst xs) → DvL G xs ds → Dv G (.ref a) (.list ds)
  | tup {a : Addr} {xs : List V} {ds : List PyData} : G a = some (.tup xs) → DvL G xs ds → Dv G (.ref a) (.tuple ds)
inductive DvL (G : Hp) : List V → List PyData → Prop
  | nil : DvL G [] []
  | cons {v : V} {vs : List V} {d : PyData} {ds : List PyData} : Dv G v d → DvL G vs ds → DvL G (v :: vs) (d :: ds)
end
mutual
theorem Dv.mono {G G' : Hp} (h : Same G G') : ∀ {v : V} {d : PyData}, Dv G v d → Dv G' v d
  | _, _, .non => .non
  | _, _, .bl b => .bl b
  | _, _, .int i => .int i
  | _, _, .str x => .str x
  | _, _, .lst e r => .lst (h _ _ e) (DvL.mono h r)
  | _, _, .tup e r => .tup (h _ _ e) (DvL.mono h r)
theorem DvL.mono {G G' : Hp} (h : Same G G') : ∀ {vs : List V} {ds : List PyData}, DvL G vs ds → DvL G' vs ds
  | _, _, .nil => .nil
  | _, _, .cons r t => .cons (Dv.mono h r) (DvL.mono h t)
end
mutual
theorem Dv.dp {K : PySem.W.Frag} {G H : Hp} (h : Same G H) : ∀ {v : V} {d : PyData}, Dv G v d → Dp K H v d
  | _, _, .non => .non
  | _, _, .bl b => .bl b
  | _, _, .int i => .int i
  | _, _, .str x => .str x
  | _, _, .lst e r => .lst (SqL.of (h _ _ e)) (DvL.dp h r)
  | _, _, .tup e r => .tup (SqT.of (h _ _ e)) (DvL.dp h r)
theorem DvL.dp {K : PySem.W.Frag} {G H : Hp} (h : Same G H) : ∀ {vs : List V} {ds : List PyData}, DvL G vs ds → DpAll K H vs ds
  | _, _, .nil => .nil
  | _, _, .cons r t => .cons (Dv.dp h r) (DvL.dp h t)
end
section
variable {G : Hp}
theorem DvL.len : ∀ {vs : List V} {ds : List PyData}, DvL G vs ds → vs.length = ds.length
  | _, _, .nil => rfl
  | _, _, .cons _ t => by simp [DvL.len t]
theorem DvL.append : ∀ {vs ws : List V} {ds es : List PyData}, DvL G vs ds → DvL G ws es → DvL G (vs ++ ws) (ds ++ es)
  | _, _, _, _, .nil, s => s
  | _, _, _, _, .cons r t, s => .cons r (DvL.append t s)
theorem DvL.take : ∀ {vs : List V} {ds : List PyData} (n : Nat), DvL G vs ds → DvL G (vs.take n) (ds.take n)
  | _, _, 0, _ => .nil
  | _, _, _ + 1, .nil => .nil
  | _, _, n + 1, .cons r t => .cons r (DvL.take n t)
theorem DvL.drop : ∀ {vs : List V} {ds : List PyData} (n : Nat), DvL G vs ds → DvL G (vs.drop n) (ds.drop n)
  | _, _, 0, r => r
  | _, _, _ + 1, .nil => .nil
  | _, _, n + 1, .cons _ t => DvL.drop n t
theorem DvL.set {x : V} {d : PyData} (r : Dv G x d) : ∀ {vs : List V} {ds : List PyData} (i : Nat), DvL G vs ds → DvL G (vs.set i x) (ds.set i d)
  | _, _, _, .nil => .nil
  | _, _, 0, .cons _ t => .cons r t
  | _, _, i + 1, .cons q t => .cons q (DvL.set r i t)
theorem DvL.get : ∀ {vs : List V} {ds : List PyData} {i : Nat} {d : PyData}, DvL G vs ds → ds[i]? = some d → ∃ v, vs[i]? = some v ∧ Dv G v d
  | _, _, _, _, .nil, e => by simp at e
  | _, _, 0, _, .cons r _, e => by simp at e; subst e; exact ⟨_, rfl, r⟩
  | _, _, i + 1, d, .cons _ t, e => by
    obtain ⟨v, h1, h2⟩ := DvL.get (i := i) (d := d) t (by simpa using e)
    exact ⟨v, by simpa using h1, h2⟩
theorem DvL.getV : ∀ {vs : List V} {ds : List PyData} {i : Nat} {v : V}, DvL G vs ds → vs[i]? = some v → ∃ d, ds[i]? = some d ∧ Dv G v d
  | _, _, _, _, .nil, e => by simp at e
  | _, _, 0, _, .cons r _, e => by simp at e; subst e; exact ⟨_, rfl, r⟩
  | _, _, i + 1, d, .cons _ t, e => by
    obtain ⟨v, h1, h2⟩ := DvL.getV (i := i) (v := d) t (by simpa using e)
    exact ⟨v, by simpa using h1, h2⟩
theorem DvL.eraseIdx : ∀ {vs : List V} {ds : List PyData} (i : Nat), DvL G vs ds → DvL G (vs.eraseIdx i) (ds.eraseIdx i)
  | _, _, _, .nil => .nil
  | _, _, 0, .cons _ t => t
  | _, _, i + 1, .cons q t => .cons q (DvL.eraseIdx i t)
theorem DvL.one {v : V} {d : PyData} (h : Dv G v d) : DvL G [v] [d] := .cons h .nil
theorem DvL.reverse : ∀ {vs : List V} {ds : List PyData}, DvL G vs ds → DvL G vs.reverse ds.reverse
  | _, _, .nil => .nil
  | _, _, .cons r t => by
    rw [List.reverse_cons, List.reverse_cons]
    exact (DvL.reverse t).append (.one r)
theorem DvL.dropLast {vs : List V} {ds : List PyData} (h : DvL G vs ds) : DvL G vs.dropLast ds.dropLast := by
  rw [List.dropLast_eq_take, List.dropLast_eq_take, h.len]
  exact h.take _
theorem DvL.rep {vs : List V} {ds : List PyData} (h : DvL G vs ds) : ∀ k : Nat, DvL G (List.replicate k vs).flatten (List.replicate k ds).flatten
  | 0 => .nil
  | k + 1 => by
    rw [List.replicate_succ, List.replicate_succ, List.flatten_cons, List.flatten_cons]
    exact h.append (DvL.rep h k)
theorem DvL.cut {vs : List V} {ds : List PyData} (lo hi : Option Int) (h : DvL G vs ds) :
    DvL G (cutV vs lo hi) ((ds.drop (HT.sIx ds.length 0 lo)).take (HT.sIx ds.length ds.length hi - HT.sIx ds.length 0 lo)) := by
  unfold cutV
  rw [h.len]
  exact (h.drop _).take _
theorem Dv.int_inv {v : V} {i : Int} (h : Dv G v (.int i)) : v = .int i := by cases h; rfl
theorem Dv.bl_inv {v : V} {b : Bool} (h : Dv G v (.bool b)) : v = .bl b := by cases h; rfl
theorem Dv.str_inv {v : V} {x : Str} (h : Dv G v (.str x)) : v = .str x := by cases h; rfl
theorem Dv.non_inv {v : V} (h : Dv G v .none) : v = .non := by cases h; rfl
theorem Dv.lst_inv {v : V} {ds : List PyData} (h : Dv G v (.list ds)) : ∃ a xs, v = .ref a ∧ G a = some (.lst xs) ∧ DvL G xs ds := by
  cases h with
  | lst e r => exact ⟨_, _, rfl, e, r⟩
theorem Dv.tup_inv {v : V} {ds : List PyData} (h : Dv G v (.tuple ds)) : ∃ a xs, v = .ref a ∧ G a = some (.tup xs) ∧ DvL G xs ds := by
  cases h with
  | tup e r => exact ⟨_, _, rfl, e, r⟩
end

/-! ### regions -/
/-- where a value's objects lie: nowhere (a scalar), given from outside, made here, either, in the content of the given list that may change -/
inductive B where | sc | out | new | val | iob
  deriving DecidableEq
def B.le : B → B → Bool
  | .sc, _ => true
  | .out, .out => true
  | .out, .val => true
  | .new, .new => true
  | .new, .val => true
  | .val, .val => true
  | .iob, .iob => true
  | _, _ => false
/-- a list of such items, new -/
def B.fz : B → B
  | .sc => .new
  | .new => .new
  | _ => .val
structure Fm where
  A : Hp
  B : Hp
  H0 : Hp
  IO : List Addr
def join (A N : Hp) : Hp := fun a => match A a with
  | some o => some o
  | none => N a
def e0 : Hp := fun _ => none
def rg (F : Fm) (N : Hp) : B → Hp
  | .sc => e0
  | .out => F.A
  | .new => N
  | .val => join F.A N
  | .iob => F.B
theorem same_e0 (H : Hp) : Same e0 H := fun _ _ h => by cases h
theorem same_join_l (A N : Hp) : Same A (join A N) := fun a o h => by unfold join; rw [h]
theorem same_join_r {A N : Hp} (d : ∀ a o, N a = some o → A a = none) : Same N (join A N) := fun a o h => by unfold join; rw [d a o h]; exact h
theorem join_mono {A N N' : Hp} (h : Same N N') : Same (join A N) (join A N') := fun a o e => by
  unfold join at e ⊢
  cases hu : A a with
  | some u => rw [hu] at e; exact e
  | none => rw [hu] at e; exact h _ _ e
theorem rg_mono {F : Fm} {N N' : Hp} (h : Same N N') : ∀ b, Same (rg F N b) (rg F N' b)
  | .sc => fun _ _ e => e
  | .out => fun _ _ e => e
  | .new => h
  | .val => join_mono h
  | .iob => fun _ _ e => e
/-- a slot: not known; a value; a list of this frame's own; the given list that may change -/
inductive Sl where
  | no
  | v (b : B) (d : PyData)
  | own (b : B) (ds : List PyData)
  | io (p : Addr) (b : B) (ds : List PyData)
  /-- just this value; such new cells -/
  | ex (v : V) (cs : List (Addr × HO))
def Sl.isOwn : Sl → Bool
  | .own _ _ => true
  | .io _ _ _ => true
  | _ => false
def SlOk (F : Fm) (N H : Hp) : Sl → Option V → Prop
  | .no, _ => True
  | .v b d, x => ∃ w, x = some w ∧ Dv (rg F N b) w d
  | .ex v cs, x => x = some v ∧ ∀ c ∈ cs, N c.1 = some c.2
  | .own b ds, x => ∃ p vs, x = some (.ref p) ∧ H p = some (.lst vs) ∧ N p = none ∧ F.H0 p = none ∧ DvL (rg F N b) vs ds
  | .io p b ds, x => ∃ vs, x = some (.ref p) ∧ H p = some (.lst vs) ∧ p ∈ F.IO ∧ DvL (rg F N b) vs ds
def OwnAt (ρ : List Sl) (σ : St) (i : Nat) (p : Addr) : Prop := (∃ s, ρ[i]? = some s ∧ s.isOwn = true) ∧ σ[i]? = some (some (.ref p))
structure SR (F : Fm) (N : Hp) (ρ : List Sl) (σ : St) (H : Hp) : Prop where
  aH : Same F.A F.H0
  bH : Same F.B F.H0
  ioA : ∀ p ∈ F.IO, F.A p = none ∧ F.B p = none ∧ ∃ o, F.H0 p = some o
  nH : Same N H
  nN : ∀ a o, N a = some o → F.H0 a = none
  keep : ∀ a o, F.H0 a = some o → a ∉ F.IO → H a = some o
  ioH : ∀ p ∈ F.IO, ∃ o, H p = some o
  len : σ.length = ρ.length
  ok : ∀ (i : Nat) (s : Sl), ρ[i]? = some s → SlOk F N H s (σ[i]?.join)
  ap : ∀ (i j : Nat) (p : Addr), OwnAt ρ σ i p → OwnAt ρ σ j p → i = j
section
variable {F : Fm} {N N' H H' : Hp} {ρ ρ' : List Sl} {σ : St}
theorem SR.aHn (S : SR F N ρ σ H) : ∀ a o, F.A a = some o → a ∉ F.IO := fun a o e h => by
  have := (S.ioA a h).1
  rw [e] at this; cases this
theorem SR.bHn (S : SR F N ρ σ H) : ∀ a o, F.B a = some o → a ∉ F.IO := fun a o e h => by
  have := (S.ioA a h).2.1
  rw [e] at this; cases this
theorem SR.sameA (S : SR F N ρ σ H) : Same F.A H := fun a o e => S.keep a o (S.aH a o e) (S.aHn a o e)
theorem SR.sameB (S : SR F N ρ σ H) : Same F.B H := fun a o e => S.keep a o (S.bH a o e) (S.bHn a o e)
theorem SR.dis (S : SR F N ρ σ H) : ∀ a o, N a = some o → F.A a = none := fun a o e => by
  cases q : F.A a with
  | none => rfl
  | some u =>
    have := S.aH a u q
    rw [S.nN a o e] at this; cases this
theorem SR.rgH (S : SR F N ρ σ H) : ∀ b, Same (rg F N b) H
  | .sc => same_e0 H
  | .out => S.sameA
  | .new => S.nH
  | .val => fun a o e => by
    have e : join F.A N a = some o := e
    unfold join at e
    split at e
    · rename_i u hu; rw [← e]; exact S.sameA _ _ hu
    · exact S.nH _ _ e
  | .iob => S.sameB
theorem SR.sub (S : SR F N ρ σ H) : ∀ {b b' : B}, B.le b b' = true → Same (rg F N b) (rg F N b')
  | .sc, _, _ => same_e0 _
  | .out, .out, _ => fun _ _ e => e
  | .out, .val, _ => same_join_l _ _
  | .new, .new, _ => fun _ _ e => e
  | .new, .val, _ => same_join_r S.dis
  | .val, .val, _ => fun _ _ e => e
  | .iob, .iob, _ => fun _ _ e => e
theorem SR.freshH0 (S : SR F N ρ σ H) {a : Addr} (h : H a = none) : F.H0 a = none := by
  cases q : F.H0 a with
  | none => rfl
  | some u =>
    by_cases hi : a ∈ F.IO
    · obtain ⟨o, e⟩ := S.ioH a hi
      rw [h] at e; cases e
    · have := S.keep a u q hi
      rw [h] at this; cases this
theorem SR.freshN (S : SR F N ρ σ H) {a : Addr} (h : H a = none) : N a = none := by
  cases q : N a with
  | none => rfl
  | some u =>
    have := S.nH a u q
    rw [h] at this; cases this
theorem SR.ownH (S : SR F N ρ σ H) {i : Nat} {p : Addr} (h : OwnAt ρ σ i p) : (∃ vs, H p = some (.lst vs)) ∧ N p = none ∧ F.A p = none ∧ F.B p = none := by
  obtain ⟨⟨s, e, o⟩, hs⟩ := h
  have k := S.ok i s e
  rw [hs] at k
  cases s with
  | no => cases o
  | ex v cs => cases o
  | v b d => cases o
  | own b ds =>
    obtain ⟨q, vs, e1, e2, e3, e4, _⟩ := k
    have e1' : some (V.ref p) = some (V.ref q) := e1
    cases e1'
    refine ⟨⟨vs, e2⟩, e3, ?_, ?_⟩
    · cases z : F.A p with
      | none => rfl
      | some u =>
        have := S.aH p u z
        rw [e4] at this; cases this
    · cases z : F.B p with
      | none => rfl
      | some u =>
        have := S.bH p u z
        rw [e4] at this; cases this
  | io q b ds =>
    obtain ⟨vs, e1, e2, e3, _⟩ := k
    have e1' : some (V.ref p) = some (V.ref q) := e1
    cases e1'
    obtain ⟨h1, h2, o, h3⟩ := S.ioA p e3
    refine ⟨⟨vs, e2⟩, ?_, h1, h2⟩
    cases z : N p with
    | none => rfl
    | some u =>
      have := S.nN p u z
      rw [h3] at this; cases this
theorem SR.ownRg (S : SR F N ρ σ H) {i : Nat} {p : Addr} (h : OwnAt ρ σ i p) : ∀ b, rg F N b p = none
  | .sc => rfl
  | .out => (S.ownH h).2.2.1
  | .new => (S.ownH h).2.1
  | .val => by
    show join F.A N p = none
    unfold join
    rw [(S.ownH h).2.2.1]
    exact (S.ownH h).2.1
  | .iob => (S.ownH h).2.2.2
end

/-! ### a step of evaluation -/
structure Step (F : Fm) (ρ : List Sl) (σ : St) (N H : Hp) (ρ' : List Sl) (N' H' : Hp) : Prop where
  n : Same N N'
  nw : ∀ a o, N' a = some o → N a = none → H a = none
  gr : ∀ a o, H a = some o → ∃ o', H' a = some o'
  kp : ∀ a o, H a = some o → (∀ i, ¬ OwnAt ρ σ i a) → H' a = some o
  sub : ∀ i p, OwnAt ρ' σ i p → OwnAt ρ σ i p
  sr : SR F N' ρ' σ H'
section
variable {F : Fm} {N N' N1 N2 H H' H1 H2 : Hp} {ρ ρ' ρ1 ρ2 : List Sl} {σ : St}
theorem Step.refl (S : SR F N ρ σ H) : Step F ρ σ N H ρ N H :=
  ⟨fun _ _ e => e, fun a o e n => (by rw [e] at n; cases n), fun a o e => ⟨o, e⟩, fun _ _ e _ => e, fun _ _ h => h, S⟩
theorem Step.trans (a : Step F ρ σ N H ρ1 N1 H1) (b : Step F ρ1 σ N1 H1 ρ2 N2 H2) : Step F ρ σ N H ρ2 N2 H2 where
  n := a.n.trans b.n
  nw := fun x o e n => by
    cases q : N1 x with
    | some u => exact a.nw x u q n
    | none =>
      have h1 := b.nw x o e q
      cases z : H x with
      | none => rfl
      | some u =>
        obtain ⟨o', e'⟩ := a.gr x u z
        rw [h1] at e'; cases e'
  gr := fun x o e => by
    obtain ⟨o', e'⟩ := a.gr x o e
    exact b.gr x o' e'
  kp := fun x o e h => b.kp x o (a.kp x o e h) fun i q => h i (a.sub i x q)
  sub := fun i p h => a.sub i p (b.sub i p h)
  sr := b.sr
/-- all that was is kept: the slots stand -/
theorem SR.grow (S : SR F N ρ σ H) (n : Same N N') (h : Same H H') (nH : Same N' H') (nw : ∀ a o, N' a = some o → N a = none → H a = none) : SR F N' ρ σ H' where
  aH := S.aH
  bH := S.bH
  ioA := S.ioA
  nH := nH
  nN := fun a o e => by
    cases q : N a with
    | some u => exact S.nN a u q
    | none => exact S.freshH0 (nw a o e q)
  keep := fun a o e i => h a o (S.keep a o e i)
  ioH := fun p hp => by
    obtain ⟨o, e⟩ := S.ioH p hp
    exact ⟨o, h p o e⟩
  len := S.len
  ok := fun i s e => by
    have k := S.ok i s e
    cases s with
    | no => trivial
    | ex v cs => exact ⟨k.1, fun c hc => n _ _ (k.2 c hc)⟩
    | v b d =>
      obtain ⟨w, e1, r⟩ := k
      exact ⟨w, e1, r.mono (rg_mono n b)⟩
    | own b ds =>
      obtain ⟨p, vs, e1, e2, e3, e4, r⟩ := k
      refine ⟨p, vs, e1, h _ _ e2, ?_, e4, r.mono (rg_mono n b)⟩
      cases q : N' p with
      | none => rfl
      | some u =>
        have := nw p u q e3
        rw [e2] at this; cases this
    | io p b ds =>
      obtain ⟨vs, e1, e2, e3, r⟩ := k
      exact ⟨vs, e1, h _ _ e2, e3, r.mono (rg_mono n b)⟩
  ap := S.ap
theorem Step.grow (S : SR F N ρ σ H) (n : Same N N') (h : Same H H') (nH : Same N' H') (nw : ∀ a o, N' a = some o → N a = none → H a = none) : Step F ρ σ N H ρ N' H' :=
  ⟨n, nw, fun a o e => ⟨o, h a o e⟩, fun a o e _ => h a o e, fun _ _ q => q, S.grow n h nH nw⟩
theorem same_upd' {H : Hp} {p : Addr} {o : HO} (h : H p = none) : Same H (upd H p o) := fun b x e => by
  rw [upd_ne (ne_of_none e h)]
  exact e
/-- a new object, made and never changed -/
theorem Step.made (S : SR F N ρ σ H) {p : Addr} {o : HO} (hp : H p = none) : Step F ρ σ N H ρ (upd N p o) (upd H p o) := by
  refine Step.grow S (same_upd' (S.freshN hp)) (same_upd' hp) (fun a u e => ?_) (fun a u e n => ?_)
  · by_cases h : a = p
    · subst h; rw [upd_same] at e ⊢; exact e
    · rw [upd_ne h] at e ⊢; exact S.nH _ _ e
  · by_cases h : a = p
    · subst h; exact hp
    · rw [upd_ne h, n] at e; cases e
/-- a new object of one's own -/
theorem Step.laid (S : SR F N ρ σ H) {p : Addr} {o : HO} (hp : H p = none) : Step F ρ σ N H ρ N (upd H p o) :=
  Step.grow S (fun _ _ e => e) (same_upd' hp) (fun a u e => same_upd' hp a u (S.nH a u e)) fun a u e n => by rw [e] at n; cases n
/-- an own new list, from now on never changed -/
theorem Step.freeze (S0 : SR F N ρ σ H) (S : Step F ρ σ N H ρ' N' H') {p : Addr} {o : HO} (hp : H p = none) (hq : H' p = some o) (hn : N' p = none) : Step F ρ σ N H ρ' (upd N' p o) H' := by
  have hs : Same N' (upd N' p o) := same_upd' hn
  have nH : Same (upd N' p o) H' := fun a u e => by
    by_cases h : a = p
    · subst h; rw [upd_same] at e; rw [hq]; exact e
    · rw [upd_ne h] at e; exact S.sr.nH _ _ e
  refine ⟨S.n.trans hs, fun a u e n => ?_, S.gr, S.kp, S.sub, ⟨S.sr.aH, S.sr.bH, S.sr.ioA, nH, fun a u e => ?_, S.sr.keep, S.sr.ioH, S.sr.len, fun i s e => ?_, S.sr.ap⟩⟩
  · by_cases h : a = p
    · subst h; exact hp
    · rw [upd_ne h] at e; exact S.nw a u e n
  · by_cases h : a = p
    · subst h; exact S0.freshH0 hp
    · rw [upd_ne h] at e; exact S.sr.nN a u e
  · have k := S.sr.ok i s e
    have notp : OwnAt ρ' σ i p → False := fun q => by
      obtain ⟨⟨vs, e1⟩, _⟩ := S0.ownH (S.sub i p q)
      rw [hp] at e1; cases e1
    cases s with
    | no => trivial
    | ex v cs => exact ⟨k.1, fun c hc => hs _ _ (k.2 c hc)⟩
    | v b d =>
      obtain ⟨w, e1, r⟩ := k
      exact ⟨w, e1, r.mono (rg_mono hs b)⟩
    | own b ds =>
      obtain ⟨q, vs, e1, e2, e3, e4, r⟩ := k
      refine ⟨q, vs, e1, e2, ?_, e4, r.mono (rg_mono hs b)⟩
      rw [upd_ne (fun z => notp ⟨⟨_, e, rfl⟩, ?_⟩)]
      · exact e3
      · subst z
        cases hx : σ[i]? with
        | none => rw [hx] at e1; cases e1
        | some y => rw [hx] at e1; exact congrArg some e1
    | io q b ds =>
      obtain ⟨vs, e1, e2, e3, r⟩ := k
      exact ⟨vs, e1, e2, e3, r.mono (rg_mono hs b)⟩
end
end TP

/-! the judgements over readings, by data; expressions -/
namespace TP
open PySem PySem.Spec L2

/-! ### what a value is held as -/
inductive Ek where
  | k (b : B)
  | bor (i : Nat) (b : B)
/-- the region of its items -/
def Ek.ib : Ek → B
  | .k x => x
  | .bor _ x => x
def Hold (F : Fm) (N : Hp) (ρ : List Sl) (σ : St) : Ek → V → PyData → Prop
  | .k b, v, d => Dv (rg F N b) v d
  | .bor i b, v, d => σ[i]? = some (some v) ∧ ∃ ds, d = .list ds ∧ (ρ[i]? = some (.own b ds) ∨ ∃ p, ρ[i]? = some (.io p b ds))
def Keeps : Ek → List Sl → List Sl → Prop
  | .k _, _, _ => True
  | .bor i _, ρ, ρ' => ρ'[i]? = ρ[i]?
section
variable {F : Fm} {N N' H H' : Hp} {ρ ρ' ρ1 ρ2 : List Sl} {σ : St} {k : Ek} {v : V} {d : PyData} {ds : List PyData}
theorem Hold.step (s : Step F ρ σ N H ρ' N' H') (hk : Keeps k ρ ρ') (h : Hold F N ρ σ k v d) : Hold F N' ρ' σ k v d := by
  cases k with
  | k b => exact Dv.mono (rg_mono s.n b) h
  | bor i b =>
    obtain ⟨h1, ds, h2, h3⟩ := h
    have hk : ρ'[i]? = ρ[i]? := hk
    refine ⟨h1, ds, h2, ?_⟩
    rw [hk]
    exact h3
theorem Hold.lst (S : SR F N ρ σ H) (h : Hold F N ρ σ k v (.list ds)) : ∃ a vs, v = .ref a ∧ H a = some (.lst vs) ∧ DvL (rg F N k.ib) vs ds := by
  cases k with
  | k b =>
    obtain ⟨a, vs, e1, e2, r⟩ := Dv.lst_inv h
    exact ⟨a, vs, e1, S.rgH b _ _ e2, by exact r⟩
  | bor i b =>
    obtain ⟨h1, es, h2, h3⟩ := h
    cases h2
    rcases h3 with h3 | ⟨p, h3⟩
    · obtain ⟨p, vs, e1, e2, _, _, r⟩ := S.ok i _ h3
      rw [h1] at e1
      cases (show some v = some (V.ref p) from e1)
      exact ⟨p, vs, rfl, e2, by exact r⟩
    · obtain ⟨vs, e1, e2, _, r⟩ := S.ok i _ h3
      rw [h1] at e1
      cases (show some v = some (V.ref p) from e1)
      exact ⟨p, vs, rfl, e2, by exact r⟩
theorem Hold.tup (S : SR F N ρ σ H) (h : Hold F N ρ σ k v (.tuple ds)) : ∃ a vs, v = .ref a ∧ H a = some (.tup vs) ∧ DvL (rg F N k.ib) vs ds := by
  cases k with
  | k b =>
    obtain ⟨a, vs, e1, e2, r⟩ := Dv.tup_inv h
    exact ⟨a, vs, e1, S.rgH b _ _ e2, by exact r⟩
  | bor i b =>
    obtain ⟨h1, es, h2, h3⟩ := h
    cases h2
theorem Hold.int {i : Int} (h : Hold F N ρ σ k v (.int i)) : v = .int i := by
  cases k with
  | k b => exact Dv.int_inv h
  | bor j b => obtain ⟨_, _, h2, _⟩ := h; cases h2
theorem Hold.bl {c : Bool} (h : Hold F N ρ σ k v (.bool c)) : v = .bl c := by
  cases k with
  | k b => exact Dv.bl_inv h
  | bor j b => obtain ⟨_, _, h2, _⟩ := h; cases h2
theorem Hold.str {x : Str} (h : Hold F N ρ σ k v (.str x)) : v = .str x := by
  cases k with
  | k b => exact Dv.str_inv h
  | bor j b => obtain ⟨_, _, h2, _⟩ := h; cases h2
theorem Hold.non (h : Hold F N ρ σ k v .none) : v = .non := by
  cases k with
  | k b => exact Dv.non_inv h
  | bor j b => obtain ⟨_, _, h2, _⟩ := h; cases h2
/-- as it is to be read anywhere in the heap -/
theorem Hold.dvH (S : SR F N ρ σ H) (h : Hold F N ρ σ k v d) : Dv H v d := by
  cases k with
  | k b => exact Dv.mono (S.rgH b) h
  | bor i b =>
    obtain ⟨h1, es, h2, h3⟩ := id h
    cases h2
    obtain ⟨a, vs, e1, e2, r⟩ := Hold.lst S h
    cases e1
    exact .lst e2 (DvL.mono (S.rgH b) r)
end

/-! ### the judgements -/
/-- an expression -/
def EvE (F : Fm) (ρ : List Sl) (te : TE) (k : Ek) (d : PyData) (ρ' : List Sl) : Prop :=
  ∀ (σ : St) (N H : Hp) (Q : VK), SR F N ρ σ H → (∀ v N' H', Step F ρ σ N H ρ' N' H' → Hold F N' ρ' σ k v d → Q v H') → te σ H Q
/-- a test -/
def EvT (F : Fm) (ρ : List Sl) (tt : TT) (c : Bool) (ρ' : List Sl) : Prop :=
  ∀ (σ : St) (N H : Hp) (Q : Bool → Hp → Prop), SR F N ρ σ H → (∀ N' H', Step F ρ σ N H ρ' N' H' → Q c H') → tt σ H Q
/-- an expression whose value is a new list of one's own -/
def EvO (F : Fm) (ρ : List Sl) (te : TE) (b : B) (ds : List PyData) (ρ' : List Sl) : Prop :=
  ∀ (σ : St) (N H : Hp) (Q : VK), SR F N ρ σ H → (∀ p vs N' H', Step F ρ σ N H ρ' N' H' → H p = none → H' p = some (.lst vs) → N' p = none → DvL (rg F N' b) vs ds → Q (.ref p) H') → te σ H Q
def HoldL (F : Fm) (N : Hp) (ρ : List Sl) (σ : St) : List (Ek × PyData) → List V → Prop
  | [], [] => True
  | (k, d) :: l, v :: vs => Hold F N ρ σ k v d ∧ HoldL F N ρ σ l vs
  | _, _ => False
/-- arguments, from the left -/
def EvA (F : Fm) (ρ : List Sl) (ta : TA) (l : List (Ek × PyData)) (ρ' : List Sl) : Prop :=
  ∀ (σ : St) (N H : Hp) (Q : List V → Hp → Prop), SR F N ρ σ H → (∀ vs N' H', Step F ρ σ N H ρ' N' H' → HoldL F N' ρ' σ l vs → Q vs H') → ta σ H Q
/-- an optional part of a slice -/
def EvP (F : Fm) (ρ : List Sl) (tp : TO) (o : Option Int) (ρ' : List Sl) : Prop :=
  ∀ (σ : St) (N H : Hp) (Q : Option Int → Hp → Prop), SR F N ρ σ H → (∀ N' H', Step F ρ σ N H ρ' N' H' → Q o H') → tp σ H Q

section
variable {F : Fm} {ρ ρ' ρ1 ρ2 ρ3 : List Sl} {ta tb tc te : TE} {k ka kb kc : Ek} {d d1 d2 : PyData} {ds es : List PyData} {b b' : B} {K : PySem.W.Frag}

theorem dv_ek (F : Fm) (N : Hp) (ρ : List Sl) (σ : St) (b : B) (v : V) (d : PyData) : Hold F N ρ σ (.k b) v d = Dv (rg F N b) v d := rfl
/-- sub-regions -/
theorem e_le (h : EvE F ρ te (.k b) d ρ') (l : B.le b b' = true) : EvE F ρ te (.k b') d ρ' := fun σ N H Q S q =>
  h σ N H Q S fun v N' H' s hv => q v N' H' s (Dv.mono (s.sr.sub l) hv)
/-- scalars lie nowhere -/
inductive IsSc : PyData → Prop
  | non : IsSc .none
  | bl (b : Bool) : IsSc (.bool b)
  | int (i : Int) : IsSc (.int i)
  | str (x : Str) : IsSc (.str x)
theorem Dv.sc {G : Hp} {v : V} (s : IsSc d) (h : Dv G v d) {G' : Hp} : Dv G' v d := by
  cases s with
  | non => cases h; exact .non
  | bl b => cases h; exact .bl b
  | int i => cases h; exact .int i
  | str x => cases h; exact .str x
theorem Hold.sc {N : Hp} {σ : St} {v : V} (s : IsSc d) (h : Hold F N ρ σ k v d) {G : Hp} : Dv G v d := by
  cases s with
  | non => cases h.non; exact .non
  | bl b => cases h.bl; exact .bl b
  | int i => cases h.int; exact .int i
  | str x => cases h.str; exact .str x
theorem e_sc (h : EvE F ρ te k d ρ') (s : IsSc d) : EvE F ρ te (.k b) d ρ' := fun σ N H Q S q =>
  h σ N H Q S fun v N' H' st hv => q v N' H' st (hv.sc s)
/-- a new own list, from now on never changed -/
theorem fz_le : ∀ b : B, b ≠ .iob → B.le b b.fz = true
  | .sc, _ => rfl
  | .out, _ => rfl
  | .new, _ => rfl
  | .val, _ => rfl
  | .iob, h => absurd rfl h
theorem e_fz (h : EvO F ρ te b ds ρ') (hb : b ≠ .iob := by decide) : EvE F ρ te (.k b.fz) (.list ds) ρ' := fun σ N H Q S q =>
  h σ N H Q S fun p vs N' H' st hp hq hn r => by
    have st' := Step.freeze S st hp hq hn
    refine q (.ref p) (upd N' p (.lst vs)) H' st' ?_
    have sub : Same (rg F (upd N' p (.lst vs)) b) (rg F (upd N' p (.lst vs)) b.fz) := st'.sr.sub (fz_le b hb)
    have r' : DvL (rg F (upd N' p (.lst vs)) b.fz) vs ds := (r.mono (rg_mono (same_upd' hn) b)).mono sub
    refine Dv.lst ?_ r'
    have top : (upd N' p (.lst vs)) p = some (.lst vs) := upd_same
    cases b with
    | sc => exact top
    | new => exact top
    | out => exact same_join_r st'.sr.dis _ _ top
    | val => exact same_join_r st'.sr.dis _ _ top
    | iob => exact absurd rfl hb

/-! ### names, constants -/
theorem e_var {i : Nat} (h : ρ[i]? = some (.v b d)) : EvE F ρ (tVar i) (.k b) d ρ := fun σ N H Q S q => by
  obtain ⟨w, e, r⟩ := S.ok i _ h
  have e2 : σ[i]? = some (some w) := by
    cases z : σ[i]? with
    | none => rw [z] at e; cases e
    | some y => rw [z] at e; exact congrArg some e
  exact ⟨w, e2, q w N H (Step.refl S) r⟩
theorem e_own {i : Nat} (h : ρ[i]? = some (.own b ds)) : EvE F ρ (tVar i) (.bor i b) (.list ds) ρ := fun σ N H Q S q => by
  obtain ⟨p, vs, e, _⟩ := S.ok i _ h
  have e2 : σ[i]? = some (some (.ref p)) := by
    cases z : σ[i]? with
    | none => rw [z] at e; cases e
    | some y => rw [z] at e; exact congrArg some e
  exact ⟨_, e2, q _ N H (Step.refl S) ⟨e2, ds, rfl, .inl h⟩⟩
theorem e_io {i : Nat} {p : Addr} (h : ρ[i]? = some (.io p b ds)) : EvE F ρ (tVar i) (.bor i b) (.list ds) ρ := fun σ N H Q S q => by
  obtain ⟨vs, e, _⟩ := S.ok i _ h
  have e2 : σ[i]? = some (some (.ref p)) := by
    cases z : σ[i]? with
    | none => rw [z] at e; cases e
    | some y => rw [z] at e; exact congrArg some e
  exact ⟨_, e2, q _ N H (Step.refl S) ⟨e2, ds, rfl, .inr ⟨p, h⟩⟩⟩
theorem e_int {i : Int} : EvE F ρ (tC (.int i)) (.k .sc) (.int i) ρ := fun σ N H Q S q => q _ N H (Step.refl S) (Dv.int i)
theorem e_bl {c : Bool} : EvE F ρ (tC (.bl c)) (.k .sc) (.bool c) ρ := fun σ N H Q S q => q _ N H (Step.refl S) (Dv.bl c)
theorem e_non : EvE F ρ (tC .non) (.k .sc) .none ρ := fun σ N H Q S q => q _ N H (Step.refl S) Dv.non
theorem e_str {x y : Str} (h : x = y := by decide +kernel) : EvE F ρ (tC (.str x)) (.k .sc) (.str y) ρ := fun σ N H Q S q => by
  subst h
  exact q _ N H (Step.refl S) (Dv.str x)

/-! ### operators -/
/-- two values, then an operation -/
theorem e_op {r : R2} (ha : EvE F ρ ta ka d1 ρ1) (hb : EvE F ρ1 tb kb d2 ρ2) (hk : Keeps ka ρ1 ρ2)
    (h : ∀ (σ : St) (N H : Hp) (v w : V) (Q : VK), SR F N ρ2 σ H → Hold F N ρ2 σ ka v d1 → Hold F N ρ2 σ kb w d2 → (∀ u N' H', Step F ρ2 σ N H ρ2 N' H' → Hold F N' ρ2 σ k u d → Q u H') → r v w H Q) :
    EvE F ρ (tOp r ta tb) k d ρ2 := fun σ N H Q S q =>
  ha σ N H _ S fun v N1 H1 s1 h1 => hb σ N1 H1 _ s1.sr fun w N2 H2 s2 h2 =>
    h σ N2 H2 v w Q s2.sr (h1.step s2 hk) h2 fun u N3 H3 s3 h3 => q u N3 H3 ((s1.trans s2).trans s3) h3
theorem o_op {r : R2} (ha : EvE F ρ ta ka d1 ρ1) (hb : EvE F ρ1 tb kb d2 ρ2) (hk : Keeps ka ρ1 ρ2)
    (h : ∀ (σ : St) (N H : Hp) (v w : V) (Q : VK), SR F N ρ2 σ H → Hold F N ρ2 σ ka v d1 → Hold F N ρ2 σ kb w d2 → (∀ p vs, H p = none → DvL (rg F N b) vs ds → Q (.ref p) (upd H p (.lst vs))) → r v w H Q) :
    EvO F ρ (tOp r ta tb) b ds ρ2 := fun σ N H Q S q =>
  ha σ N H _ S fun v N1 H1 s1 h1 => hb σ N1 H1 _ s1.sr fun w N2 H2 s2 h2 =>
    h σ N2 H2 v w Q s2.sr (h1.step s2 hk) h2 fun p vs hp r => by
      have s12 := s1.trans s2
      refine q p vs N2 (upd H2 p (.lst vs)) (s12.trans (Step.laid s12.sr hp)) ?_ upd_same (s12.sr.freshN hp) r
      cases z : H p with
      | none => rfl
      | some o =>
        obtain ⟨o', e⟩ := s12.gr p o z
        rw [hp] at e; cases e
theorem keeps_self (k : Ek) (ρ : List Sl) : Keeps k ρ ρ := by
  cases k with
  | k b => trivial
  | bor i b => exact rfl
/-- ints under a condition -/
theorem e_opI {C : Int → Int → Prop} {g : Int → Int → V} {i j : Int} (ha : EvE F ρ ta ka (.int i) ρ1) (hb : EvE F ρ1 tb kb (.int j) ρ2) (hc : C i j) (hg : IsSc d := by constructor) (hv : Dv e0 (g i j) d := by constructor) :
    EvE F ρ (tOp (rI C g) ta tb) (.k .sc) d ρ2 := fun σ N H Q S q =>
  ha σ N H _ S fun v N1 H1 s1 h1 => hb σ N1 H1 _ s1.sr fun w N2 H2 s2 h2 =>
    ⟨i, j, h1.int, h2.int, hc, q _ N2 H2 (s1.trans s2) hv⟩
theorem e_opI0 {g : Int → Int → V} {i j : Int} (ha : EvE F ρ ta ka (.int i) ρ1) (hb : EvE F ρ1 tb kb (.int j) ρ2) (hv : Dv e0 (g i j) d := by constructor) :
    EvE F ρ (tOp (rI0 g) ta tb) (.k .sc) d ρ2 := fun σ N H Q S q =>
  ha σ N H _ S fun v N1 H1 s1 h1 => hb σ N1 H1 _ s1.sr fun w N2 H2 s2 h2 =>
    ⟨i, j, h1.int, h2.int, q _ N2 H2 (s1.trans s2) hv⟩
theorem e_add {i j : Int} (ha : EvE F ρ ta ka (.int i) ρ1) (hb : EvE F ρ1 tb kb (.int j) ρ2) : EvE F ρ (tOp (rI0 fun i j => .int (i + j)) ta tb) (.k .sc) (.int (i + j)) ρ2 := e_opI0 ha hb (.int _)
theorem e_sub {i j : Int} (ha : EvE F ρ ta ka (.int i) ρ1) (hb : EvE F ρ1 tb kb (.int j) ρ2) : EvE F ρ (tOp (rI0 fun i j => .int (i - j)) ta tb) (.k .sc) (.int (i - j)) ρ2 := e_opI0 ha hb (.int _)
theorem e_mul {i j : Int} (ha : EvE F ρ ta ka (.int i) ρ1) (hb : EvE F ρ1 tb kb (.int j) ρ2) (h : CMul i j) : EvE F ρ (tOp (rI CMul fun i j => .int (i * j)) ta tb) (.k .sc) (.int (i * j)) ρ2 := e_opI ha hb h (.int _) (.int _)
theorem e_fdiv {i j : Int} (ha : EvE F ρ ta ka (.int i) ρ1) (hb : EvE F ρ1 tb kb (.int j) ρ2) (h : CDiv i j) : EvE F ρ (tOp (rI CDiv fun i j => .int (i / j)) ta tb) (.k .sc) (.int (i / j)) ρ2 := e_opI ha hb h (.int _) (.int _)
theorem e_mod {i j : Int} (ha : EvE F ρ ta ka (.int i) ρ1) (hb : EvE F ρ1 tb kb (.int j) ρ2) (h : 0 < j) : EvE F ρ (tOp (rI (fun _ j => 0 < j) fun i j => .int (i % j)) ta tb) (.k .sc) (.int (i % j)) ρ2 := e_opI (C := fun _ j => 0 < j) ha hb h (.int _) (.int _)
theorem e_pow {i j : Int} (ha : EvE F ρ ta ka (.int i) ρ1) (hb : EvE F ρ1 tb kb (.int j) ρ2) (h : CPow i j) : EvE F ρ (tOp (rI CPow fun i j => .int (i ^ j.toNat)) ta tb) (.k .sc) (.int (i ^ j.toNat)) ρ2 := e_opI ha hb h (.int _) (.int _)
theorem e_neg {i : Int} (ha : EvE F ρ ta ka (.int i) ρ1) : EvE F ρ (tUn (rU fun i => .int (-i)) ta) (.k .sc) (.int (-i)) ρ1 := fun σ N H Q S q =>
  ha σ N H _ S fun v N1 H1 s1 h1 => ⟨i, h1.int, q _ N1 H1 s1 (Dv.int _)⟩
/-- a comparison of ints, as a value -/
theorem e_cmp {f : Int → Int → Bool} {i j : Int} (ha : EvE F ρ ta ka (.int i) ρ1) (hb : EvE F ρ1 tb kb (.int j) ρ2) : EvE F ρ (tOp (rI0 fun i j => .bl (f i j)) ta tb) (.k .sc) (.bool (f i j)) ρ2 := e_opI0 ha hb (.bl _)
/-- a value that is a bool, as a test -/
theorem t_val {c : Bool} (h : EvE F ρ te k (.bool c) ρ') : EvT F ρ (tTest te) c ρ' := fun σ N H Q S q =>
  h σ N H _ S fun v N' H' s hv => ⟨c, hv.bl, q N' H' s⟩
theorem t_valB {c : Bool} (h : EvE F ρ te k (.bool c) ρ') : EvT F ρ (tB te) c ρ' := fun σ N H Q S q =>
  h σ N H _ S fun v N' H' s hv => ⟨c, hv.bl, q N' H' s⟩
/-- == of scalars -/
def scd : PyData → Option V
  | .none => some .non
  | .bool b => some (.bl b)
  | .int i => some (.int i)
  | .str x => some (.str x)
  | _ => none
theorem e_eqI {i j : Int} (ha : EvE F ρ ta ka (.int i) ρ1) (hb : EvE F ρ1 tb kb (.int j) ρ2) : EvE F ρ (tOp rEq ta tb) (.k .sc) (.bool (decide (i = j))) ρ2 := fun σ N H Q S q =>
  ha σ N H _ S fun v N1 H1 s1 h1 => hb σ N1 H1 _ s1.sr fun w N2 H2 s2 h2 => by
    cases h1.int; cases h2.int
    refine ⟨rfl, ?_⟩
    have e : decide (V.int i = V.int j) = decide (i = j) := by
      by_cases h : i = j
      · subst h; simp
      · simp [h]
    rw [e]
    exact q _ N2 H2 (s1.trans s2) (Dv.bl _)
theorem e_neI {i j : Int} (ha : EvE F ρ ta ka (.int i) ρ1) (hb : EvE F ρ1 tb kb (.int j) ρ2) : EvE F ρ (tOp rNe ta tb) (.k .sc) (.bool (!decide (i = j))) ρ2 := fun σ N H Q S q =>
  ha σ N H _ S fun v N1 H1 s1 h1 => hb σ N1 H1 _ s1.sr fun w N2 H2 s2 h2 => by
    cases h1.int; cases h2.int
    refine ⟨rfl, ?_⟩
    have e : decide (V.int i = V.int j) = decide (i = j) := by
      by_cases h : i = j
      · subst h; simp
      · simp [h]
    rw [e]
    exact q _ N2 H2 (s1.trans s2) (Dv.bl _)
theorem e_eqS {i j : Str} (ha : EvE F ρ ta ka (.str i) ρ1) (hb : EvE F ρ1 tb kb (.str j) ρ2) : EvE F ρ (tOp rEq ta tb) (.k .sc) (.bool (decide (i = j))) ρ2 := fun σ N H Q S q =>
  ha σ N H _ S fun v N1 H1 s1 h1 => hb σ N1 H1 _ s1.sr fun w N2 H2 s2 h2 => by
    cases h1.str; cases h2.str
    refine ⟨rfl, ?_⟩
    have e : decide (V.str i = V.str j) = decide (i = j) := by
      by_cases h : i = j
      · subst h; simp
      · simp [h]
    rw [e]
    exact q _ N2 H2 (s1.trans s2) (Dv.bl _)
theorem e_neS {i j : Str} (ha : EvE F ρ ta ka (.str i) ρ1) (hb : EvE F ρ1 tb kb (.str j) ρ2) : EvE F ρ (tOp rNe ta tb) (.k .sc) (.bool (!decide (i = j))) ρ2 := fun σ N H Q S q =>
  ha σ N H _ S fun v N1 H1 s1 h1 => hb σ N1 H1 _ s1.sr fun w N2 H2 s2 h2 => by
    cases h1.str; cases h2.str
    refine ⟨rfl, ?_⟩
    have e : decide (V.str i = V.str j) = decide (i = j) := by
      by_cases h : i = j
      · subst h; simp
      · simp [h]
    rw [e]
    exact q _ N2 H2 (s1.trans s2) (Dv.bl _)
/-- == of bools -/
theorem e_eqB {i j : Bool} (ha : EvE F ρ ta ka (.bool i) ρ1) (hb : EvE F ρ1 tb kb (.bool j) ρ2) : EvE F ρ (tOp rEq ta tb) (.k .sc) (.bool (i == j)) ρ2 := fun σ N H Q S q =>
  ha σ N H _ S fun v N1 H1 s1 h1 => hb σ N1 H1 _ s1.sr fun w N2 H2 s2 h2 => by
    cases h1.bl; cases h2.bl
    refine ⟨rfl, ?_⟩
    have e : decide (V.bl i = V.bl j) = (i == j) := by cases i <;> cases j <;> rfl
    rw [e]
    exact q _ N2 H2 (s1.trans s2) (Dv.bl _)
theorem e_neB {i j : Bool} (ha : EvE F ρ ta ka (.bool i) ρ1) (hb : EvE F ρ1 tb kb (.bool j) ρ2) : EvE F ρ (tOp rNe ta tb) (.k .sc) (.bool (!(i == j))) ρ2 := fun σ N H Q S q =>
  ha σ N H _ S fun v N1 H1 s1 h1 => hb σ N1 H1 _ s1.sr fun w N2 H2 s2 h2 => by
    cases h1.bl; cases h2.bl
    refine ⟨rfl, ?_⟩
    have e : decide (V.bl i = V.bl j) = (i == j) := by cases i <;> cases j <;> rfl
    rw [e]
    exact q _ N2 H2 (s1.trans s2) (Dv.bl _)
/-- == of data of any depth -/
theorem e_eqD (ha : EvE F ρ ta ka d1 ρ1) (hb : EvE F ρ1 tb kb d2 ρ2) (hk : Keeps ka ρ1 ρ2) (h1 : SeqAt.shaped d1 = true) (h2 : SeqAt.shaped d2 = true) : EvE F ρ (tOp (rEqD K) ta tb) (.k .sc) (.bool (PyData.eqv d1 d2)) ρ2 :=
  e_op ha hb hk fun σ N H v w Q S x y q => ⟨d1, d2, (x.dvH S).dp (Same.refl H), (y.dvH S).dp (Same.refl H), h1, h2, q _ N H (Step.refl S) (Dv.bl _)⟩
theorem e_neD (ha : EvE F ρ ta ka d1 ρ1) (hb : EvE F ρ1 tb kb d2 ρ2) (hk : Keeps ka ρ1 ρ2) (h1 : SeqAt.shaped d1 = true) (h2 : SeqAt.shaped d2 = true) : EvE F ρ (tOp (rNeD K) ta tb) (.k .sc) (.bool (!PyData.eqv d1 d2)) ρ2 :=
  e_op ha hb hk fun σ N H v w Q S x y q => ⟨d1, d2, (x.dvH S).dp (Same.refl H), (y.dvH S).dp (Same.refl H), h1, h2, q _ N H (Step.refl S) (Dv.bl _)⟩
/-- is None -/
def isN : PyData → Bool
  | .none => true
  | _ => false
theorem Hold.isN {N H : Hp} {σ : St} {v : V} (S : SR F N ρ σ H) (h : Hold F N ρ σ k v d) : decide (v = V.non) = isN d := by
  have r := h.dvH S
  cases r <;> rfl
theorem e_isN (ha : EvE F ρ ta ka d ρ1) (hy : EvE F ρ1 tb kb .none ρ2) (hk : Keeps ka ρ1 ρ2) : EvE F ρ (tOp (fun x y H Q => y = .non ∧ Q (.bl (decide (x = .non))) H) ta tb) (.k .sc) (.bool (isN d)) ρ2 :=
  e_op ha hy hk fun σ N H v w Q S x y q => ⟨y.non, by rw [x.isN S]; exact q _ N H (Step.refl S) (Dv.bl _)⟩
theorem e_notN (ha : EvE F ρ ta ka d ρ1) (hy : EvE F ρ1 tb kb .none ρ2) (hk : Keeps ka ρ1 ρ2) : EvE F ρ (tOp (fun x y H Q => y = .non ∧ Q (.bl (!decide (x = .non))) H) ta tb) (.k .sc) (.bool (!isN d)) ρ2 :=
  e_op ha hy hk fun σ N H v w Q S x y q => ⟨y.non, by rw [x.isN S]; exact q _ N H (Step.refl S) (Dv.bl _)⟩
end
end TP

/-! texts, lists, tuples, built-ins, and or not, calls -/
namespace TP
open PySem PySem.Spec L2

/-! ### texts as lists of codes -/
abbrev Tx := List Nat
def S (t : Tx) : Str := ⟨t.toArray⟩
theorem S_cps (t : Tx) : (S t).cps.toList = t := by simp [S]
theorem S_len (t : Tx) : (S t).length = t.length := by simp [S, Str.length]
theorem S_inj {a b : Tx} (h : S a = S b) : a = b := by
  have := congrArg (fun x : Str => x.cps.toList) h
  simpa [S] using this
theorem S_eq {a b : Tx} : (S a = S b) ↔ a = b := ⟨S_inj, fun h => by rw [h]⟩
theorem S_app (a b : Tx) : S a ++ S b = S (a ++ b) := by
  show (⟨a.toArray ++ b.toArray⟩ : Str) = _
  simp [S]
theorem S_of (x : Str) : S x.cps.toList = x := by simp [S]
theorem dec_S (a b : Tx) : decide (S a = S b) = decide (a = b) := by
  by_cases h : a = b
  · subst h; simp
  · have : ¬ S a = S b := fun q => h (S_inj q)
    simp [h, this]
/-- the part from lo to hi -/
def cutL {α : Type} (xs : List α) (lo hi : Option Int) : List α := (xs.drop (HT.sIx xs.length 0 lo)).take (HT.sIx xs.length xs.length hi - HT.sIx xs.length 0 lo)
theorem cutL_map {α β : Type} (f : α → β) (xs : List α) (lo hi : Option Int) : cutL (xs.map f) lo hi = (cutL xs lo hi).map f := by
  unfold cutL
  rw [List.length_map, List.map_take, List.map_drop]
theorem cutL_len {α : Type} (xs : List α) (lo hi : Option Int) : (cutL xs lo hi).length ≤ xs.length := by
  unfold cutL
  rw [List.length_take, List.length_drop]
  omega

section
variable {F : Fm} {ρ ρ' ρ1 ρ2 ρ3 ρ4 : List Sl} {ta tb tc te : TE} {k ka kb kc : Ek} {d d1 d2 : PyData} {ds es : List PyData} {b b' : B} {K : PySem.W.Frag}

theorem e_eqT {i j : Tx} (ha : EvE F ρ ta ka (.str (S i)) ρ1) (hb : EvE F ρ1 tb kb (.str (S j)) ρ2) : EvE F ρ (tOp rEq ta tb) (.k .sc) (.bool (decide (i = j))) ρ2 := by
  rw [← dec_S]; exact e_eqS ha hb
theorem e_neT {i j : Tx} (ha : EvE F ρ ta ka (.str (S i)) ρ1) (hb : EvE F ρ1 tb kb (.str (S j)) ρ2) : EvE F ρ (tOp rNe ta tb) (.k .sc) (.bool (!decide (i = j))) ρ2 := by
  rw [← dec_S]; exact e_neS ha hb
theorem e_addS {i j : Tx} (ha : EvE F ρ ta ka (.str (S i)) ρ1) (hb : EvE F ρ1 tb kb (.str (S j)) ρ2) (hz : i.length + j.length ≤ sizeLine) :
    EvE F ρ (tOp (fun x y H Q => ∃ i j, x = .str i ∧ y = .str j ∧ i.length + j.length ≤ sizeLine ∧ Q (.str (i ++ j)) H) ta tb) (.k .sc) (.str (S (i ++ j))) ρ2 := fun σ N H Q S0 q =>
  ha σ N H _ S0 fun v N1 H1 s1 h1 => hb σ N1 H1 _ s1.sr fun w N2 H2 s2 h2 =>
    ⟨S i, S j, h1.str, h2.str, by rw [S_len, S_len]; exact hz, q _ N2 H2 (s1.trans s2) (by rw [S_app]; exact Dv.str _)⟩
/-- a sign in a text -/
theorem e_inS {c : Nat} {z : Tx} (ha : EvE F ρ ta ka (.str (S [c])) ρ1) (hb : EvE F ρ1 tb kb (.str (S z)) ρ2) :
    EvE F ρ (tOp (fun x y H Q => ∃ (c : Nat) (z : Str), x = .str ⟨#[c]⟩ ∧ y = .str z ∧ Q (.bl (decide (c ∈ z.cps.toList))) H) ta tb) (.k .sc) (.bool (decide (c ∈ z))) ρ2 := fun σ N H Q S0 q =>
  ha σ N H _ S0 fun v N1 H1 s1 h1 => hb σ N1 H1 _ s1.sr fun w N2 H2 s2 h2 =>
    ⟨c, S z, h1.str, h2.str, by rw [S_cps]; exact q _ N2 H2 (s1.trans s2) (Dv.bl _)⟩
theorem e_ninS {c : Nat} {z : Tx} (ha : EvE F ρ ta ka (.str (S [c])) ρ1) (hb : EvE F ρ1 tb kb (.str (S z)) ρ2) :
    EvE F ρ (tOp (fun x y H Q => ∃ (c : Nat) (z : Str), x = .str ⟨#[c]⟩ ∧ y = .str z ∧ Q (.bl (!decide (c ∈ z.cps.toList))) H) ta tb) (.k .sc) (.bool (!decide (c ∈ z))) ρ2 := fun σ N H Q S0 q =>
  ha σ N H _ S0 fun v N1 H1 s1 h1 => hb σ N1 H1 _ s1.sr fun w N2 H2 s2 h2 =>
    ⟨c, S z, h1.str, h2.str, by rw [S_cps]; exact q _ N2 H2 (s1.trans s2) (Dv.bl _)⟩
/-- text * number -/
def mulT (t : Tx) (n : Int) : Tx := (List.replicate n.toNat t).flatten
theorem foldl_app (x : Array Nat) : ∀ (n : Nat) (acc : Array Nat), ((List.replicate n x).foldl (· ++ ·) acc).toList = acc.toList ++ (List.replicate n x.toList).flatten
  | 0, acc => by simp
  | n + 1, acc => by
    rw [List.replicate_succ, List.foldl_cons, foldl_app x n, List.replicate_succ, List.flatten_cons, Array.toList_append, List.append_assoc]
theorem txt_mul (t : Tx) (n : Int) : Txt.mul (S t) n = S (mulT t n) := by
  unfold Txt.mul mulT
  by_cases h : n < 1
  · rw [if_pos h]
    have : n.toNat = 0 := by omega
    rw [this]; rfl
  · rw [if_neg h]
    by_cases h2 : (n == 1 || (S t).length == 0) = true
    · rw [if_pos h2]
      simp only [Bool.or_eq_true, beq_iff_eq] at h2
      rcases h2 with h2 | h2
      · subst h2; simp
      · rw [S_len] at h2
        have : t = [] := List.length_eq_zero_iff.mp h2
        subst this; simp
    · rw [if_neg h2]
      have := foldl_app t.toArray n.toNat #[]
      unfold S
      congr 1
      apply Array.toList_inj.mp
      rw [this]
      show [] ++ _ = _
      rw [List.nil_append]
theorem op_mul_str {X : Cx} : OpR X (binaryOp .Mult) (fun x y H Q => ∃ (i : Str) (n : Int), x = .str i ∧ y = .int n ∧ MulOk i n ∧ Q (.str (Txt.mul i n)) H) := by
  intro pins s σ H x y v u Q I rx ry h
  obtain ⟨i, j, rfl, rfl, hz, q⟩ := h
  obtain ⟨t, rfl⟩ := rx
  obtain ⟨t', rfl⟩ := ry
  exact SB.mul hz fun t' k => ⟨.str _, H, I.tok k, ⟨t', rfl⟩, q⟩
theorem mulOk {t : Tx} {n : Int} (h1 : n ≤ 1000000) (h0 : -1000000 ≤ n) (h2 : t.length * n.toNat ≤ sizeLine) : MulOk (S t) n := by
  have hs : sizeLine = 16777216 := sizeLine_eq
  refine ⟨?_, fun h3 _ => ?_, fun h3 h4 => ?_⟩
  · have a1 : ¬ n < -(2 ^ 63 : Int) := by omega
    have a2 : ¬ n ≥ 2 ^ 63 := by omega
    rw [decide_eq_false a1, decide_eq_false a2]; rfl
  · rw [S_len]
    obtain ⟨m, rfl⟩ : ∃ m : Nat, n = (m : Int) := ⟨n.toNat, by omega⟩
    rw [Int.toNat_natCast, hs] at h2
    intro h5
    have h6 : (2 ^ 63 - 1 : Int) / (m : Int) < (t.length : Int) := h5
    have h7 : (2 ^ 63 - 1 : Int) < t.length * (m : Int) := Int.lt_mul_of_ediv_lt (by omega) h6
    have h8 : ((t.length * m : Nat) : Int) ≤ ((16777216 : Nat) : Int) := Int.ofNat_le.mpr h2
    rw [Int.natCast_mul] at h8
    omega
  · rw [S_len]
    exact notLongL h2
theorem e_mulS {t : Tx} {n : Int} (ha : EvE F ρ ta ka (.str (S t)) ρ1) (hb : EvE F ρ1 tb kb (.int n) ρ2) (h1 : n ≤ 1000000) (h0 : -1000000 ≤ n) (h2 : t.length * n.toNat ≤ sizeLine) :
    EvE F ρ (tOp (fun x y H Q => ∃ (i : Str) (n : Int), x = .str i ∧ y = .int n ∧ MulOk i n ∧ Q (.str (Txt.mul i n)) H) ta tb) (.k .sc) (.str (S (mulT t n))) ρ2 := fun σ N H Q S0 q =>
  ha σ N H _ S0 fun v N1 H1 s1 x1 => hb σ N1 H1 _ s1.sr fun w N2 H2 s2 x2 =>
    ⟨S t, n, x1.str, x2.int, mulOk h1 h0 h2, q _ N2 H2 (s1.trans s2) (by rw [txt_mul]; exact Dv.str _)⟩

/-! ### subscripts, slices -/
theorem DvL.atI {G : Hp} {vs : List V} {ds : List PyData} {i : Int} {d : PyData} (h : DvL G vs ds) (e : atI ds i = some d) : ∃ v, atI vs i = some v ∧ Dv G v d := by
  unfold L2.atI at e ⊢
  rw [h.len]
  cases q : ixN ds.length i with
  | none => rw [q] at e; cases e
  | some j =>
    rw [q] at e
    obtain ⟨v, e1, r⟩ := h.get e
    exact ⟨v, e1, r⟩
theorem e_ixL {i : Int} (ha : EvE F ρ ta ka (.list ds) ρ1) (hb : EvE F ρ1 tb kb (.int i) ρ2) (hk : Keeps ka ρ1 ρ2) (h : atI ds i = some d) : EvE F ρ (tOp (rIxL K) ta tb) (.k ka.ib) d ρ2 :=
  e_op ha hb hk fun σ N H v w Q S x y q => by
    obtain ⟨a, vs, e1, e2, r⟩ := x.lst S
    obtain ⟨u, e3, r3⟩ := r.atI h
    exact ⟨a, vs, i, u, e1, y.int, SqL.of e2, e3, q u N H (Step.refl S) r3⟩
theorem e_ixT {i : Int} (ha : EvE F ρ ta ka (.tuple ds) ρ1) (hb : EvE F ρ1 tb kb (.int i) ρ2) (hk : Keeps ka ρ1 ρ2) (h : atI ds i = some d) : EvE F ρ (tOp (rIxT K) ta tb) (.k ka.ib) d ρ2 :=
  e_op ha hb hk fun σ N H v w Q S x y q => by
    obtain ⟨a, vs, e1, e2, r⟩ := x.tup S
    obtain ⟨u, e3, r3⟩ := r.atI h
    exact ⟨a, vs, i, u, e1, y.int, SqT.of e2, e3, q u N H (Step.refl S) r3⟩
theorem e_ixS {i : Int} {t : Tx} {c : Nat} (ha : EvE F ρ ta ka (.str (S t)) ρ1) (hb : EvE F ρ1 tb kb (.int i) ρ2) (hz : t.length ≤ sizeLine) (h : atI t i = some c) : EvE F ρ (tOp rIxS ta tb) (.k .sc) (.str (S [c])) ρ2 := fun σ N H Q S0 q =>
  ha σ N H _ S0 fun v N1 H1 s1 x1 => hb σ N1 H1 _ s1.sr fun w N2 H2 s2 x2 =>
    ⟨S t, i, c, x1.str, x2.int, by rw [S_len]; exact hz, by rw [S_cps]; exact h, q _ N2 H2 (s1.trans s2) (Dv.str _)⟩
theorem p_none : EvP F ρ tNoPart none ρ := fun σ N H Q S q => q N H (Step.refl S)
theorem p_some {i : Int} (ha : EvE F ρ ta ka (.int i) ρ1) : EvP F ρ (tPart ta) (some i) ρ1 := fun σ N H Q S q =>
  ha σ N H _ S fun v N1 H1 s1 x1 => ⟨i, x1.int, q N1 H1 s1⟩
theorem o_slL {tl th : TO} {lo hi : Option Int} (ha : EvE F ρ ta ka (.list ds) ρ1) (hl : EvP F ρ1 tl lo ρ2) (hh : EvP F ρ2 th hi ρ3) (hk : Keeps ka ρ1 ρ3) : EvO F ρ (tSl (rSlL K) ta tl th) ka.ib (cutL ds lo hi) ρ3 := fun σ N H Q S q =>
  ha σ N H _ S fun v N1 H1 s1 x1 => hl σ N1 H1 _ s1.sr fun N2 H2 s2 => hh σ N2 H2 _ s2.sr fun N3 H3 s3 => by
    have s23 := s2.trans s3
    have x3 := x1.step s23 hk
    obtain ⟨a, vs, e1, e2, r⟩ := x3.lst s23.sr
    have s13 := s1.trans s23
    refine ⟨a, vs, e1, SqL.of e2, fun p hp => q p _ N3 _ (s13.trans (Step.laid s13.sr hp)) ?_ upd_same (s13.sr.freshN hp) (r.cut lo hi)⟩
    cases z : H p with
    | none => rfl
    | some o =>
      obtain ⟨o', e⟩ := s13.gr p o z
      rw [hp] at e; cases e
theorem cutS_S (t : Tx) (lo hi : Option Int) : cutS (S t) lo hi = S (cutL t lo hi) := by
  unfold cutS cutL
  rw [S_len, S_cps]
  rfl
theorem e_slS {tl th : TO} {lo hi : Option Int} {t : Tx} (ha : EvE F ρ ta ka (.str (S t)) ρ1) (hl : EvP F ρ1 tl lo ρ2) (hh : EvP F ρ2 th hi ρ3) (hz : t.length ≤ sizeLine) : EvE F ρ (tSl rSlS ta tl th) (.k .sc) (.str (S (cutL t lo hi))) ρ3 := fun σ N H Q S0 q =>
  ha σ N H _ S0 fun v N1 H1 s1 x1 => hl σ N1 H1 _ s1.sr fun N2 H2 s2 => hh σ N2 H2 _ s2.sr fun N3 H3 s3 =>
    ⟨S t, x1.str, by rw [S_len]; exact hz, q _ N3 H3 ((s1.trans s2).trans s3) (by rw [cutS_S]; exact Dv.str _)⟩

/-! ### and, or, not, a if c else b -/
theorem t_and {tA tB' : TT} {c e : Bool} (ha : EvT F ρ tA c ρ1) (hb : c = true → EvT F ρ1 tB' e ρ1) : EvT F ρ (tAnd tA tB') (c && e) ρ1 := fun σ N H Q S q =>
  ha σ N H _ S fun N1 H1 s1 => by
    cases c with
    | true => rw [if_pos rfl]; exact hb rfl σ N1 H1 Q s1.sr fun N2 H2 s2 => q N2 H2 (s1.trans s2)
    | false => rw [if_neg Bool.false_ne_true]; exact q N1 H1 s1
theorem t_or {tA tB' : TT} {c e : Bool} (ha : EvT F ρ tA c ρ1) (hb : c = false → EvT F ρ1 tB' e ρ1) : EvT F ρ (tOr tA tB') (c || e) ρ1 := fun σ N H Q S q =>
  ha σ N H _ S fun N1 H1 s1 => by
    cases c with
    | true => rw [if_pos rfl]; exact q N1 H1 s1
    | false => rw [if_neg Bool.false_ne_true]; exact hb rfl σ N1 H1 Q s1.sr fun N2 H2 s2 => q N2 H2 (s1.trans s2)
/-- .. where the second one changes the state -/
theorem t_andX {tA tB' : TT} {c e : Bool} (ha : EvT F ρ tA c ρ1) (hb : c = true → EvT F ρ1 tB' e ρ2) (h2 : c = true → ρ3 = ρ2) (h1 : c = false → ρ3 = ρ1) : EvT F ρ (tAnd tA tB') (c && e) ρ3 := fun σ N H Q S q =>
  ha σ N H _ S fun N1 H1 s1 => by
    cases c with
    | true => rw [if_pos rfl]; rw [h2 rfl] at q; exact hb rfl σ N1 H1 Q s1.sr fun N2 H2 s2 => q N2 H2 (s1.trans s2)
    | false => rw [if_neg Bool.false_ne_true]; rw [h1 rfl] at q; exact q N1 H1 s1
theorem t_orX {tA tB' : TT} {c e : Bool} (ha : EvT F ρ tA c ρ1) (hb : c = false → EvT F ρ1 tB' e ρ2) (h2 : c = false → ρ3 = ρ2) (h1 : c = true → ρ3 = ρ1) : EvT F ρ (tOr tA tB') (c || e) ρ3 := fun σ N H Q S q =>
  ha σ N H _ S fun N1 H1 s1 => by
    cases c with
    | true => rw [if_pos rfl]; rw [h1 rfl] at q; exact q N1 H1 s1
    | false => rw [if_neg Bool.false_ne_true]; rw [h2 rfl] at q; exact hb rfl σ N1 H1 Q s1.sr fun N2 H2 s2 => q N2 H2 (s1.trans s2)
theorem t_not {tA : TT} {c : Bool} (ha : EvT F ρ tA c ρ1) : EvT F ρ (tNot tA) (!c) ρ1 := fun σ N H Q S q =>
  ha σ N H _ S fun N1 H1 s1 => q N1 H1 s1
theorem e_and {c e : Bool} (ha : EvE F ρ ta ka (.bool c) ρ1) (hb : c = true → EvE F ρ1 tb kb (.bool e) ρ1) : EvE F ρ (tAndV ta tb) (.k .sc) (.bool (c && e)) ρ1 := fun σ N H Q S q =>
  ha σ N H _ S fun v N1 H1 s1 x1 => ⟨c, x1.bl, by
    cases c with
    | true => rw [if_pos rfl]; exact hb rfl σ N1 H1 Q s1.sr fun v N2 H2 s2 x2 => q v N2 H2 (s1.trans s2) (x2.sc (.bl _))
    | false => rw [if_neg Bool.false_ne_true]; exact q _ N1 H1 s1 (Dv.bl _)⟩
theorem e_or {c e : Bool} (ha : EvE F ρ ta ka (.bool c) ρ1) (hb : c = false → EvE F ρ1 tb kb (.bool e) ρ1) : EvE F ρ (tOrV ta tb) (.k .sc) (.bool (c || e)) ρ1 := fun σ N H Q S q =>
  ha σ N H _ S fun v N1 H1 s1 x1 => ⟨c, x1.bl, by
    cases c with
    | true => rw [if_pos rfl]; exact q _ N1 H1 s1 (Dv.bl _)
    | false => rw [if_neg Bool.false_ne_true]; exact hb rfl σ N1 H1 Q s1.sr fun v N2 H2 s2 x2 => q v N2 H2 (s1.trans s2) (x2.sc (.bl _))⟩
theorem e_andX {c e : Bool} (ha : EvE F ρ ta ka (.bool c) ρ1) (hb : c = true → EvE F ρ1 tb kb (.bool e) ρ2) (h2 : c = true → ρ3 = ρ2) (h1 : c = false → ρ3 = ρ1) : EvE F ρ (tAndV ta tb) (.k .sc) (.bool (c && e)) ρ3 := fun σ N H Q S q =>
  ha σ N H _ S fun v N1 H1 s1 x1 => ⟨c, x1.bl, by
    cases c with
    | true => rw [if_pos rfl]; rw [h2 rfl] at q; exact hb rfl σ N1 H1 Q s1.sr fun v N2 H2 s2 x2 => q v N2 H2 (s1.trans s2) (x2.sc (.bl _))
    | false => rw [if_neg Bool.false_ne_true]; rw [h1 rfl] at q; exact q _ N1 H1 s1 (Dv.bl _)⟩
theorem e_not {c : Bool} (ha : EvE F ρ ta ka (.bool c) ρ1) : EvE F ρ (tNotV ta) (.k .sc) (.bool (!c)) ρ1 := fun σ N H Q S q =>
  ha σ N H _ S fun v N1 H1 s1 x1 => ⟨c, x1.bl, q _ N1 H1 s1 (Dv.bl _)⟩
theorem e_if {tt : TT} {c : Bool} (ht : EvT F ρ tt c ρ1) (ha : c = true → EvE F ρ1 ta (.k b) d1 ρ1) (hb : c = false → EvE F ρ1 tb (.k b) d2 ρ1) (hd1 : c = true → d = d1) (hd2 : c = false → d = d2) : EvE F ρ (tIf tt ta tb) (.k b) d ρ1 := fun σ N H Q S q =>
  ht σ N H _ S fun N1 H1 s1 => by
    cases c with
    | true => rw [if_pos rfl]; rw [hd1 rfl] at q; exact ha rfl σ N1 H1 Q s1.sr fun v N2 H2 s2 x2 => q v N2 H2 (s1.trans s2) x2
    | false => rw [if_neg Bool.false_ne_true]; rw [hd2 rfl] at q; exact hb rfl σ N1 H1 Q s1.sr fun v N2 H2 s2 x2 => q v N2 H2 (s1.trans s2) x2
/-- a chain of two comparisons of ints -/
theorem e_chain {f g : Int → Int → Bool} {i j l : Int} (ha : EvE F ρ ta ka (.int i) ρ1) (hb : EvE F ρ1 tb kb (.int j) ρ2) (hc : f i j = true → EvE F ρ2 tc kc (.int l) ρ2) :
    EvE F ρ (tChain (rI0 fun i j => .bl (f i j)) (rI0 fun i j => .bl (g i j)) ta tb tc) (.k .sc) (.bool (f i j && g j l)) ρ2 := fun σ N H Q S q =>
  ha σ N H _ S fun v N1 H1 s1 x1 => hb σ N1 H1 _ s1.sr fun w N2 H2 s2 x2 => by
    refine ⟨i, j, x1.int, x2.int, _, rfl, ?_⟩
    cases e : f i j with
    | true =>
      rw [if_pos rfl]
      exact hc e σ N2 H2 _ s2.sr fun u N3 H3 s3 x3 => ⟨j, l, x2.int, x3.int, by
        have := q (.bl (f i j && g j l)) N3 H3 ((s1.trans s2).trans s3) (Dv.bl _)
        rw [e, Bool.true_and] at this; exact this⟩
    | false =>
      rw [if_neg Bool.false_ne_true]
      have := q (.bl (f i j && g j l)) N2 H2 (s1.trans s2) (Dv.bl _)
      rw [e, Bool.false_and] at this; exact this
/-- truth of a list, of a number -/
theorem t_trL (ha : EvE F ρ te k (.list ds) ρ1) : EvT F ρ (fun σ H Q => te σ H fun x H' => ∃ k, TruV K x H' k ∧ Q k H') (!ds.isEmpty) ρ1 := fun σ N H Q S q =>
  ha σ N H _ S fun v N1 H1 s1 x1 => by
    obtain ⟨a, vs, e1, e2, r⟩ := x1.lst s1.sr
    subst e1
    refine ⟨!ds.isEmpty, .inl ⟨vs, SqL.of e2, ?_⟩, q N1 H1 s1⟩
    cases r <;> rfl

/-! ### arguments, displays -/
theorem a_nil : EvA F ρ tNil [] ρ := fun σ N H Q S q => q [] N H (Step.refl S) trivial
theorem a_cons {tr : TA} {l : List (Ek × PyData)} (ha : EvE F ρ ta ka d ρ1) (hr : EvA F ρ1 tr l ρ2) (hk : Keeps ka ρ1 ρ2) : EvA F ρ (tCons ta tr) ((ka, d) :: l) ρ2 := fun σ N H Q S q =>
  ha σ N H _ S fun v N1 H1 s1 x1 => hr σ N1 H1 _ s1.sr fun vs N2 H2 s2 x2 => q (v :: vs) N2 H2 (s1.trans s2) ⟨x1.step s2 hk, x2⟩
/-- all arguments lie in the region b -/
def AllIn (b : B) : List (Ek × PyData) → Prop
  | [] => True
  | (.k b', _) :: l => B.le b' b = true ∧ AllIn b l
  | _ => False
theorem HoldL.dvl {N H : Hp} {σ : St} (S : SR F N ρ σ H) : ∀ {l : List (Ek × PyData)} {vs : List V}, HoldL F N ρ σ l vs → AllIn b l → DvL (rg F N b) vs (l.map (·.2))
  | [], [], _, _ => .nil
  | (.k b', d) :: l, v :: vs, h, a => .cons (Dv.mono (S.sub a.1) h.1) (HoldL.dvl S h.2 a.2)
  | (.bor _ _, _) :: _, _, _, a => a.elim
  | [], _ :: _, h, _ => h.elim
  | (.k _, _) :: _, [], h, _ => h.elim
theorem HoldL.dvH {N H : Hp} {σ : St} (S : SR F N ρ σ H) : ∀ {l : List (Ek × PyData)} {vs : List V}, HoldL F N ρ σ l vs → DvL H vs (l.map (·.2))
  | [], [], _ => .nil
  | (_, _) :: _, _ :: _, h => .cons (h.1.dvH S) (HoldL.dvH S h.2)
  | [], _ :: _, h => h.elim
  | (_, _) :: _, [], h => h.elim
theorem HoldL.len {N : Hp} {σ : St} : ∀ {l : List (Ek × PyData)} {vs : List V}, HoldL F N ρ σ l vs → vs.length = l.length
  | [], [], _ => rfl
  | (_, _) :: _, _ :: _, h => by simp [HoldL.len h.2]
  | [], _ :: _, h => h.elim
  | (_, _) :: _, [], h => h.elim
theorem fresh_back {N N' H H' : Hp} {σ : St} (s : Step F ρ σ N H ρ' N' H') {p : Addr} (hp : H' p = none) : H p = none := by
  cases z : H p with
  | none => rfl
  | some o =>
    obtain ⟨o', e⟩ := s.gr p o z
    rw [hp] at e; cases e
theorem o_lst {t : TA} {l : List (Ek × PyData)} (ha : EvA F ρ t l ρ1) (hl : AllIn b l) (hz : l.length ≤ sizeLine := by simp [sizeLine_eq]) : EvO F ρ (tLst t) b (l.map (·.2)) ρ1 := fun σ N H Q S q =>
  ha σ N H _ S fun vs N1 H1 s1 x1 => ⟨by rw [x1.len]; exact hz, fun p hp => q p vs N1 _ (s1.trans (Step.laid s1.sr hp)) (fresh_back s1 hp) upd_same (s1.sr.freshN hp) (x1.dvl s1.sr hl)⟩
theorem e_tup {t : TA} {l : List (Ek × PyData)} (ha : EvA F ρ t l ρ1) (hl : AllIn b l) (hb : b ≠ .iob := by decide) (hz : l.length ≤ sizeLine := by simp [sizeLine_eq]) : EvE F ρ (tTup t) (.k b.fz) (.tuple (l.map (·.2))) ρ1 := fun σ N H Q S q =>
  ha σ N H _ S fun vs N1 H1 s1 x1 => ⟨by rw [x1.len]; exact hz, fun p hp => by
    have s2 := Step.made s1.sr (o := .tup vs) hp
    refine q (.ref p) _ _ (s1.trans s2) ?_
    have r := ((x1.dvl s1.sr hl).mono (rg_mono s2.n b)).mono (s2.sr.sub (fz_le b hb))
    refine Dv.tup ?_ r
    have top : (upd N1 p (.tup vs)) p = some (.tup vs) := upd_same
    cases b with
    | sc => exact top
    | new => exact top
    | out => exact same_join_r s2.sr.dis _ _ top
    | val => exact same_join_r s2.sr.dis _ _ top
    | iob => exact absurd rfl hb⟩
end
end TP

/-! built-ins, calls of defs, what is walked, targets, comprehensions -/
namespace TP
open PySem PySem.Spec L2

section
variable {F : Fm} {ρ ρ' ρ1 ρ2 ρ3 ρ4 : List Sl} {ta tb tc te : TE} {k ka kb kc : Ek} {d d1 d2 : PyData} {ds es : List PyData} {b b' : B} {K : PySem.W.Frag}

/-! ### built-ins -/
theorem e_cb {r : List V → Hp → VK → Prop} {t : TA} {l : List (Ek × PyData)} (ha : EvA F ρ t l ρ1)
    (h : ∀ (σ : St) (N H : Hp) (vs : List V) (Q : VK), SR F N ρ1 σ H → HoldL F N ρ1 σ l vs → (∀ u N' H', Step F ρ1 σ N H ρ1 N' H' → Hold F N' ρ1 σ k u d → Q u H') → r vs H Q) :
    EvE F ρ (tCB r t) k d ρ1 := fun σ N H Q S q =>
  ha σ N H _ S fun vs N1 H1 s1 x1 => h σ N1 H1 vs Q s1.sr x1 fun u N2 H2 s2 x2 => q u N2 H2 (s1.trans s2) x2
theorem e_cb1 {r : List V → Hp → VK → Prop} (ha : EvE F ρ ta ka d1 ρ1)
    (h : ∀ (σ : St) (N H : Hp) (v : V) (Q : VK), SR F N ρ1 σ H → Hold F N ρ1 σ ka v d1 → (∀ u N' H', Step F ρ1 σ N H ρ1 N' H' → Hold F N' ρ1 σ k u d → Q u H') → r [v] H Q) :
    EvE F ρ (tCB r (tCons ta tNil)) k d ρ1 := fun σ N H Q S q =>
  ha σ N H _ S fun v N1 H1 s1 x1 => h σ N1 H1 v Q s1.sr x1 fun u N2 H2 s2 x2 => q u N2 H2 (s1.trans s2) x2
theorem o_cb1 {r : List V → Hp → VK → Prop} (ha : EvE F ρ ta ka d1 ρ1)
    (h : ∀ (σ : St) (N H : Hp) (v : V) (Q : VK), SR F N ρ1 σ H → Hold F N ρ1 σ ka v d1 → (∀ p vs, H p = none → DvL (rg F N b) vs ds → Q (.ref p) (upd H p (.lst vs))) → r [v] H Q) :
    EvO F ρ (tCB r (tCons ta tNil)) b ds ρ1 := fun σ N H Q S q =>
  ha σ N H _ S fun v N1 H1 s1 x1 => h σ N1 H1 v Q s1.sr x1 fun p vs hp r => q p vs N1 _ (s1.trans (Step.laid s1.sr hp)) (fresh_back s1 hp) upd_same (s1.sr.freshN hp) r
def rLenS (K : PySem.W.Frag) : List V → Hp → VK → Prop := fun xs H Q => ∃ p ys, xs = [V.ref p] ∧ (SqL K H p ys ∨ SqT K H p ys) ∧ Q (.int ys.length) H
theorem call_lenQ {X : Cx} : CallR X (.builtin "len") (rLenS X.K) := call_len_seq
theorem e_lenL (ha : EvE F ρ ta ka (.list ds) ρ1) : EvE F ρ (tCB (rLenS K) (tCons ta tNil)) (.k .sc) (.int ds.length) ρ1 :=
  e_cb1 ha fun σ N H v Q S x q => by
    obtain ⟨a, vs, e1, e2, r⟩ := x.lst S
    subst e1
    exact ⟨a, vs, rfl, .inl (SqL.of e2), by rw [r.len]; exact q _ N H (Step.refl S) (Dv.int _)⟩
theorem e_lenT (ha : EvE F ρ ta ka (.tuple ds) ρ1) : EvE F ρ (tCB (rLenS K) (tCons ta tNil)) (.k .sc) (.int ds.length) ρ1 :=
  e_cb1 ha fun σ N H v Q S x q => by
    obtain ⟨a, vs, e1, e2, r⟩ := x.tup S
    subst e1
    exact ⟨a, vs, rfl, .inr (SqT.of e2), by rw [r.len]; exact q _ N H (Step.refl S) (Dv.int _)⟩
def rLenX : List V → Hp → VK → Prop := fun xs H Q => ∃ z, xs = [V.str z] ∧ z.length ≤ sizeLine ∧ Q (.int z.length) H
theorem call_lenX {X : Cx} : CallR X (.builtin "len") rLenX := call_len_str
theorem e_lenS {t : Tx} (ha : EvE F ρ ta ka (.str (S t)) ρ1) (hz : t.length ≤ sizeLine) : EvE F ρ (tCB rLenX (tCons ta tNil)) (.k .sc) (.int t.length) ρ1 :=
  e_cb1 ha fun σ N H v Q S0 x q => by
    have e := x.str
    subst e
    exact ⟨S t, rfl, by rw [S_len]; exact hz, by rw [S_len]; exact q _ N H (Step.refl S0) (Dv.int _)⟩
def rListOf (K : PySem.W.Frag) : List V → Hp → VK → Prop := fun xs H Q => ∃ p ys, xs = [V.ref p] ∧ (SqL K H p ys ∨ SqT K H p ys) ∧ ∀ l, H l = none → Q (.ref l) (upd H l (.lst ys))
theorem call_listQ {X : Cx} : CallR X (.type "list") (rListOf X.K) := call_list_of
theorem o_listL (ha : EvE F ρ ta ka (.list ds) ρ1) : EvO F ρ (tCB (rListOf K) (tCons ta tNil)) ka.ib ds ρ1 :=
  o_cb1 ha fun σ N H v Q S x q => by
    obtain ⟨a, vs, e1, e2, r⟩ := x.lst S
    subst e1
    exact ⟨a, vs, rfl, .inl (SqL.of e2), fun l hl => q l vs hl r⟩
theorem o_listT (ha : EvE F ρ ta ka (.tuple ds) ρ1) : EvO F ρ (tCB (rListOf K) (tCons ta tNil)) ka.ib ds ρ1 :=
  o_cb1 ha fun σ N H v Q S x q => by
    obtain ⟨a, vs, e1, e2, r⟩ := x.tup S
    subst e1
    exact ⟨a, vs, rfl, .inr (SqT.of e2), fun l hl => q l vs hl r⟩
def rInt1 : List V → Hp → VK → Prop := fun xs H Q => (∃ i, xs = [V.int i] ∧ Q (.int i) H) ∨ ∃ k, xs = [V.bl k] ∧ Q (.int (if k then 1 else 0)) H
theorem call_intQ {X : Cx} : CallR X (.type "int") rInt1 := call_int1
theorem e_intI {i : Int} (ha : EvE F ρ ta ka (.int i) ρ1) : EvE F ρ (tCB rInt1 (tCons ta tNil)) (.k .sc) (.int i) ρ1 :=
  e_cb1 ha fun σ N H v Q S x q => .inl ⟨i, by rw [x.int], q _ N H (Step.refl S) (Dv.int _)⟩
theorem e_intB {c : Bool} (ha : EvE F ρ ta ka (.bool c) ρ1) : EvE F ρ (tCB rInt1 (tCons ta tNil)) (.k .sc) (.int (if c then 1 else 0)) ρ1 :=
  e_cb1 ha fun σ N H v Q S x q => .inr ⟨c, by rw [x.bl], q _ N H (Step.refl S) (Dv.int _)⟩
def rAbs : List V → Hp → VK → Prop := fun xs H Q => ∃ i, xs = [V.int i] ∧ Q (.int (if i < 0 then -i else i)) H
theorem call_absQ {X : Cx} : CallR X (.builtin "abs") rAbs := call_abs
theorem e_abs {i : Int} (ha : EvE F ρ ta ka (.int i) ρ1) : EvE F ρ (tCB rAbs (tCons ta tNil)) (.k .sc) (.int (if i < 0 then -i else i)) ρ1 :=
  e_cb1 ha fun σ N H v Q S x q => ⟨i, by rw [x.int], q _ N H (Step.refl S) (Dv.int _)⟩
theorem DvL.bools {G : Hp} : ∀ {vs : List V} {bs : List Bool}, DvL G vs (bs.map PyData.bool) → vs = bs.map V.bl
  | _, [], h => by cases h; rfl
  | _, c :: bs, h => by
    cases h with
    | cons h t => cases h; rw [DvL.bools t]; rfl
theorem DvL.ints {G : Hp} : ∀ {vs : List V} {ns : List Int}, DvL G vs (ns.map PyData.int) → vs = ns.map V.int
  | _, [], h => by cases h; rfl
  | _, c :: bs, h => by
    cases h with
    | cons h t => cases h; rw [DvL.ints t]; rfl
theorem DvL.strs {G : Hp} : ∀ {vs : List V} {xs : List Tx}, DvL G vs (xs.map fun x => PyData.str (S x)) → vs = (xs.map S).map V.str
  | _, [], h => by cases h; rfl
  | _, c :: bs, h => by
    cases h with
    | cons h t => cases h; rw [DvL.strs t]; rfl
theorem DvL.of_ints {G : Hp} : ∀ ns : List Int, DvL G (ns.map V.int) (ns.map PyData.int)
  | [] => .nil
  | n :: r => .cons (.int n) (DvL.of_ints r)
theorem DvL.of_strs {G : Hp} : ∀ xs : List Tx, DvL G ((xs.map S).map V.str) (xs.map fun x => PyData.str (S x))
  | [] => .nil
  | n :: r => .cons (.str _) (DvL.of_strs r)
theorem e_all {bs : List Bool} (ha : EvE F ρ ta ka (.list (bs.map PyData.bool)) ρ1) : EvE F ρ (tCB (rAll K) (tCons ta tNil)) (.k .sc) (.bool (bs.all id)) ρ1 :=
  e_cb1 ha fun σ N H v Q S x q => by
    obtain ⟨a, vs, e1, e2, r⟩ := x.lst S
    have e := r.bools
    subst e1 e
    exact ⟨a, bs, rfl, SqL.of e2, q _ N H (Step.refl S) (Dv.bl _)⟩
theorem e_any {bs : List Bool} (ha : EvE F ρ ta ka (.list (bs.map PyData.bool)) ρ1) : EvE F ρ (tCB (rAny K) (tCons ta tNil)) (.k .sc) (.bool (bs.any id)) ρ1 :=
  e_cb1 ha fun σ N H v Q S x q => by
    obtain ⟨a, vs, e1, e2, r⟩ := x.lst S
    have e := r.bools
    subst e1 e
    exact ⟨a, bs, rfl, SqL.of e2, q _ N H (Step.refl S) (Dv.bl _)⟩
theorem e_sum {ns : List Int} (ha : EvE F ρ ta ka (.list (ns.map PyData.int)) ρ1) : EvE F ρ (tCB (rSum K) (tCons ta tNil)) (.k .sc) (.int ns.sum) ρ1 :=
  e_cb1 ha fun σ N H v Q S x q => by
    obtain ⟨a, vs, e1, e2, r⟩ := x.lst S
    have e := r.ints
    subst e1 e
    exact ⟨a, ns, rfl, SqL.of e2, q _ N H (Step.refl S) (Dv.int _)⟩
/-- the greatest, the least of a list -/
def maxL (ns : List Int) : Int := ns.foldl (fun m x => if x > m then x else m) (ns.headD 0)
def minL (ns : List Int) : Int := ns.foldl (fun m x => if x < m then x else m) (ns.headD 0)
theorem foldl_max : ∀ (ns : List Int) (a : Int), (ns.foldl (fun m x => if x > m then x else m) a = a ∨ ns.foldl (fun m x => if x > m then x else m) a ∈ ns) ∧ a ≤ ns.foldl (fun m x => if x > m then x else m) a ∧ ∀ y ∈ ns, y ≤ ns.foldl (fun m x => if x > m then x else m) a
  | [], a => ⟨.inl rfl, Int.le_refl _, fun _ h => nomatch h⟩
  | x :: r, a => by
    obtain ⟨h1, h2, h3⟩ := foldl_max r (if x > a then x else a)
    rw [List.foldl_cons]
    refine ⟨?_, ?_, fun y hy => ?_⟩
    · rcases h1 with h1 | h1
      · by_cases h : x > a
        · rw [if_pos h] at h1 ⊢; exact .inr (by rw [h1]; exact List.mem_cons_self)
        · rw [if_neg h] at h1 ⊢; exact .inl h1
      · exact .inr (List.mem_cons_of_mem _ h1)
    · by_cases h : x > a
      · rw [if_pos h] at h2 ⊢; omega
      · rw [if_neg h] at h2 ⊢; exact h2
    · rcases List.mem_cons.mp hy with e | hy
      · subst e
        by_cases h : y > a
        · rw [if_pos h] at h2 ⊢; exact h2
        · rw [if_neg h] at h2 ⊢; omega
      · exact h3 y hy
theorem foldl_min : ∀ (ns : List Int) (a : Int), (ns.foldl (fun m x => if x < m then x else m) a = a ∨ ns.foldl (fun m x => if x < m then x else m) a ∈ ns) ∧ ns.foldl (fun m x => if x < m then x else m) a ≤ a ∧ ∀ y ∈ ns, ns.foldl (fun m x => if x < m then x else m) a ≤ y
  | [], a => ⟨.inl rfl, Int.le_refl _, fun _ h => nomatch h⟩
  | x :: r, a => by
    obtain ⟨h1, h2, h3⟩ := foldl_min r (if x < a then x else a)
    rw [List.foldl_cons]
    refine ⟨?_, ?_, fun y hy => ?_⟩
    · rcases h1 with h1 | h1
      · by_cases h : x < a
        · rw [if_pos h] at h1 ⊢; exact .inr (by rw [h1]; exact List.mem_cons_self)
        · rw [if_neg h] at h1 ⊢; exact .inl h1
      · exact .inr (List.mem_cons_of_mem _ h1)
    · by_cases h : x < a
      · rw [if_pos h] at h2 ⊢; omega
      · rw [if_neg h] at h2 ⊢; exact h2
    · rcases List.mem_cons.mp hy with e | hy
      · subst e
        by_cases h : y < a
        · rw [if_pos h] at h2 ⊢; exact h2
        · rw [if_neg h] at h2 ⊢; omega
      · exact h3 y hy
theorem maxL_mem {ns : List Int} (h : 0 < ns.length) : maxL ns ∈ ns ∧ ∀ y ∈ ns, y ≤ maxL ns := by
  cases ns with
  | nil => simp at h
  | cons x r =>
    obtain ⟨h1, h2, h3⟩ := foldl_max (x :: r) x
    refine ⟨?_, h3⟩
    rcases h1 with h1 | h1
    · show List.foldl _ x (x :: r) ∈ _
      rw [h1]; exact List.mem_cons_self
    · exact h1
theorem minL_mem {ns : List Int} (h : 0 < ns.length) : minL ns ∈ ns ∧ ∀ y ∈ ns, minL ns ≤ y := by
  cases ns with
  | nil => simp at h
  | cons x r =>
    obtain ⟨h1, h2, h3⟩ := foldl_min (x :: r) x
    refine ⟨?_, h3⟩
    rcases h1 with h1 | h1
    · show List.foldl _ x (x :: r) ∈ _
      rw [h1]; exact List.mem_cons_self
    · exact h1
theorem e_maxL {ns : List Int} (ha : EvE F ρ ta ka (.list (ns.map PyData.int)) ρ1) (h0 : 0 < ns.length) : EvE F ρ (tCB (rMax K) (tCons ta tNil)) (.k .sc) (.int (maxL ns)) ρ1 :=
  e_cb1 ha fun σ N H v Q S x q => by
    obtain ⟨a, vs, e1, e2, r⟩ := x.lst S
    have e := r.ints
    subst e1 e
    refine ⟨a, ns, rfl, SqL.of e2, h0, fun m h1 h2 => ?_⟩
    have em : m = maxL ns := Int.le_antisymm ((maxL_mem h0).2 m h1) (h2 _ (maxL_mem h0).1)
    rw [em]
    exact q _ N H (Step.refl S) (Dv.int _)
theorem e_minL {ns : List Int} (ha : EvE F ρ ta ka (.list (ns.map PyData.int)) ρ1) (h0 : 0 < ns.length) : EvE F ρ (tCB (rMin K) (tCons ta tNil)) (.k .sc) (.int (minL ns)) ρ1 :=
  e_cb1 ha fun σ N H v Q S x q => by
    obtain ⟨a, vs, e1, e2, r⟩ := x.lst S
    have e := r.ints
    subst e1 e
    refine ⟨a, ns, rfl, SqL.of e2, h0, fun m h1 h2 => ?_⟩
    have em : m = minL ns := Int.le_antisymm (h2 _ (minL_mem h0).1) ((minL_mem h0).2 m h1)
    rw [em]
    exact q _ N H (Step.refl S) (Dv.int _)
def rMax2 : List V → Hp → VK → Prop := fun xs H Q => ∃ i j, xs = [V.int i, V.int j] ∧ Q (.int (if j > i then j else i)) H
def rMin2 : List V → Hp → VK → Prop := fun xs H Q => ∃ i j, xs = [V.int i, V.int j] ∧ Q (.int (if j < i then j else i)) H
theorem call_max2Q {X : Cx} (hc : X.calm = true) : CallR X (.builtin "max") rMax2 := call_max2 hc
theorem call_min2Q {X : Cx} (hc : X.calm = true) : CallR X (.builtin "min") rMin2 := call_min2 hc
theorem e_max2 {i j : Int} (ha : EvE F ρ ta ka (.int i) ρ1) (hb : EvE F ρ1 tb kb (.int j) ρ2) : EvE F ρ (tCB rMax2 (tCons ta (tCons tb tNil))) (.k .sc) (.int (max i j)) ρ2 := fun σ N H Q S q =>
  ha σ N H _ S fun v N1 H1 s1 x1 => hb σ N1 H1 _ s1.sr fun w N2 H2 s2 x2 => ⟨i, j, by rw [x1.int, x2.int], by
    have e : (if j > i then j else i) = max i j := by split <;> omega
    rw [e]; exact q _ N2 H2 (s1.trans s2) (Dv.int _)⟩
theorem e_min2 {i j : Int} (ha : EvE F ρ ta ka (.int i) ρ1) (hb : EvE F ρ1 tb kb (.int j) ρ2) : EvE F ρ (tCB rMin2 (tCons ta (tCons tb tNil))) (.k .sc) (.int (min i j)) ρ2 := fun σ N H Q S q =>
  ha σ N H _ S fun v N1 H1 s1 x1 => hb σ N1 H1 _ s1.sr fun w N2 H2 s2 x2 => ⟨i, j, by rw [x1.int, x2.int], by
    have e : (if j < i then j else i) = min i j := by split <;> omega
    rw [e]; exact q _ N2 H2 (s1.trans s2) (Dv.int _)⟩
/-- isinstance of a plain value, by a built-in type -/
def tyN : PyData → String
  | .none => "NoneType"
  | .bool _ => "bool"
  | .int _ => "int"
  | .str _ => "str"
  | .list _ => "list"
  | .tuple _ => "tuple"
  | .dict _ => "dict"
theorem Dv.ty {G H : Hp} {v : V} (g : Same G H) (h : Dv G v d) : TyX K H v (.type (tyN d)) := by
  cases h with
  | non => exact .base .non
  | bl b => exact .base (.bl b)
  | int i => exact .base (.int i)
  | str x => exact .base (.str x)
  | lst e _ => exact .base (.lst (g _ _ e))
  | tup e _ => exact .base (.tup (g _ _ e))
theorem e_isi {n : String} {c : Bool} (ha : EvE F ρ ta ka d ρ1) (h : kitB (tyN d) n = some c) : EvE F ρ (tCB (rIsi K) (tCons ta (tCons (tC (.ty n)) tNil))) (.k .sc) (.bool c) ρ1 := fun σ N H Q S q =>
  ha σ N H _ S fun v N1 H1 s1 x1 => ⟨v, .ty n, .type (tyN d), .type n, c, rfl, .ty n, Dv.ty (Same.refl H1) (x1.dvH s1.sr), kit_ty h, q _ N1 H1 s1 (Dv.bl _)⟩
def isInt : PyData → Bool
  | .int _ => true
  | .bool _ => true
  | _ => false
def isBool : PyData → Bool
  | .bool _ => true
  | _ => false
def isStr : PyData → Bool
  | .str _ => true
  | _ => false
def isList : PyData → Bool
  | .list _ => true
  | _ => false
def isTuple : PyData → Bool
  | .tuple _ => true
  | _ => false
theorem DvT.nodict {G : Hp} {v : V} (h : Dv G v d) : ∀ kvs, d ≠ .dict kvs := by
  cases h <;> (intro _ e; cases e)
theorem kit_int (h : ∀ kvs, d ≠ .dict kvs) : kitB (tyN d) "int" = some (isInt d) := by
  cases d with
  | none => exact (by decide +kernel : kitB "NoneType" "int" = some false)
  | bool b => exact (by decide +kernel : kitB "bool" "int" = some true)
  | int b => exact (by decide +kernel : kitB "int" "int" = some true)
  | str b => exact (by decide +kernel : kitB "str" "int" = some false)
  | list b => exact (by decide +kernel : kitB "list" "int" = some false)
  | tuple b => exact (by decide +kernel : kitB "tuple" "int" = some false)
  | dict kvs => exact absurd rfl (h kvs)
theorem kit_bool (h : ∀ kvs, d ≠ .dict kvs) : kitB (tyN d) "bool" = some (isBool d) := by
  cases d with
  | none => exact (by decide +kernel : kitB "NoneType" "bool" = some false)
  | bool b => exact (by decide +kernel : kitB "bool" "bool" = some true)
  | int b => exact (by decide +kernel : kitB "int" "bool" = some false)
  | str b => exact (by decide +kernel : kitB "str" "bool" = some false)
  | list b => exact (by decide +kernel : kitB "list" "bool" = some false)
  | tuple b => exact (by decide +kernel : kitB "tuple" "bool" = some false)
  | dict kvs => exact absurd rfl (h kvs)
theorem kit_str (h : ∀ kvs, d ≠ .dict kvs) : kitB (tyN d) "str" = some (isStr d) := by
  cases d with
  | none => exact (by decide +kernel : kitB "NoneType" "str" = some false)
  | bool b => exact (by decide +kernel : kitB "bool" "str" = some false)
  | int b => exact (by decide +kernel : kitB "int" "str" = some false)
  | str b => exact (by decide +kernel : kitB "str" "str" = some true)
  | list b => exact (by decide +kernel : kitB "list" "str" = some false)
  | tuple b => exact (by decide +kernel : kitB "tuple" "str" = some false)
  | dict kvs => exact absurd rfl (h kvs)
theorem kit_list (h : ∀ kvs, d ≠ .dict kvs) : kitB (tyN d) "list" = some (isList d) := by
  cases d with
  | none => exact (by decide +kernel : kitB "NoneType" "list" = some false)
  | bool b => exact (by decide +kernel : kitB "bool" "list" = some false)
  | int b => exact (by decide +kernel : kitB "int" "list" = some false)
  | str b => exact (by decide +kernel : kitB "str" "list" = some false)
  | list b => exact (by decide +kernel : kitB "list" "list" = some true)
  | tuple b => exact (by decide +kernel : kitB "tuple" "list" = some false)
  | dict kvs => exact absurd rfl (h kvs)
theorem kit_tuple (h : ∀ kvs, d ≠ .dict kvs) : kitB (tyN d) "tuple" = some (isTuple d) := by
  cases d with
  | none => exact (by decide +kernel : kitB "NoneType" "tuple" = some false)
  | bool b => exact (by decide +kernel : kitB "bool" "tuple" = some false)
  | int b => exact (by decide +kernel : kitB "int" "tuple" = some false)
  | str b => exact (by decide +kernel : kitB "str" "tuple" = some false)
  | list b => exact (by decide +kernel : kitB "list" "tuple" = some false)
  | tuple b => exact (by decide +kernel : kitB "tuple" "tuple" = some true)
  | dict kvs => exact absurd rfl (h kvs)
theorem e_isiX {n : String} {f : PyData → Bool} (hf : ∀ {d : PyData}, (∀ kvs, d ≠ .dict kvs) → kitB (tyN d) n = some (f d)) (ha : EvE F ρ ta ka d ρ1) : EvE F ρ (tCB (rIsi K) (tCons ta (tCons (tC (.ty n)) tNil))) (.k .sc) (.bool (f d)) ρ1 := fun σ N H Q S q =>
  ha σ N H _ S fun v N1 H1 s1 x1 => ⟨v, .ty n, .type (tyN d), .type n, f d, rfl, .ty n, Dv.ty (Same.refl H1) (x1.dvH s1.sr), kit_ty (hf (DvT.nodict (x1.dvH s1.sr))), q _ N1 H1 s1 (Dv.bl _)⟩
theorem e_isInt (ha : EvE F ρ ta ka d ρ1) : EvE F ρ (tCB (rIsi K) (tCons ta (tCons (tC (.ty "int")) tNil))) (.k .sc) (.bool (isInt d)) ρ1 := e_isiX kit_int ha
theorem e_isBool (ha : EvE F ρ ta ka d ρ1) : EvE F ρ (tCB (rIsi K) (tCons ta (tCons (tC (.ty "bool")) tNil))) (.k .sc) (.bool (isBool d)) ρ1 := e_isiX kit_bool ha
theorem e_isStr (ha : EvE F ρ ta ka d ρ1) : EvE F ρ (tCB (rIsi K) (tCons ta (tCons (tC (.ty "str")) tNil))) (.k .sc) (.bool (isStr d)) ρ1 := e_isiX kit_str ha
theorem e_isList (ha : EvE F ρ ta ka d ρ1) : EvE F ρ (tCB (rIsi K) (tCons ta (tCons (tC (.ty "list")) tNil))) (.k .sc) (.bool (isList d)) ρ1 := e_isiX kit_list ha
theorem e_isTuple (ha : EvE F ρ ta ka d ρ1) : EvE F ρ (tCB (rIsi K) (tCons ta (tCons (tC (.ty "tuple")) tNil))) (.k .sc) (.bool (isTuple d)) ρ1 := e_isiX kit_tuple ha

/-! ### list + list, list * number -/
theorem o_cat (ha : EvE F ρ ta ka (.list ds) ρ1) (hb : EvE F ρ1 tb kb (.list es) ρ2) (hk : Keeps ka ρ1 ρ2) (l1 : B.le ka.ib b = true) (l2 : B.le kb.ib b = true) (hz : ds.length + es.length ≤ sizeLine) : EvO F ρ (tOp rCat ta tb) b (ds ++ es) ρ2 :=
  o_op ha hb hk fun σ N H v w Q S x y q => by
    obtain ⟨a, vs, e1, e2, r⟩ := x.lst S
    obtain ⟨a', vs', e1', e2', r'⟩ := y.lst S
    exact ⟨a, a', vs, vs', e1, e1', e2, e2', by rw [r.len, r'.len]; exact hz, fun p hp => q p _ hp ((r.mono (S.sub l1)).append (r'.mono (S.sub l2)))⟩
/-- xs * n -/
def repL {α : Type} (xs : List α) (n : Int) : List α := (List.replicate n.toNat xs).flatten
theorem repL_map {α β : Type} (f : α → β) (xs : List α) (n : Int) : repL (xs.map f) n = (repL xs n).map f := by
  unfold repL
  rw [List.map_flatten, List.map_replicate]
theorem repL_one {α : Type} (x : α) (n : Int) : repL [x] n = List.replicate n.toNat x := by
  unfold repL
  induction n.toNat with
  | zero => rfl
  | succ k ih => rw [List.replicate_succ, List.flatten_cons, ih, List.replicate_succ]; rfl
theorem o_rep {n : Int} (ha : EvE F ρ ta ka (.list ds) ρ1) (hb : EvE F ρ1 tb kb (.int n) ρ2) (hk : Keeps ka ρ1 ρ2) (h1 : -(2 ^ 63) ≤ n) (h2 : n < 2 ^ 63) (hz : ds.length * n.toNat ≤ sizeLine) : EvO F ρ (tOp rRep ta tb) ka.ib (repL ds n) ρ2 :=
  o_op ha hb hk fun σ N H v w Q S x y q => by
    obtain ⟨a, vs, e1, e2, r⟩ := x.lst S
    exact ⟨a, n, vs, e1, y.int, e2, h1, h2, by rw [r.len]; exact hz, fun p hp => q p _ hp (r.rep _)⟩

/-! ### methods of texts -/
theorem cnt_count (c : Nat) : ∀ t : List Nat, PyProof.Rows.cnt c t = (t.count c : Nat)
  | [] => by rw [PyProof.Rows.cnt_nil]; rfl
  | x :: r => by
    rw [PyProof.Rows.cnt_cons, cnt_count c r, List.count_cons]
    by_cases h : x = c
    · subst h; simp; omega
    · simp [h]
theorem e_count {t : Tx} {c : Nat} (ha : EvE F ρ ta ka (.str (S t)) ρ1) (hb : EvE F ρ1 tb kb (.str (S [c])) ρ2) :
    EvE F ρ (tM1 (fun x xs H Q => ∃ a b, x = .str a ∧ xs = [.str b] ∧ Q (.int (Txt.count a b)) H) ta tb) (.k .sc) (.int (t.count c : Nat)) ρ2 := fun σ N H Q S0 q =>
  ha σ N H _ S0 fun v N1 H1 s1 x1 => ⟨⟨_, x1.str⟩, hb σ N1 H1 _ s1.sr fun w N2 H2 s2 x2 =>
    ⟨S t, S [c], x1.str, by rw [x2.str], by
      have e : Txt.count (S t) (S [c]) = (t.count c : Nat) := by
        have := PyProof.Rows.count_cnt (S t) c
        rw [S_cps, cnt_count] at this
        exact this
      rw [e]
      exact q _ N2 H2 (s1.trans s2) (Dv.int _)⟩⟩
end
end TP

/-! in, join, calls of defs, what is walked, targets, comprehensions -/
namespace TP
open PySem PySem.Spec L2

section
variable {F : Fm} {ρ ρ' ρ1 ρ2 ρ3 ρ4 : List Sl} {ta tb tc te : TE} {k ka kb kc : Ek} {d d1 d2 : PyData} {ds es : List PyData} {b b' : B} {K : PySem.W.Frag}

/-! ### in, not in -/
theorem inV_str (x : Tx) : ∀ xs : List Tx, inV (.str (S x)) ((xs.map S).map V.str) = decide (x ∈ xs)
  | [] => rfl
  | y :: r => by
    have ih := inV_str x r
    unfold inV at ih ⊢
    rw [List.map_cons, List.map_cons, List.any_cons, ih]
    show (decide (S y = S x) || _) = _
    rw [dec_S]
    by_cases h : y = x
    · subst h; simp
    · have h' : ¬ x = y := fun e => h e.symm
      simp [h, h']
theorem inV_int (x : Int) : ∀ xs : List Int, inV (.int x) (xs.map V.int) = decide (x ∈ xs)
  | [] => rfl
  | y :: r => by
    have ih := inV_int x r
    unfold inV at ih ⊢
    rw [List.map_cons, List.any_cons, ih]
    show (y == x || _) = _
    by_cases h : y = x
    · subst h; simp
    · have h' : ¬ x = y := fun e => h e.symm
      simp [h, h']
theorem flat_strs : ∀ xs : List Tx, ((xs.map S).map V.str).all flatV = true
  | [] => rfl
  | _ :: r => by rw [List.map_cons, List.map_cons, List.all_cons, flat_strs r]; rfl
theorem flat_ints : ∀ xs : List Int, (xs.map V.int).all flatV = true
  | [] => rfl
  | _ :: r => by rw [List.map_cons, List.all_cons, flat_ints r]; rfl
theorem Hold.seq {N H : Hp} {σ : St} {v : V} (S0 : SR F N ρ σ H) (h : Hold F N ρ σ k v (.list ds) ∨ Hold F N ρ σ k v (.tuple ds)) : ∃ a vs, v = .ref a ∧ (SqL K H a vs ∨ SqT K H a vs) ∧ DvL (rg F N k.ib) vs ds := by
  rcases h with h | h
  · obtain ⟨a, vs, e1, e2, r⟩ := h.lst S0
    exact ⟨a, vs, e1, .inl (SqL.of e2), r⟩
  · obtain ⟨a, vs, e1, e2, r⟩ := h.tup S0
    exact ⟨a, vs, e1, .inr (SqT.of e2), r⟩
/-- a sequence: a list or a tuple -/
def IsSeq (d : PyData) (ds : List PyData) : Prop := d = .list ds ∨ d = .tuple ds
theorem e_inX {neg : Bool} {x : Tx} {xs : List Tx} (ha : EvE F ρ ta ka (.str (S x)) ρ1) (hb : EvE F ρ1 tb kb d ρ2) (hd : IsSeq d (xs.map fun x => PyData.str (S x))) :
    EvE F ρ (tOp (rIn K neg) ta tb) (.k .sc) (.bool (if neg then !decide (x ∈ xs) else decide (x ∈ xs))) ρ2 := fun σ N H Q S0 q =>
  ha σ N H _ S0 fun v N1 H1 s1 x1 => hb σ N1 H1 _ s1.sr fun w N2 H2 s2 x2 => by
    obtain ⟨a, vs, e1, e2, r⟩ := Hold.seq (K := K) s2.sr (hd.elim (fun e => .inl (e ▸ x2)) (fun e => .inr (e ▸ x2)))
    have e := r.strs
    subst e
    refine ⟨a, _, e1, e2, ?_, flat_strs xs, ?_⟩
    · rw [x1.str]; rfl
    · rw [x1.str, inV_str]; exact q _ N2 H2 (s1.trans s2) (Dv.bl _)
theorem e_inI {neg : Bool} {x : Int} {xs : List Int} (ha : EvE F ρ ta ka (.int x) ρ1) (hb : EvE F ρ1 tb kb d ρ2) (hd : IsSeq d (xs.map PyData.int)) :
    EvE F ρ (tOp (rIn K neg) ta tb) (.k .sc) (.bool (if neg then !decide (x ∈ xs) else decide (x ∈ xs))) ρ2 := fun σ N H Q S0 q =>
  ha σ N H _ S0 fun v N1 H1 s1 x1 => hb σ N1 H1 _ s1.sr fun w N2 H2 s2 x2 => by
    obtain ⟨a, vs, e1, e2, r⟩ := Hold.seq (K := K) s2.sr (hd.elim (fun e => .inl (e ▸ x2)) (fun e => .inr (e ▸ x2)))
    have e := r.ints
    subst e
    refine ⟨a, _, e1, e2, ?_, flat_ints xs, ?_⟩
    · rw [x1.int]; rfl
    · rw [x1.int, inV_int]; exact q _ N2 H2 (s1.trans s2) (Dv.bl _)

/-! ### join, upper -/
def rJoin (K : PySem.W.Frag) : V → List V → Hp → VK → Prop := fun x xs H Q => ∃ a p, ∃ ys : List Str, x = V.str a ∧ xs = [V.ref p] ∧ (SqL K H p (ys.map V.str) ∨ SqT K H p (ys.map V.str)) ∧
    (ys.map (·.length)).sum + ys.length * a.length ≤ 16777216 ∧ Q (.str (Txt.join a ys)) H
theorem mt_joinQ {X : Cx} : MtR X "str.join" (rJoin X.K) := mt_join
/-- the texts one behind the other, sep between -/
def joinT (sep : Tx) : List Tx → Tx
  | [] => []
  | [x] => x
  | x :: y :: r => x ++ sep ++ joinT sep (y :: r)
theorem txt_join (sep : Tx) : ∀ xs : List Tx, Txt.join (S sep) (xs.map S) = S (joinT sep xs) := fun xs => by
  have h : ∀ xs : List Tx, Str.join (S sep) (xs.map S) = S (joinT sep xs) := fun xs => by
    induction xs with
    | nil => rfl
    | cons x r ih =>
      cases r with
      | nil => rfl
      | cons y r =>
        show S x ++ S sep ++ Str.join (S sep) ((y :: r).map S) = S (x ++ sep ++ joinT sep (y :: r))
        rw [ih, S_app, S_app]
  show Builtin.Str.glued (S sep) (xs.map S) = _
  rw [StrLaws.glued_eq_join, h]
theorem joinT_nil : ∀ xs : List Tx, joinT [] xs = xs.flatten
  | [] => rfl
  | [x] => by simp [joinT]
  | x :: y :: r => by
    show x ++ [] ++ joinT [] (y :: r) = _
    rw [joinT_nil (y :: r)]; simp
def joinSize (sep : Tx) (xs : List Tx) : Nat := (xs.map List.length).sum + xs.length * sep.length
theorem joinSize_eq (sep : Tx) (xs : List Tx) : ((xs.map S).map (·.length)).sum + (xs.map S).length * (S sep).length = joinSize sep xs := by
  unfold joinSize
  rw [List.map_map, List.length_map, S_len]
  congr 2
theorem e_join {sep : Tx} {xs : List Tx} (ha : EvE F ρ ta ka (.str (S sep)) ρ1) (hb : EvE F ρ1 tb kb d ρ2) (hd : IsSeq d (xs.map fun x => PyData.str (S x))) (hz : joinSize sep xs ≤ 16777216) :
    EvE F ρ (tM1 (rJoin K) ta tb) (.k .sc) (.str (S (joinT sep xs))) ρ2 := fun σ N H Q S0 q =>
  ha σ N H _ S0 fun v N1 H1 s1 x1 => ⟨⟨_, x1.str⟩, hb σ N1 H1 _ s1.sr fun w N2 H2 s2 x2 => by
    obtain ⟨a, vs, e1, e2, r⟩ := Hold.seq (K := K) s2.sr (hd.elim (fun e => .inl (e ▸ x2)) (fun e => .inr (e ▸ x2)))
    have e := r.strs
    subst e
    refine ⟨S sep, a, xs.map S, x1.str, by rw [e1], e2, by rw [joinSize_eq]; exact hz, ?_⟩
    rw [txt_join]
    exact q _ N2 H2 (s1.trans s2) (Dv.str _)⟩
def rUpper : V → List V → Hp → VK → Prop := fun x xs H Q => ∃ a, x = V.str a ∧ xs = [] ∧ a.length ≤ 5592405 ∧ Q (.str (Txt.upper a)) H
theorem mt_upperQ {X : Cx} : MtR X "str.upper" rUpper := mt_upper
def upperT (t : Tx) : Tx := (Txt.upper (S t)).cps.toList
theorem e_upper {t : Tx} (ha : EvE F ρ ta ka (.str (S t)) ρ1) (hz : t.length ≤ 5592405) : EvE F ρ (tM0 rUpper ta) (.k .sc) (.str (S (upperT t))) ρ1 := fun σ N H Q S0 q =>
  ha σ N H _ S0 fun v N1 H1 s1 x1 => ⟨⟨_, x1.str⟩, S t, x1.str, rfl, by rw [S_len]; exact hz, by
    have := q (.str (Txt.upper (S t))) N1 H1 s1
    unfold upperT at this
    rw [S_of] at this
    exact this (Dv.str _)⟩

/-! ### calls of defs -/
/-- how a def's answer lies -/
inductive Rk where
  | k (b : B)
  | own (b : B)
  /-- an exception of the class at C, with such fields -/
  | er (C : Addr) (fs : List (Str × V))
def RHold (F : Fm) (N H : Hp) : Rk → V → PyData → Prop
  | .er _ _, _, _ => False
  | .k b, v, d => Dv (rg F N b) v d
  | .own b, v, d => ∃ p vs ds, v = .ref p ∧ d = .list ds ∧ H p = some (.lst vs) ∧ N p = none ∧ F.H0 p = none ∧ DvL (rg F N b) vs ds
/-- the promise: called with such data it answers such data, new things beside, nothing changed -/
def spF (rk : Rk) (ds : List PyData) (d : PyData) : Sp := fun vs H Q _ => ∃ A, Same A H ∧ DvL A vs ds ∧
  ∀ v H' N, Same H H' → Same N H' → (∀ a o, N a = some o → H a = none) → RHold ⟨A, e0, H, []⟩ N H' rk v d → Q v H'
/-- an argument: data, or the list that may change -/
inductive Ar where
  | d (d : PyData)
  | io (es : List PyData)
def ArL (A Bb H : Hp) (p : Addr) : List V → List Ar → Prop
  | [], [] => True
  | v :: vs, .d d :: as => Dv A v d ∧ ArL A Bb H p vs as
  | v :: vs, .io es :: as => (v = .ref p ∧ ∃ ws, H p = some (.lst ws) ∧ DvL Bb ws es) ∧ ArL A Bb H p vs as
  | _, _ => False
/-- .. and one given list may change, its items out of those that it had (or scalars) -/
def spI (rk : Rk) (as : List Ar) (d : PyData) (es' : List PyData) : Sp := fun vs H Q _ => ∃ A Bb p, Same A H ∧ Same Bb H ∧ A p = none ∧ Bb p = none ∧ (∃ o, H p = some o) ∧ ArL A Bb H p vs as ∧
  ∀ v H' N, (∀ a o, H a = some o → a ≠ p → H' a = some o) → Same N H' → (∀ a o, N a = some o → H a = none) → RHold ⟨A, Bb, H, [p]⟩ N H' rk v d → (∃ ws, H' p = some (.lst ws) ∧ DvL Bb ws es') → Q v H'

theorem rg_new (F F' : Fm) (N : Hp) : ∀ {b : B}, b = .sc ∨ b = .new → rg F N b = rg F' N b
  | _, .inl rfl => rfl
  | _, .inr rfl => rfl
/-- new cells of a callee, beside those that were made here -/
theorem Step.more {N H Nc H' : Hp} {σ : St} (S : SR F N ρ σ H) (h : Same H H') (hn : Same Nc H') (nw : ∀ a o, Nc a = some o → H a = none) : Step F ρ σ N H ρ (join N Nc) H' := by
  refine Step.grow S (same_join_l _ _) h (fun a o e => ?_) (fun a o e n => ?_)
  · unfold join at e
    cases q : N a with
    | some u => rw [q] at e; exact h a o (S.nH a o (by rw [q]; exact e))
    | none => rw [q] at e; exact hn a o e
  · unfold join at e
    rw [n] at e
    exact nw a o e
theorem more_r {N H Nc : Hp} {σ : St} (S : SR F N ρ σ H) (nw : ∀ a o, Nc a = some o → H a = none) : Same Nc (join N Nc) := same_join_r fun a o e => S.freshN (nw a o e)
/-- what is wanted of a result that shares nothing with the arguments -/
def B.free : B → Bool
  | .sc => true
  | .new => true
  | _ => false
theorem free_or {b : B} (h : b.free = true) : b = .sc ∨ b = .new := by
  cases b <;> simp_all [B.free]
/-- f(..): the answer shares nothing with the arguments -/
theorem e_call {sp : Sp} {t : TA} {l : List (Ek × PyData)} {E : XK} (ha : EvA F ρ t l ρ1) (hs : ∀ vs H Q E, spF (.k b) (l.map (·.2)) d vs H Q E → sp vs H Q E) (hb : b.free = true := by rfl) : EvE F ρ (tCall sp [] E t) (.k b) d ρ1 := fun σ N H Q S q =>
  ha σ N H _ S fun vs N1 H1 s1 x1 => by
    rw [List.append_nil]
    refine hs _ _ _ _ ⟨H1, Same.refl _, x1.dvH s1.sr, fun v H2 Nc h hn nw r => ?_⟩
    refine q v _ H2 (s1.trans (Step.more s1.sr h hn nw)) ?_
    have r : Dv (rg ⟨H1, e0, H1, []⟩ Nc b) v d := r
    rcases free_or hb with e | e
    · subst e; exact r
    · subst e; exact Dv.mono (more_r s1.sr nw) r
/-- .. a new list of one's own -/
theorem o_call {sp : Sp} {t : TA} {l : List (Ek × PyData)} {E : XK} (ha : EvA F ρ t l ρ1) (hs : ∀ vs H Q E, spF (.own b) (l.map (·.2)) (.list ds) vs H Q E → sp vs H Q E) (hb : b.free = true := by rfl) : EvO F ρ (tCall sp [] E t) b ds ρ1 := fun σ N H Q S q =>
  ha σ N H _ S fun vs N1 H1 s1 x1 => by
    rw [List.append_nil]
    refine hs _ _ _ _ ⟨H1, Same.refl _, x1.dvH s1.sr, fun v H2 Nc h hn nw r => ?_⟩
    obtain ⟨p, ws, es, e1, e2, e3, e4, e5, r⟩ := r
    cases e2
    subst e1
    have hp : H1 p = none := e5
    refine q p ws _ H2 (s1.trans (Step.more s1.sr h hn nw)) (fresh_back s1 hp) e3 ?_ ?_
    · unfold join; rw [s1.sr.freshN hp]; exact e4
    · rcases free_or hb with e | e
      · subst e; exact r
      · subst e; exact DvL.mono (more_r s1.sr nw) r
/-- the answer may hold what was given -/
theorem e_callV {sp : Sp} {t : TA} {l : List (Ek × PyData)} {E : XK} (ha : EvA F ρ t l ρ1) (hl : AllIn .val l) (hs : ∀ vs H Q E, spF (.k b) (l.map (·.2)) d vs H Q E → sp vs H Q E) (hb : B.le b .val = true := by rfl) : EvE F ρ (tCall sp [] E t) (.k .val) d ρ1 := fun σ N H Q S q =>
  ha σ N H _ S fun vs N1 H1 s1 x1 => by
    rw [List.append_nil]
    refine hs _ _ _ _ ⟨rg F N1 .val, s1.sr.rgH .val, x1.dvl s1.sr hl, fun v H2 Nc h hn nw r => ?_⟩
    have s2 := Step.more s1.sr h hn nw
    refine q v _ H2 (s1.trans s2) ?_
    have g1 : Same (rg F N1 .val) (rg F (join N1 Nc) .val) := rg_mono s2.n .val
    have g2 : Same Nc (rg F (join N1 Nc) .val) := (more_r s1.sr nw).trans (same_join_r s2.sr.dis)
    have g3 : Same (join (rg F N1 .val) Nc) (rg F (join N1 Nc) .val) := fun a o e => by
      unfold join at e
      split at e
      · rename_i u hu; exact g1 a o (by rw [← e]; exact hu)
      · exact g2 a o e
    cases b with
    | sc => exact Dv.mono (same_e0 _) r
    | out => exact Dv.mono g1 r
    | new => exact Dv.mono g2 r
    | val => exact Dv.mono g3 r
    | iob => cases hb

/-! ### a slot's own list changed -/
def Sl.put : Sl → List PyData → Sl
  | .own b _, es => .own b es
  | .io p b _, es => .io p b es
  | s, _ => s
def Sl.cont : Sl → Option (B × List PyData)
  | .own b ds => some (b, ds)
  | .io _ b ds => some (b, ds)
  | _ => none
theorem Sl.put_own (s : Sl) (es : List PyData) : (s.put es).isOwn = s.isOwn := by cases s <;> rfl
theorem join_some {x : Option (Option V)} {v : V} (h : x.join = some v) : x = some (some v) := by
  cases x with
  | none => cases h
  | some y => exact congrArg some h
/-- the address and content of an own slot -/
theorem SR.cell {N H : Hp} {σ : St} (S : SR F N ρ σ H) {i : Nat} {s : Sl} {ds : List PyData} (hi : ρ[i]? = some s) (hc : s.cont = some (b, ds)) : ∃ p vs, σ[i]? = some (some (.ref p)) ∧ H p = some (.lst vs) ∧ DvL (rg F N b) vs ds ∧ OwnAt ρ σ i p := by
  have k := S.ok i s hi
  cases s with
  | no => cases hc
  | ex _ _ => cases hc
  | v _ _ => cases hc
  | own b' ds' =>
    cases hc
    obtain ⟨p, vs, e1, e2, _, _, r⟩ := k
    exact ⟨p, vs, join_some e1, e2, r, ⟨_, hi, rfl⟩, join_some e1⟩
  | io p b' ds' =>
    cases hc
    obtain ⟨vs, e1, e2, _, r⟩ := k
    exact ⟨p, vs, join_some e1, e2, r, ⟨_, hi, rfl⟩, join_some e1⟩
theorem Step.put {N H N' H' : Hp} {σ : St} (S : SR F N ρ σ H) {i : Nat} {s : Sl} {ds es' : List PyData} {p : Addr} {ws : List V} (hi : ρ[i]? = some s) (hc : s.cont = some (b, ds)) (hp : σ[i]? = some (some (.ref p)))
    (n : Same N N') (nw : ∀ a o, N' a = some o → N a = none → H a = none) (h : ∀ a o, H a = some o → a ≠ p → H' a = some o) (nH : Same N' H') (hq : H' p = some (.lst ws)) (r : DvL (rg F N' b) ws es') : Step F ρ σ N H (ρ.set i (s.put es')) N' H' := by
  have hown : OwnAt ρ σ i p := ⟨⟨s, hi, by cases s <;> first | rfl | cases hc⟩, hp⟩
  obtain ⟨⟨vs0, hp0⟩, hNp, hAp, hBp⟩ := S.ownH hown
  have il : i < ρ.length := (List.getElem?_eq_some_iff.mp hi).1
  have own_back : ∀ j q, OwnAt (ρ.set i (s.put es')) σ j q → OwnAt ρ σ j q := fun j q ⟨⟨t, e, o⟩, hq⟩ => by
    by_cases hj : j = i
    · subst hj
      exact ⟨⟨s, hi, by rw [List.getElem?_set_self il] at e; cases e; rw [Sl.put_own] at o; exact o⟩, hq⟩
    · rw [List.getElem?_set_ne (Ne.symm hj)] at e
      exact ⟨⟨t, e, o⟩, hq⟩
  have N'p : N' p = none := by
    cases z : N' p with
    | none => rfl
    | some o =>
      have := nw p o z hNp
      rw [hp0] at this; cases this
  refine ⟨n, nw, fun a o e => ?_, fun a o e hn => h a o e fun z => hn i (z ▸ hown), own_back, ⟨S.aH, S.bH, S.ioA, nH, fun a o e => ?_, fun a o e hio => ?_, fun q hq' => ?_, ?_, fun j t e => ?_, fun j1 j2 q h1 h2 => S.ap j1 j2 q (own_back j1 q h1) (own_back j2 q h2)⟩⟩
  · by_cases z : a = p
    · subst z; exact ⟨_, hq⟩
    · exact ⟨o, h a o e z⟩
  · cases z : N a with
    | some u => exact S.nN a u z
    | none => exact S.freshH0 (nw a o e z)
  · refine h a o (S.keep a o e hio) fun z => ?_
    subst z
    have k := S.ok i s hi
    cases s with
    | no => cases hc
    | ex _ _ => cases hc
    | v _ _ => cases hc
    | own b' ds' =>
      obtain ⟨q, vs, e1, e2, e3, e4, _⟩ := k
      have := (join_some e1).symm.trans hp
      cases this
      rw [e4] at e; cases e
    | io q b' ds' =>
      obtain ⟨vs, e1, e2, e3, _⟩ := k
      have := (join_some e1).symm.trans hp
      cases this
      exact hio e3
  · by_cases z : q = p
    · subst z; exact ⟨_, hq⟩
    · obtain ⟨o, e⟩ := S.ioH q hq'
      exact ⟨o, h q o e z⟩
  · rw [List.length_set]; exact S.len
  · by_cases hj : j = i
    · subst hj
      rw [List.getElem?_set_self il] at e
      cases e
      have k := S.ok j s hi
      cases s with
      | no => cases hc
      | ex _ _ => cases hc
      | v _ _ => cases hc
      | own b' ds' =>
        cases hc
        obtain ⟨q, vs, e1, e2, e3, e4, _⟩ := k
        have := (join_some e1).symm.trans hp
        cases this
        exact ⟨p, ws, e1, hq, N'p, e4, r⟩
      | io q b' ds' =>
        cases hc
        obtain ⟨vs, e1, e2, e3, _⟩ := k
        have := (join_some e1).symm.trans hp
        cases this
        exact ⟨ws, e1, hq, e3, r⟩
    · rw [List.getElem?_set_ne (Ne.symm hj)] at e
      have k := S.ok j t e
      have notp : ∀ q, OwnAt ρ σ j q → q ≠ p := fun q hq2 z => hj (S.ap j i p (z ▸ hq2) hown)
      cases t with
      | no => trivial
      | ex v cs => exact ⟨k.1, fun c hc => n _ _ (k.2 c hc)⟩
      | v b' d' =>
        obtain ⟨w, e1, r'⟩ := k
        exact ⟨w, e1, r'.mono (rg_mono n b')⟩
      | own b' ds' =>
        obtain ⟨q, vs, e1, e2, e3, e4, r'⟩ := k
        refine ⟨q, vs, e1, h q _ e2 (notp q ⟨⟨_, e, rfl⟩, join_some e1⟩), ?_, e4, r'.mono (rg_mono n b')⟩
        cases z : N' q with
        | none => rfl
        | some o =>
          have := nw q o z e3
          rw [e2] at this; cases this
      | io q b' ds' =>
        obtain ⟨vs, e1, e2, e3, r'⟩ := k
        exact ⟨vs, e1, h q _ e2 (notp q ⟨⟨_, e, rfl⟩, join_some e1⟩), e3, r'.mono (rg_mono n b')⟩
/-- the arguments of a call of which the list in slot i may change -/
def Ars (i : Nat) : List (Ek × PyData) → List Ar → Prop
  | [], [] => True
  | (.k _, d) :: l, .d d' :: as => d' = d ∧ Ars i l as
  | (.bor j _, .list es) :: l, .io es' :: as => j = i ∧ es' = es ∧ Ars i l as
  | (.bor j _, .list es) :: l, .d d' :: as => j ≠ i ∧ d' = .list es ∧ Ars i l as
  | _, _ => False
def hide (H : Hp) (p : Addr) : Hp := fun a => if a = p then none else H a
theorem hide_same (H : Hp) (p : Addr) : Same (hide H p) H := fun a o e => by
  unfold hide at e
  by_cases h : a = p
  · rw [if_pos h] at e; cases e
  · rw [if_neg h] at e; exact e
theorem to_hide {G H : Hp} {p : Addr} (g : Same G H) (h : G p = none) : Same G (hide H p) := fun a o e => by
  unfold hide
  rw [if_neg fun z => by subst z; rw [h] at e; cases e]
  exact g a o e
theorem Ars.ok {N H : Hp} {σ : St} (S : SR F N ρ σ H) {i : Nat} {s : Sl} {p : Addr} {vs0 : List V} (hi : ρ[i]? = some s) (hc : s.cont = some (b, ds)) (hp : OwnAt ρ σ i p) (h0 : H p = some (.lst vs0)) (r0 : DvL (rg F N b) vs0 ds) :
    ∀ {l : List (Ek × PyData)} {as : List Ar} {vs : List V}, HoldL F N ρ σ l vs → Ars i l as → ArL (hide H p) (rg F N b) H p vs as
  | [], [], [], _, _ => trivial
  | (.k b', d) :: l, .d d' :: as, v :: vs, h, a => by
    obtain ⟨e, a⟩ := a
    subst e
    exact ⟨Dv.mono (to_hide (S.rgH b') (S.ownRg hp b')) h.1, Ars.ok S hi hc hp h0 r0 h.2 a⟩
  | (.bor j b', .list es) :: l, .io es' :: as, v :: vs, h, a => by
    obtain ⟨e, e', a⟩ := a
    subst e e'
    refine ⟨?_, Ars.ok S hi hc hp h0 r0 h.2 a⟩
    obtain ⟨h1, ds', e2, h3⟩ := h.1
    cases e2
    have e4 := h1.symm.trans hp.2
    cases e4
    refine ⟨rfl, vs0, h0, ?_⟩
    have : s = .own b' es' ∨ ∃ q, s = .io q b' es' := by
      rcases h3 with h3 | ⟨q, h3⟩
      · exact .inl (Option.some.inj (hi.symm.trans h3))
      · exact .inr ⟨q, Option.some.inj (hi.symm.trans h3)⟩
    rcases this with e | ⟨q, e⟩ <;> (subst e; cases hc; exact r0)
  | (.bor j b', .list es) :: l, .d d' :: as, v :: vs, h, a => by
    obtain ⟨e, e', a⟩ := a
    subst e'
    refine ⟨?_, Ars.ok S hi hc hp h0 r0 h.2 a⟩
    obtain ⟨h1, ds', e2, h3⟩ := h.1
    cases e2
    obtain ⟨q, ws, e5, e6, r⟩ := Hold.lst S h.1
    subst e5
    have oj : OwnAt ρ σ j q := by
      rcases h3 with h3 | ⟨u, h3⟩
      · exact ⟨⟨_, h3, rfl⟩, h1⟩
      · exact ⟨⟨_, h3, rfl⟩, h1⟩
    have qp : q ≠ p := fun z => e (S.ap j i p (z ▸ oj) hp)
    refine .lst (show hide H p q = _ by unfold hide; rw [if_neg qp]; exact e6) (DvL.mono (to_hide (S.rgH b') (S.ownRg hp b')) r)
  | [], _ :: _, _, _, a => a.elim
  | (.k _, _) :: _, [], _, _, a => a.elim
  | (.k _, _) :: _, .io _ :: _, _, _, a => a.elim
  | (.bor _ _, .list _) :: _, [], _, _, a => a.elim
  | (.bor _ _, .none) :: _, _, _, _, a => by cases ‹List Ar› <;> exact a.elim
  | (.bor _ _, .bool _) :: _, _, _, _, a => by cases ‹List Ar› <;> exact a.elim
  | (.bor _ _, .int _) :: _, _, _, _, a => by cases ‹List Ar› <;> exact a.elim
  | (.bor _ _, .str _) :: _, _, _, _, a => by cases ‹List Ar› <;> exact a.elim
  | (.bor _ _, .tuple _) :: _, _, _, _, a => by cases ‹List Ar› <;> exact a.elim
  | (.bor _ _, .dict _) :: _, _, _, _, a => by cases ‹List Ar› <;> exact a.elim
  | [], [], _ :: _, h, _ => h.elim
  | (_, _) :: _, _, [], h, _ => h.elim
/-- behind a call that may change the list in slot i -/
theorem Step.io {N H Nc H' : Hp} {σ : St} (S : SR F N ρ σ H) {i : Nat} {s : Sl} {p : Addr} {ws : List V} {es' : List PyData} (hi : ρ[i]? = some s) (hc : s.cont = some (b, ds)) (hp : OwnAt ρ σ i p)
    (h : ∀ a o, H a = some o → a ≠ p → H' a = some o) (hn : Same Nc H') (nw : ∀ a o, Nc a = some o → H a = none) (hq : H' p = some (.lst ws)) (r : DvL (rg F N b) ws es') : Step F ρ σ N H (ρ.set i (s.put es')) (join N Nc) H' := by
  have n : Same N (join N Nc) := same_join_l _ _
  refine Step.put S hi hc hp.2 n (fun a o e z => ?_) h (fun a o e => ?_) hq (r.mono (rg_mono n b))
  · unfold join at e
    rw [z] at e
    exact nw a o e
  · unfold join at e
    cases q : N a with
    | some u =>
      rw [q] at e
      refine h a o (S.nH a o (by rw [q]; exact e)) fun z => ?_
      subst z
      rw [(S.ownH hp).2.1] at q; cases q
    | none => rw [q] at e; exact hn a o e
theorem e_callI {i : Nat} {s : Sl} {as : List Ar} {es' : List PyData} {sp : Sp} {t : TA} {l : List (Ek × PyData)} {E : XK} (ha : EvA F ρ t l ρ1) (hi : ρ1[i]? = some s) (hc : s.cont = some (b', ds)) (har : Ars i l as) (hs : ∀ vs H Q E, spI (.k b) as d es' vs H Q E → sp vs H Q E) (hb : b.free = true := by rfl) :
    EvE F ρ (tCall sp [] E t) (.k b) d (ρ1.set i (s.put es')) := fun σ N H Q S q =>
  ha σ N H _ S fun vs N1 H1 s1 x1 => by
    rw [List.append_nil]
    obtain ⟨p, vs0, hσ, h0, r0, hp⟩ := s1.sr.cell hi hc
    refine hs _ _ _ _ ⟨hide H1 p, rg F N1 b', p, hide_same _ _, s1.sr.rgH b', by unfold hide; rw [if_pos rfl], s1.sr.ownRg hp b', ⟨_, h0⟩, Ars.ok s1.sr hi hc hp h0 r0 x1 har, fun v H2 Nc h hn nw r hq => ?_⟩
    obtain ⟨ws, hq, rq⟩ := hq
    refine q v _ H2 (s1.trans (Step.io s1.sr hi hc hp h hn nw hq rq)) ?_
    have r : Dv (rg ⟨hide H1 p, rg F N1 b', H1, [p]⟩ Nc b) v d := r
    rcases free_or hb with e | e
    · subst e; exact r
    · subst e; exact Dv.mono (more_r s1.sr nw) r
theorem o_callI {i : Nat} {s : Sl} {as : List Ar} {es es' : List PyData} {sp : Sp} {t : TA} {l : List (Ek × PyData)} {E : XK} (ha : EvA F ρ t l ρ1) (hi : ρ1[i]? = some s) (hc : s.cont = some (b', ds)) (har : Ars i l as) (hs : ∀ vs H Q E, spI (.own b) as (.list es) es' vs H Q E → sp vs H Q E) (hb : b.free = true := by rfl) :
    EvO F ρ (tCall sp [] E t) b es (ρ1.set i (s.put es')) := fun σ N H Q S q =>
  ha σ N H _ S fun vs N1 H1 s1 x1 => by
    rw [List.append_nil]
    obtain ⟨p, vs0, hσ, h0, r0, hp⟩ := s1.sr.cell hi hc
    refine hs _ _ _ _ ⟨hide H1 p, rg F N1 b', p, hide_same _ _, s1.sr.rgH b', by unfold hide; rw [if_pos rfl], s1.sr.ownRg hp b', ⟨_, h0⟩, Ars.ok s1.sr hi hc hp h0 r0 x1 har, fun v H2 Nc h hn nw r hq => ?_⟩
    obtain ⟨ws, hq, rq⟩ := hq
    obtain ⟨p2, ws2, es2, e1, e2, e3, e4, e5, r⟩ := r
    cases e2
    subst e1
    have hp2 : H1 p2 = none := e5
    refine q p2 ws2 _ H2 (s1.trans (Step.io s1.sr hi hc hp h hn nw hq rq)) (fresh_back s1 hp2) e3 ?_ ?_
    · unfold join; rw [s1.sr.freshN hp2]; exact e4
    · rcases free_or hb with e | e
      · subst e; exact r
      · subst e; exact DvL.mono (more_r s1.sr nw) r
end
end TP

/-! what is walked, targets, comprehensions -/
namespace TP
open PySem PySem.Spec L2

/-- what is walked: the data, and where the items lie -/
def EvI (F : Fm) (ρ : List Sl) (ti : TI) (b : B) (ds : List PyData) (ρ' : List Sl) : Prop :=
  ∀ (σ : St) (N H : Hp) (R : It → Hp → Prop), SR F N ρ σ H →
    (∀ J G Y N' H', Step F ρ σ N H ρ' N' H' → Walk J ds.length G Y → (∀ ρ2 σ2 N2 H2, SR F N2 ρ2 σ2 H2 → Same N' N2 → G H2) →
      (∀ (i : Nat) (d : PyData), ds[i]? = some d → ∀ ρ2 σ2 N2 H2 x H3, SR F N2 ρ2 σ2 H2 → Same N' N2 → Y i H2 x H3 → ∃ N3, Step F ρ2 σ2 N2 H2 ρ2 N3 H3 ∧ Dv (rg F N3 b) x d) → R J H') → ti σ H R
/-- a target: the value goes to slots among vs -/
def EvG (F : Fm) (vs : List Nat) (g : TG) (b : B) (d : PyData) (ρ ρ' : List Sl) : Prop :=
  ∀ (σ : St) (N H : Hp) (x : V) (Q : St → Hp → Prop), SR F N ρ σ H → Dv (rg F N b) x d → (∀ σ', SR F N ρ' σ' H → σ'.length = σ.length → (∀ j, j ∉ vs → σ'[j]? = σ[j]?) → (∀ j p, OwnAt ρ' σ' j p → OwnAt ρ σ j p) → Q σ' H) → g x σ H Q
def EvGs (F : Fm) (vs : List Nat) (g : TGs) (b : B) (ds : List PyData) (ρ ρ' : List Sl) : Prop :=
  ∀ (σ : St) (N H : Hp) (xs : List V) (Q : St → Hp → Prop), SR F N ρ σ H → DvL (rg F N b) xs ds → (∀ σ', SR F N ρ' σ' H → σ'.length = σ.length → (∀ j, j ∉ vs → σ'[j]? = σ[j]?) → (∀ j p, OwnAt ρ' σ' j p → OwnAt ρ σ j p) → Q σ' H) → g xs σ H Q

section
variable {F : Fm} {ρ ρ' ρ1 ρ2 ρ3 ρ4 : List Sl} {ta tb tc te : TE} {k ka kb kc : Ek} {d d1 d2 : PyData} {ds es : List PyData} {b b' : B} {K : PySem.W.Frag}

theorem i_list (ha : EvE F ρ te (.k b) (.list ds) ρ1) : EvI F ρ (iList K te) b ds ρ1 := fun σ N H R S q =>
  ha σ N H _ S fun v N1 H1 s1 x1 => by
    obtain ⟨a, vs, e1, e2, r⟩ := Dv.lst_inv x1
    refine ⟨a, e1, ⟨vs, SqL.of (s1.sr.rgH b _ _ e2)⟩, ?_⟩
    have w := walk_list (K := K) (a := a) (xs := vs)
    rw [r.len] at w
    refine q _ _ _ N1 H1 s1 w (fun ρ2 σ2 N2 H2 S2 n => SqL.of (S2.rgH b _ _ (rg_mono n b _ _ e2))) fun i d hd ρ2 σ2 N2 H2 x H3 S2 n y => ?_
    obtain ⟨e, y⟩ := y
    subst e
    obtain ⟨w, e3, r3⟩ := r.get hd
    rw [e3] at y
    cases y
    exact ⟨N2, Step.refl S2, r3.mono (rg_mono n b)⟩
theorem i_tup (ha : EvE F ρ te (.k b) (.tuple ds) ρ1) : EvI F ρ (iTup K te) b ds ρ1 := fun σ N H R S q =>
  ha σ N H _ S fun v N1 H1 s1 x1 => by
    obtain ⟨a, vs, e1, e2, r⟩ := Dv.tup_inv x1
    refine ⟨a, e1, ⟨vs, SqT.of (s1.sr.rgH b _ _ e2)⟩, ?_⟩
    have w := walk_tup (K := K) (a := a) (xs := vs)
    rw [r.len] at w
    refine q _ _ _ N1 H1 s1 w (fun ρ2 σ2 N2 H2 S2 n => SqT.of (S2.rgH b _ _ (rg_mono n b _ _ e2))) fun i d hd ρ2 σ2 N2 H2 x H3 S2 n y => ?_
    obtain ⟨e, y⟩ := y
    subst e
    obtain ⟨w, e3, r3⟩ := r.get hd
    rw [e3] at y
    cases y
    exact ⟨N2, Step.refl S2, r3.mono (rg_mono n b)⟩
/-- the whole numbers from i below j -/
def rng (i j : Int) : List Int := (List.range (j - i).toNat).map fun k => i + (k : Nat)
theorem rng_len (i j : Int) : (rng i j).length = (j - i).toNat := by simp [rng]
theorem rng_get {i j : Int} {k : Nat} (h : k < (j - i).toNat) : (rng i j)[k]? = some (i + (k : Nat)) := by
  unfold rng
  rw [List.getElem?_map, List.getElem?_range h]
  rfl
theorem mem_rng {i j x : Int} : x ∈ rng i j ↔ i ≤ x ∧ x < j := by
  unfold rng
  simp only [List.mem_map, List.mem_range]
  constructor
  · rintro ⟨k, h, rfl⟩; omega
  · rintro ⟨h1, h2⟩; exact ⟨(x - i).toNat, by omega, by omega⟩
theorem walk_rng {i j : Int} {n : Nat} (hn : n = (j - i).toNat) : Walk (Itr i n) ((rng i j).map PyData.int).length (fun _ => True) (YFn fun k => .int (i + k)) := by
  have e : ((rng i j).map PyData.int).length = n := by rw [List.length_map, rng_len, hn]
  rw [e]
  exact walk_range
theorem rng_item {i j : Int} {l : Nat} {d : PyData} (hd : ((rng i j).map PyData.int)[l]? = some d) : d = .int (i + (l : Nat)) := by
  rw [List.getElem?_map] at hd
  by_cases h : l < (j - i).toNat
  · rw [rng_get h] at hd
    cases hd; rfl
  · rw [List.getElem?_eq_none (by rw [rng_len]; omega)] at hd
    cases hd
theorem i_range1 {j : Int} (ha : EvE F ρ ta ka (.int j) ρ1) (h : j ≤ 1000000000000) (h0 : -1000000000000 ≤ j := by omega) : EvI F ρ (iRng1 (tCons ta tNil)) .sc ((rng 0 j).map PyData.int) ρ1 := fun σ N H R S q =>
  ha σ N H _ S fun v N1 H1 s1 x1 => ⟨j, by rw [x1.int], by omega, by omega, by
    refine q _ _ _ N1 H1 s1 (walk_rng (i := 0) (j := j) (by omega)) (fun _ _ _ _ _ _ => trivial) fun i d hd ρ2 σ2 N2 H2 x H3 S2 n y => ?_
    obtain ⟨e1, e2⟩ := y
    subst e1 e2
    rw [rng_item hd]
    exact ⟨N2, Step.refl S2, Dv.int _⟩⟩
theorem i_range2 {i j : Int} (ha : EvE F ρ ta ka (.int i) ρ1) (hb : EvE F ρ1 tb kb (.int j) ρ2) (h1 : -1000000000000 ≤ i) (h2 : i ≤ 1000000000000) (h3 : -1000000000000 ≤ j) (h4 : j ≤ 1000000000000) :
    EvI F ρ (iRng2 (tCons ta (tCons tb tNil))) .sc ((rng i j).map PyData.int) ρ2 := fun σ N H R S q =>
  ha σ N H _ S fun v N1 H1 s1 x1 => hb σ N1 H1 _ s1.sr fun w N2 H2 s2 x2 => ⟨i, j, by rw [x1.int, x2.int], by omega, by
    refine q _ _ _ N2 H2 (s1.trans s2) (walk_rng (i := i) (j := j) rfl) (fun _ _ _ _ _ _ => trivial) fun l d hd ρ3 σ3 N3 H3 x H4 S3 n y => ?_
    obtain ⟨e1, e2⟩ := y
    subst e1 e2
    rw [rng_item hd]
    exact ⟨N3, Step.refl S3, Dv.int _⟩⟩
/-- the signs of a text, each a text -/
def signs (t : Tx) : List Tx := t.map fun c => [c]
theorem i_str {t : Tx} (ha : EvE F ρ te k (.str (S t)) ρ1) : EvI F ρ (iStr te) .sc ((signs t).map fun x => PyData.str (S x)) ρ1 := fun σ N H R S0 q =>
  ha σ N H _ S0 fun v N1 H1 s1 x1 => ⟨S t, x1.str, by
    have w := walk_str (z := S t)
    have e : (S t).cps.size = ((signs t).map fun x => PyData.str (S x)).length := by simp [S, signs]
    rw [e] at w
    refine q _ _ _ N1 H1 s1 w (fun _ _ _ _ _ _ => trivial) fun i d hd ρ2 σ2 N2 H2 x H3 S2 n y => ?_
    obtain ⟨e1, c, e2, e3⟩ := y
    subst e1 e3
    have hc : t[i]? = some c := by simpa [S] using e2
    unfold signs at hd
    rw [List.getElem?_map, List.getElem?_map, hc] at hd
    cases hd
    exact ⟨N2, Step.refl S2, Dv.str _⟩⟩
/-- places and items -/
def enumD (ds : List PyData) : List PyData := ds.mapIdx fun i d => .tuple [.int i, d]
theorem i_enum (ha : EvE F ρ te (.k b) (.list ds) ρ1) (hb : b ≠ .iob := by decide) : EvI F ρ (iEnum K (tCons te tNil)) b.fz (enumD ds) ρ1 := fun σ N H R S q =>
  ha σ N H _ S fun v N1 H1 s1 x1 => by
    obtain ⟨a, vs, e1, e2, r⟩ := Dv.lst_inv x1
    subst e1
    refine ⟨a, vs, rfl, SqL.of (s1.sr.rgH b _ _ e2), ?_⟩
    have w := walk_enum (K := K) (a := a) (xs := vs)
    have el : vs.length = (enumD ds).length := by simp [enumD, r.len]
    rw [el] at w
    refine q _ _ _ N1 H1 s1 w (fun ρ2 σ2 N2 H2 S2 n => SqL.of (S2.rgH b _ _ (rg_mono n b _ _ e2))) fun i d hd ρ2 σ2 N2 H2 x H3 S2 n y => ?_
    obtain ⟨T, x1, x2, e3, hT, e4, f1, f2⟩ := y
    subst e3 e4
    cases f1
    have s3 := Step.made S2 (o := .tup [V.int i, x2]) hT
    refine ⟨_, s3, ?_⟩
    unfold enumD at hd
    rw [List.getElem?_mapIdx] at hd
    obtain ⟨d0, e5, r5⟩ := r.getV f2
    rw [e5] at hd
    cases hd
    have r6 : Dv (rg F (upd N2 T (.tup [V.int i, x2])) b.fz) x2 d0 := ((r5.mono (rg_mono n b)).mono (rg_mono s3.n b)).mono (s3.sr.sub (fz_le b hb))
    refine .tup ?_ (.cons (.int _) (.cons r6 .nil))
    have top : (upd N2 T (.tup [V.int i, x2])) T = some (.tup [V.int i, x2]) := upd_same
    cases b with
    | sc => exact top
    | new => exact top
    | out => exact same_join_r s3.sr.dis _ _ top
    | val => exact same_join_r s3.sr.dis _ _ top
    | iob => exact absurd rfl hb
/-- pairs of items -/
def zipD (ds es : List PyData) : List PyData := (ds.zip es).map fun p => .tuple [p.1, p.2]
theorem i_zip (ha : EvE F ρ ta (.k b) (.list ds) ρ1) (hb : EvE F ρ1 tb (.k b) (.list es) ρ2) (hb' : b ≠ .iob := by decide) : EvI F ρ (iZip K (tCons ta (tCons tb tNil))) b.fz (zipD ds es) ρ2 := fun σ N H R S q =>
  ha σ N H _ S fun v N1 H1 s1 x1 => hb σ N1 H1 _ s1.sr fun w N2 H2 s2 x2 => by
    obtain ⟨a, vs, e1, e2, r⟩ := Dv.lst_inv x1
    obtain ⟨a', vs', e1', e2', r'⟩ := Dv.lst_inv x2
    subst e1 e1'
    have e2n := rg_mono s2.n b _ _ e2
    refine ⟨a, a', vs, vs', rfl, SqL.of (s2.sr.rgH b _ _ e2n), SqL.of (s2.sr.rgH b _ _ e2'), ?_⟩
    have w := walk_zip (K := K) (a := a) (b := a') (xs := vs) (ys := vs') rfl
    have el : min vs.length vs'.length = (zipD ds es).length := by simp [zipD, r.len, r'.len]
    rw [el] at w
    refine q _ _ _ N2 H2 (s1.trans s2) w (fun ρ2 σ2 N2 H2 S2 n => ⟨SqL.of (S2.rgH b _ _ (rg_mono n b _ _ e2n)), SqL.of (S2.rgH b _ _ (rg_mono n b _ _ e2'))⟩) fun i d hd ρ3 σ3 N3 H3 x H4 S3 n y => ?_
    obtain ⟨T, x1, x2, e3, hT, e4, f1, f2⟩ := y
    subst e3 e4
    have s3 := Step.made S3 (o := .tup [x1, x2]) hT
    refine ⟨_, s3, ?_⟩
    obtain ⟨d1, e5, r5⟩ := r.getV f1
    obtain ⟨d2, e6, r6⟩ := r'.getV f2
    have ed : d = .tuple [d1, d2] := by
      unfold zipD at hd
      have z : (ds.zip es)[i]? = some (d1, d2) := List.getElem?_zip_eq_some.mpr ⟨e5, e6⟩
      rw [List.getElem?_map, z] at hd
      cases hd; rfl
    subst ed
    have up : ∀ {x d}, Dv (rg F N1 b) x d → Dv (rg F (upd N3 T (.tup [x1, x2])) b.fz) x d := fun h => (((h.mono (rg_mono s2.n b)).mono (rg_mono n b)).mono (rg_mono s3.n b)).mono (s3.sr.sub (fz_le b hb'))
    have up2 : ∀ {x d}, Dv (rg F N2 b) x d → Dv (rg F (upd N3 T (.tup [x1, x2])) b.fz) x d := fun h => ((h.mono (rg_mono n b)).mono (rg_mono s3.n b)).mono (s3.sr.sub (fz_le b hb'))
    refine .tup ?_ (.cons (up r5) (.cons (up2 r6) .nil))
    have top : (upd N3 T (.tup [x1, x2])) T = some (.tup [x1, x2]) := upd_same
    cases b with
    | sc => exact top
    | new => exact top
    | out => exact same_join_r s3.sr.dis _ _ top
    | val => exact same_join_r s3.sr.dis _ _ top
    | iob => exact absurd rfl hb'

/-! ### targets -/
theorem own_set {σ : St} {i : Nat} {w : V} (hi : i < ρ.length) : ∀ j q, OwnAt (ρ.set i (.v b d)) (σ.set i (some w)) j q → OwnAt ρ σ j q := fun j q ⟨⟨t, e, o⟩, hq⟩ => by
  by_cases hj : j = i
  · subst hj
    rw [List.getElem?_set_self hi] at e
    cases e
    cases o
  · rw [List.getElem?_set_ne (Ne.symm hj)] at e hq
    exact ⟨⟨t, e, o⟩, hq⟩
theorem SR.store {N H : Hp} {σ : St} (S : SR F N ρ σ H) {i : Nat} {w : V} (hi : i < ρ.length) (r : Dv (rg F N b) w d) : SR F N (ρ.set i (.v b d)) (σ.set i (some w)) H := by
  have back : ∀ j q, OwnAt (ρ.set i (.v b d)) (σ.set i (some w)) j q → j ≠ i ∧ OwnAt ρ σ j q := fun j q ⟨⟨t, e, o⟩, hq⟩ => by
    by_cases hj : j = i
    · subst hj
      rw [List.getElem?_set_self hi] at e
      cases e
      cases o
    · rw [List.getElem?_set_ne (Ne.symm hj)] at e hq
      exact ⟨hj, ⟨t, e, o⟩, hq⟩
  refine ⟨S.aH, S.bH, S.ioA, S.nH, S.nN, S.keep, S.ioH, by rw [List.length_set, List.length_set]; exact S.len, fun j t e => ?_, fun j1 j2 q h1 h2 => S.ap j1 j2 q (back _ _ h1).2 (back _ _ h2).2⟩
  by_cases hj : j = i
  · subst hj
    rw [List.getElem?_set_self hi] at e
    cases e
    rw [List.getElem?_set_self (by rw [S.len]; exact hi)]
    exact ⟨w, rfl, r⟩
  · rw [List.getElem?_set_ne (Ne.symm hj)] at e ⊢
    exact S.ok j t e
theorem SR.storeO {N H : Hp} {σ : St} (S : SR F N ρ σ H) {i : Nat} {p : Addr} {vs : List V} (hi : i < ρ.length) (h1 : H p = some (.lst vs)) (h2 : N p = none) (h3 : F.H0 p = none) (hn : ∀ j, ¬ OwnAt ρ σ j p) (r : DvL (rg F N b) vs ds) :
    SR F N (ρ.set i (.own b ds)) (σ.set i (some (.ref p))) H := by
  have back : ∀ j q, OwnAt (ρ.set i (.own b ds)) (σ.set i (some (.ref p))) j q → (j = i ∧ q = p) ∨ (j ≠ i ∧ OwnAt ρ σ j q) := fun j q ⟨⟨t, e, o⟩, hq⟩ => by
    by_cases hj : j = i
    · subst hj
      rw [List.getElem?_set_self (by rw [S.len]; exact hi)] at hq
      cases hq
      exact .inl ⟨rfl, rfl⟩
    · rw [List.getElem?_set_ne (Ne.symm hj)] at e hq
      exact .inr ⟨hj, ⟨t, e, o⟩, hq⟩
  refine ⟨S.aH, S.bH, S.ioA, S.nH, S.nN, S.keep, S.ioH, by rw [List.length_set, List.length_set]; exact S.len, fun j t e => ?_, fun j1 j2 q x1 x2 => ?_⟩
  · by_cases hj : j = i
    · subst hj
      rw [List.getElem?_set_self hi] at e
      cases e
      rw [List.getElem?_set_self (by rw [S.len]; exact hi)]
      exact ⟨p, vs, rfl, h1, h2, h3, r⟩
    · rw [List.getElem?_set_ne (Ne.symm hj)] at e ⊢
      exact S.ok j t e
  · rcases back _ _ x1 with ⟨a1, a2⟩ | ⟨a1, a2⟩ <;> rcases back _ _ x2 with ⟨b1, b2⟩ | ⟨b1, b2⟩
    · rw [a1, b1]
    · subst a2; exact (hn _ b2).elim
    · subst b2; exact (hn _ a2).elim
    · exact S.ap _ _ _ a2 b2
theorem g_name {vs : List Nat} {i : Nat} (hi' : Nat.blt i ρ.length = true := by rfl) (hv' : vs.elem i = true := by rfl) : EvG F vs (gName i) b d ρ (ρ.set i (.v b d)) := fun σ N H x Q S0 r q => by
  have hi : i < ρ.length := Nat.le_of_ble_eq_true hi'
  have hv : i ∈ vs := List.mem_of_elem_eq_true hv'
  exact q _ (S0.store hi r) (by rw [List.length_set]) (fun j hj => List.getElem?_set_ne (fun e => hj (by rw [← e]; exact hv))) (own_set hi)
theorem g_nameS {vs : List Nat} {i : Nat} (s : IsSc d) (hi' : Nat.blt i ρ.length = true := by rfl) (hv' : vs.elem i = true := by rfl) : EvG F vs (gName i) b d ρ (ρ.set i (.v b' d)) := fun σ N H x Q S0 r q => by
  have hi : i < ρ.length := Nat.le_of_ble_eq_true hi'
  have hv : i ∈ vs := List.mem_of_elem_eq_true hv'
  exact q _ (S0.store hi (r.sc s)) (by rw [List.length_set]) (fun j hj => List.getElem?_set_ne (fun e => hj (by rw [← e]; exact hv))) (own_set hi)
theorem gs_nil {vs : List Nat} : EvGs F vs gNil b [] ρ ρ := fun σ N H xs Q S0 r q => by
  cases r
  exact ⟨rfl, q σ S0 rfl (fun _ _ => rfl) fun _ _ h => h⟩
theorem gs_cons {vs : List Nat} {g : TG} {gs : TGs} (h1 : EvG F vs g b d ρ ρ1) (h2 : EvGs F vs gs b ds ρ1 ρ2) : EvGs F vs (gCons g gs) b (d :: ds) ρ ρ2 := fun σ N H xs Q S0 r q => by
  cases r with
  | cons r rr =>
    exact ⟨_, _, rfl, h1 σ N H _ _ S0 r fun σ1 S1 l1 e1 o1 => h2 σ1 N H _ _ S1 rr fun σ2 S2 l2 e2 o2 => q σ2 S2 (l2.trans l1) (fun j hj => (e2 j hj).trans (e1 j hj)) fun j p h => o1 j p (o2 j p h)⟩
theorem g_tup {vs : List Nat} {gs : TGs} {n : Nat} (h : EvGs F vs gs b ds ρ ρ1) (hn : ds.length = n := by rfl) : EvG F vs (gTup K n gs) b (.tuple ds) ρ ρ1 := fun σ N H x Q S0 r q => by
  obtain ⟨a, xs, e1, e2, r⟩ := Dv.tup_inv r
  exact ⟨a, xs, e1, SqT.of (S0.rgH b _ _ e2), by rw [r.len]; exact hn, h σ N H xs Q S0 r q⟩
end
end TP

/-! list comprehensions -/
namespace TP
open PySem PySem.Spec L2

/-- slots forgotten -/
def wp (ρ : List Sl) : List Nat → List Sl
  | [] => ρ
  | v :: vs => (wp ρ vs).set v .no
section
variable {F : Fm} {ρ ρ' ρ1 ρ2 ρ3 ρ4 : List Sl} {ta tb tc te : TE} {k ka kb kc : Ek} {d d1 d2 : PyData} {ds es : List PyData} {b b' : B} {K : PySem.W.Frag} {N N' N1 N2 N3 H H' H1 H2 H3 : Hp} {σ σ' : St}

theorem SR.forget (S : SR F N ρ σ H) (i : Nat) : SR F N (ρ.set i .no) (σ.set i none) H := by
  have back : ∀ j q, OwnAt (ρ.set i .no) (σ.set i none) j q → OwnAt ρ σ j q := fun j q ⟨⟨t, e, o⟩, hq⟩ => by
    by_cases hj : j = i
    · subst hj
      by_cases hl : j < ρ.length
      · rw [List.getElem?_set_self hl] at e
        cases e
        cases o
      · rw [List.getElem?_eq_none (by rw [List.length_set]; omega)] at e
        cases e
    · rw [List.getElem?_set_ne (Ne.symm hj)] at e hq
      exact ⟨⟨t, e, o⟩, hq⟩
  refine ⟨S.aH, S.bH, S.ioA, S.nH, S.nN, S.keep, S.ioH, by rw [List.length_set, List.length_set]; exact S.len, fun j t e => ?_, fun j1 j2 q h1 h2 => S.ap j1 j2 q (back _ _ h1) (back _ _ h2)⟩
  by_cases hj : j = i
  · subst hj
    by_cases hl : j < ρ.length
    · rw [List.getElem?_set_self hl] at e
      cases e
      trivial
    · rw [List.getElem?_eq_none (by rw [List.length_set]; omega)] at e
      cases e
  · rw [List.getElem?_set_ne (Ne.symm hj)] at e ⊢
    exact S.ok j t e
theorem SR.wipe (S : SR F N ρ σ H) : ∀ vs : List Nat, SR F N (wp ρ vs) (L2.wipe σ vs) H
  | [] => S
  | v :: vs => (SR.wipe S vs).forget v
theorem own_wp : ∀ {vs : List Nat} {j : Nat} {p : Addr}, OwnAt (wp ρ vs) (L2.wipe σ vs) j p → OwnAt ρ σ j p ∧ j ∉ vs
  | [], _, _, h => ⟨h, by simp⟩
  | v :: vs, j, p, ⟨⟨t, e, o⟩, hq⟩ => by
    have hj : j ≠ v := fun z => by
      subst z
      have hq : ((L2.wipe σ vs).set j none)[j]? = some (some (.ref p)) := hq
      by_cases hl : j < (L2.wipe σ vs).length
      · rw [List.getElem?_set_self hl] at hq; cases hq
      · rw [List.getElem?_eq_none (by rw [List.length_set]; omega)] at hq; cases hq
    have e : ((wp ρ vs).set v .no)[j]? = some t := e
    have hq : ((L2.wipe σ vs).set v none)[j]? = some (some (.ref p)) := hq
    rw [List.getElem?_set_ne (Ne.symm hj)] at e hq
    obtain ⟨h1, h2⟩ := own_wp (vs := vs) ⟨⟨t, e, o⟩, hq⟩
    exact ⟨h1, by simp only [List.mem_cons, not_or]; exact ⟨hj, h2⟩⟩
theorem wp_out : ∀ {vs : List Nat} {j : Nat}, j ∉ vs → (wp ρ vs)[j]? = ρ[j]?
  | [], _, _ => rfl
  | v :: vs, j, h => by
    simp only [List.mem_cons, not_or] at h
    show ((wp ρ vs).set v .no)[j]? = _
    rw [List.getElem?_set_ne (Ne.symm h.1)]
    exact wp_out h.2
theorem wipe_in : ∀ {vs : List Nat} {j : Nat}, j ∈ vs → j < σ.length → (L2.wipe σ vs)[j]? = some none
  | [], _, h, _ => nomatch h
  | v :: vs, j, h, hl => by
    show ((L2.wipe σ vs).set v none)[j]? = _
    by_cases hj : j = v
    · subst hj
      rw [List.getElem?_set_self (by rw [wipe_length]; exact hl)]
    · rw [List.getElem?_set_ne (Ne.symm hj)]
      exact wipe_in ((List.mem_cons.mp h).resolve_left hj) hl
theorem wipe_eq {vs : List Nat} (hl : σ'.length = σ.length) (h : ∀ j, j ∉ vs → σ'[j]? = σ[j]?) : L2.wipe σ' vs = L2.wipe σ vs := by
  apply List.ext_getElem?
  intro j
  by_cases hj : j ∈ vs
  · by_cases hlt : j < σ.length
    · rw [wipe_in hj (by rw [hl]; exact hlt), wipe_in hj hlt]
    · rw [List.getElem?_eq_none (by rw [wipe_length, hl]; omega), List.getElem?_eq_none (by rw [wipe_length]; omega)]
  · rw [wipe_out hj, wipe_out hj]
    exact h j hj
theorem wipe_wipe (vs : List Nat) : L2.wipe (L2.wipe σ vs) vs = L2.wipe σ vs :=
  wipe_eq (wipe_length σ vs) fun j hj => wipe_out hj
/-- what the slots at vs hold is no list of one's own and does not hang on the state -/
def Stb {S : Type} (ρs : S → List Sl) : List Nat → Prop
  | [] => True
  | i :: is => (∃ sl : Sl, sl.isOwn = false ∧ ∀ s, (ρs s)[i]? = some sl) ∧ Stb ρs is
theorem stb_nil {S : Type} {ρs : S → List Sl} : Stb ρs [] := trivial
theorem stb_cons {S : Type} {ρs : S → List Sl} {i : Nat} {is : List Nat} {sl : Sl} (h1 : sl.isOwn = false) (h2 : ∀ s, (ρs s)[i]? = some sl) (h : Stb ρs is) : Stb ρs (i :: is) := ⟨⟨sl, h1, h2⟩, h⟩
theorem Stb.at {S : Type} {ρs : S → List Sl} : ∀ {vs : List Nat}, Stb ρs vs → ∀ i ∈ vs, ∃ sl : Sl, sl.isOwn = false ∧ ∀ s, (ρs s)[i]? = some sl
  | _ :: _, h, i, hi => by
    rcases List.mem_cons.mp hi with e | hi
    · subst e; exact h.1
    · exact Stb.at h.2 i hi
/-- a thing beside all slots changed -/
theorem SR.side (S : SR F N ρ σ H) {p : Addr} {o : HO} (h1 : N p = none) (h2 : F.H0 p = none) (hn : ∀ j, ¬ OwnAt ρ σ j p) : SR F N ρ σ (upd H p o) := by
  refine ⟨S.aH, S.bH, S.ioA, fun a u e => ?_, S.nN, fun a u e i => ?_, fun q hq => ?_, S.len, fun j t e => ?_, S.ap⟩
  · rw [upd_ne (ne_of_none e h1)]; exact S.nH a u e
  · rw [upd_ne (ne_of_none e h2)]; exact S.keep a u e i
  · obtain ⟨_, _, u, e⟩ := S.ioA q hq
    rw [upd_ne (ne_of_none e h2)]
    exact S.ioH q hq
  · have k := S.ok j t e
    cases t with
    | no => trivial
    | ex v cs => exact k
    | v b' d' => exact k
    | own b' ds' =>
      obtain ⟨q, vs, e1, e2, e3, e4, r⟩ := k
      exact ⟨q, vs, e1, by rw [upd_ne (fun z => hn j (by rw [← z]; exact ⟨⟨_, e, rfl⟩, join_some e1⟩))]; exact e2, e3, e4, r⟩
    | io q b' ds' =>
      obtain ⟨vs, e1, e2, e3, r⟩ := k
      exact ⟨vs, e1, by rw [upd_ne (fun z => hn j (by rw [← z]; exact ⟨⟨_, e, rfl⟩, join_some e1⟩))]; exact e2, e3, r⟩
/-- a step of the block, as one of the slots that stand around it -/
theorem Step.blk {vs : List Nat} {ρw ρw' ρb ρb' : List Sl} {σw σb : St} (s : Step F ρb σb N H ρb' N' H') (e0 : wp ρb' vs = ρw') (hw : L2.wipe σb vs = σw) (own : ∀ j p, OwnAt ρb σb j p → OwnAt ρw σw j p) : Step F ρw σw N H ρw' N' H' := by
  subst e0 hw
  exact ⟨s.n, s.nw, s.gr, fun a o e h => s.kp a o e fun j q => h j (own j a q), fun j p h => own j p (s.sub j p (own_wp h).1), s.sr.wipe vs⟩
theorem Step.sideD (s : Step F ρ σ N H ρ' N' H') (S : SR F N ρ σ H) {p : Addr} {o : HO} (h0 : H p = none) (h1 : N' p = none) : Step F ρ σ N H ρ' N' (upd H' p o) := by
  have hn : ∀ j, ¬ OwnAt ρ σ j p := fun j h => by
    obtain ⟨⟨vs, e⟩, _⟩ := S.ownH h
    rw [h0] at e; cases e
  refine ⟨s.n, s.nw, fun a u e => ?_, fun a u e h => ?_, s.sub, s.sr.side h1 (S.freshH0 h0) fun j h => hn j (s.sub j p h)⟩
  · obtain ⟨u', e'⟩ := s.gr a u e
    rw [upd_ne (ne_of_none e h0)]
    exact ⟨u', e'⟩
  · rw [upd_ne (ne_of_none e h0)]
    exact s.kp a u e h
/-- behind the block: the slots as they stood -/
theorem SR.back {S : Type} {ρs : S → List Sl} {vs : List Nat} {s0 s : S} (S1 : SR F N1 (ρs s0) σ H1) (n : Same N1 N2) (S2 : SR F N2 (wp (ρs s) vs) (L2.wipe σ vs) H2) (st : Stb ρs vs) (hl : (ρs s).length = (ρs s0).length) : SR F N2 (ρs s) σ H2 := by
  have fwd : ∀ j p, OwnAt (ρs s) σ j p → OwnAt (wp (ρs s) vs) (L2.wipe σ vs) j p := fun j p ⟨⟨t, e, o⟩, hq⟩ => by
    have hj : j ∉ vs := fun hj => by
      obtain ⟨sl, h1, h2⟩ := st.at j hj
      have := h2 s
      rw [e] at this
      cases this
      rw [h1] at o; cases o
    exact ⟨⟨t, by rw [wp_out hj]; exact e, o⟩, by rw [wipe_out hj]; exact hq⟩
  refine ⟨S2.aH, S2.bH, S2.ioA, S2.nH, S2.nN, S2.keep, S2.ioH, S1.len.trans hl.symm, fun j t e => ?_, fun j1 j2 q h1 h2 => S2.ap j1 j2 q (fwd _ _ h1) (fwd _ _ h2)⟩
  by_cases hj : j ∈ vs
  · obtain ⟨sl, h1, h2⟩ := st.at j hj
    have e1 := h2 s
    rw [e] at e1
    cases e1
    have k := S1.ok j _ (h2 s0)
    cases t with
    | no => trivial
    | ex v cs => exact ⟨k.1, fun c hc => n _ _ (k.2 c hc)⟩
    | v b' d' =>
      obtain ⟨w, e1, r⟩ := k
      exact ⟨w, e1, r.mono (rg_mono n b')⟩
    | own _ _ => cases h1
    | io _ _ _ => cases h1
  · have k := S2.ok j t (by rw [wp_out hj]; exact e)
    rw [wipe_out hj] at k
    exact k
/-- what a comprehension makes, the tests and elements changing a state -/
def compS {S α β : Type} (tst : α → S → Bool × S) (el : α → S → β × S) : List α → S → List β × S
  | [], s => ([], s)
  | x :: xs, s =>
    if (tst x s).1 = true then
      ((el x (tst x s).2).1 :: (compS tst el xs (el x (tst x s).2).2).1, (compS tst el xs (el x (tst x s).2).2).2)
    else compS tst el xs (tst x s).2
theorem compS_yes {S α β : Type} {tst : α → S → Bool × S} {el : α → S → β × S} {x : α} {xs : List α} {s : S} (h : (tst x s).1 = true) :
    compS tst el (x :: xs) s = ((el x (tst x s).2).1 :: (compS tst el xs (el x (tst x s).2).2).1, (compS tst el xs (el x (tst x s).2).2).2) := by
  conv => lhs; unfold compS
  rw [if_pos h]
theorem compS_no {S α β : Type} {tst : α → S → Bool × S} {el : α → S → β × S} {x : α} {xs : List α} {s : S} (h : (tst x s).1 = false) :
    compS tst el (x :: xs) s = compS tst el xs (tst x s).2 := by
  conv => lhs; unfold compS
  rw [h]
  rfl
theorem o_lcS {S α β : Type} {wi : TI} {g : TG} {tt : TT} {vs : List Nat} {bi : B} (xs : List α) (en : α → PyData) (eo : β → PyData) (ρs : S → List Sl) (ρb : α → S → List Sl) (J : S → Prop) (tst : α → S → Bool × S) (el : α → S → β × S) (s0 : S)
    (hi : EvI F ρ wi bi (xs.map en) (ρs s0)) (st : Stb ρs vs) (hl : ∀ s, (ρs s).length = (ρs s0).length) (hJ : J s0)
    (hg : ∀ x s, x ∈ xs → J s → EvG F vs g bi (en x) (wp (ρs s) vs) (ρb x s))
    (ht : ∀ x s, x ∈ xs → J s → EvT F (ρb x s) tt (tst x s).1 (ρb x (tst x s).2) ∧ J (tst x s).2)
    (he : ∀ x s, x ∈ xs → J s → (∃ s', s = (tst x s').2 ∧ (tst x s').1 = true) → EvE F (ρb x s) te (.k b) (eo (el x s).1) (ρb x (el x s).2) ∧ J (el x s).2)
    (hw : ∀ x s, wp (ρb x s) vs = wp (ρs s) vs) (hz : xs.length ≤ sizeLine) :
    EvO F ρ (tLc wi g tt te vs) b ((compS tst el xs s0).1.map eo) (ρs (compS tst el xs s0).2) := fun σ N H Q S0 q =>
  hi σ N H _ S0 fun Jt G Y N1 H1 s1 w hG hY D hD => by
    have S1 := s1.sr
    have SW := S1.wipe vs
    refine lc_it (Qd := fun H => Q (.ref D) H) w (fun i H => ∃ N acc accD s, J s ∧ (compS tst el xs s0) = (accD ++ (compS tst el (xs.drop i) s).1, (compS tst el (xs.drop i) s).2) ∧ H D = some (.lst acc) ∧ N D = none ∧
        DvL (rg F N b) acc (accD.map eo) ∧ acc.length ≤ i ∧ Step F (wp (ρs s0) vs) (L2.wipe σ vs) N1 H1 (wp (ρs s) vs) N H) ?_ ?_ ?_ ?_
    · exact ⟨N1, [], [], s0, hJ, rfl, upd_same, S1.freshN hD, .nil, Nat.le_refl _, Step.laid SW hD⟩
    · rintro i H _ ⟨N, acc, accD, s, h1, h2, h3, h4, h5, h6, h7⟩
      exact hG _ _ _ _ h7.sr h7.n
    · rintro i x H H' hlt ⟨N, acc, accD, s, h1, h2, h3, h4, h5, h6, h7⟩ hy
      have hlt' : i < xs.length := by simpa using hlt
      have hx : xs[i]? = some xs[i] := List.getElem?_eq_getElem hlt'
      have hm : xs[i] ∈ xs := List.getElem_mem hlt'
      generalize xs[i] = a at hx hm
      have hd : xs.drop i = a :: xs.drop (i + 1) := by
        rw [List.drop_eq_getElem_cons hlt']
        rw [List.getElem?_eq_getElem hlt'] at hx
        cases hx; rfl
      obtain ⟨N3, s3, r3⟩ := hY i (en a) (by rw [List.getElem?_map, hx]; rfl) _ _ _ _ _ _ h7.sr h7.n hy
      have nown : ∀ j, ¬ OwnAt (wp (ρs s0) vs) (L2.wipe σ vs) j D := fun j h => by
        obtain ⟨⟨_, e⟩, _⟩ := SW.ownH h
        rw [hD] at e; cases e
      have k3 : H' D = some (.lst acc) := s3.kp D _ h3 fun j h => nown j (h7.sub j D h)
      have n3 : N3 D = none := by
        cases z : N3 D with
        | none => rfl
        | some o =>
          have := s3.nw D o z h4
          rw [h3] at this; cases this
      refine hg a s hm h1 _ _ _ _ _ s3.sr r3 fun σ2 S2 l2 e2 o2 => ?_
      have hw2 : L2.wipe σ2 vs = L2.wipe σ vs := (wipe_eq l2 e2).trans (wipe_wipe vs)
      refine ⟨hw2, ?_⟩
      obtain ⟨ht1, hJ1⟩ := ht a s hm h1
      refine ht1 _ _ _ _ S2 fun N4 H4 s4 => ?_
      have no4 : ∀ j, ¬ OwnAt (ρb a s) σ2 j D := fun j h => nown j (h7.sub j D (s3.sub j D (o2 j D h)))
      have k4 : H4 D = some (.lst acc) := s4.kp D _ k3 no4
      have n4 : N4 D = none := by
        cases z : N4 D with
        | none => rfl
        | some o =>
          have := s4.nw D o z n3
          rw [k3] at this; cases this
      cases hc : (tst a s).1 with
      | true =>
        rw [if_pos rfl]
        obtain ⟨he1, hJ2⟩ := he a (tst a s).2 hm hJ1 ⟨s, rfl, hc⟩
        refine he1 _ _ _ _ s4.sr fun y N5 H5 s5 r5 => ?_
        have k5 : H5 D = some (.lst acc) := s5.kp D _ k4 fun j h => no4 j (s4.sub j D h)
        have n5 : N5 D = none := by
          cases z : N5 D with
          | none => rfl
          | some o =>
            have := s5.nw D o z n4
            rw [k4] at this; cases this
        have st5 : Step F (wp (ρs s) vs) (L2.wipe σ vs) N3 H' (wp (ρs (el a (tst a s).2).2) vs) N5 H5 := (s4.trans s5).blk (hw _ _) hw2 o2
        have full := (h7.trans s3).trans st5
        refine ⟨acc, k5, by omega, N5, acc ++ [y], accD ++ [(el a (tst a s).2).1], _, hJ2, ?_, upd_same, n5, ?_, ?_, full.sideD SW hD n5⟩
        · rw [h2, hd, compS_yes hc, List.append_assoc]
          rfl
        · rw [List.map_append]
          exact (h5.mono (rg_mono ((s3.n.trans s4.n).trans s5.n) b)).append (.one r5)
        · rw [List.length_append]; exact Nat.succ_le_succ h6
      | false =>
        rw [if_neg Bool.false_ne_true]
        have st4 : Step F (wp (ρs s) vs) (L2.wipe σ vs) N3 H' (wp (ρs (tst a s).2) vs) N4 H4 := s4.blk (hw _ _) hw2 o2
        refine ⟨N4, acc, accD, _, hJ1, ?_, k4, n4, h5.mono (rg_mono (s3.n.trans s4.n) b), by omega, (h7.trans s3).trans st4⟩
        rw [h2, hd, compS_no hc]
    · rintro H ⟨N, acc, accD, s, h1, h2, h3, h4, h5, h6, h7⟩
      have hdr : xs.drop (xs.map en).length = [] := by
        rw [List.length_map]; exact List.drop_length
      rw [hdr] at h2
      rw [h2] at q
      show Q (.ref D) H
      have e : accD ++ (compS tst el [] s).1 = accD := List.append_nil _
      have es : (compS tst el [] s).2 = s := rfl
      have S2 : SR F N (ρs s) σ H := SR.back S1 h7.n h7.sr st (hl s)
      have fwd : ∀ j p, OwnAt (ρs s) σ j p → OwnAt (wp (ρs s) vs) (L2.wipe σ vs) j p := fun j p ⟨⟨t, e, o⟩, hq⟩ => by
        have hj : j ∉ vs := fun hj => by
          obtain ⟨sl, z1, z2⟩ := st.at j hj
          have := z2 s
          rw [e] at this
          cases this
          rw [z1] at o; cases o
        exact ⟨⟨t, by rw [wp_out hj]; exact e, o⟩, by rw [wipe_out hj]; exact hq⟩
      have full : Step F (ρs s0) σ N1 H1 (ρs s) N H := ⟨h7.n, h7.nw, h7.gr, fun a o e h => h7.kp a o e fun j q => h j (own_wp q).1, fun j p h => (own_wp (h7.sub j p (fwd j p h))).1, S2⟩
      refine q D acc N H ?_ (fresh_back s1 hD) h3 h4 ?_
      · exact s1.trans full
      · show DvL _ _ ((accD ++ (compS tst el [] s).1).map eo)
        rw [e]; exact h5
theorem compS_pure {α β : Type} (p : α → Bool) (f : α → β) : ∀ xs : List α, compS (S := Unit) (fun x s => (p x, s)) (fun x s => (f x, s)) xs () = ((xs.filter p).map f, ())
  | [] => rfl
  | x :: r => by
    cases h : p x with
    | true =>
      rw [compS_yes h, compS_pure p f r, List.filter_cons_of_pos h]
      rfl
    | false =>
      rw [compS_no h, compS_pure p f r, List.filter_cons_of_neg (by rw [h]; exact Bool.false_ne_true)]
/-- a comprehension that changes nothing -/
theorem o_lc {α β : Type} {wi : TI} {g : TG} {tt : TT} {vs : List Nat} {bi : B} (xs : List α) (en : α → PyData) (eo : β → PyData) (ρb : α → List Sl) (p : α → Bool) (f : α → β)
    (hi : EvI F ρ wi bi (xs.map en) ρ1) (st : Stb (fun _ : Unit => ρ1) vs)
    (hg : ∀ x, x ∈ xs → EvG F vs g bi (en x) (wp ρ1 vs) (ρb x))
    (ht : ∀ x, x ∈ xs → EvT F (ρb x) tt (p x) (ρb x))
    (he : ∀ x, x ∈ xs → p x = true → EvE F (ρb x) te (.k b) (eo (f x)) (ρb x))
    (hw : ∀ x, wp (ρb x) vs = wp ρ1 vs) (hz : xs.length ≤ sizeLine) :
    EvO F ρ (tLc wi g tt te vs) b (((xs.filter p).map f).map eo) ρ1 := by
  have h := o_lcS (S := Unit) xs en eo (fun _ => ρ1) (fun x _ => ρb x) (fun _ => True) (fun x s => (p x, s)) (fun x s => (f x, s)) () hi st (fun _ => rfl) trivial (fun x _ hx _ => hg x hx)
    (fun x _ hx _ => ⟨ht x hx, trivial⟩) (fun x s hx _ ⟨s', _, h⟩ => ⟨he x hx h, trivial⟩) (fun x _ => hw x) hz
  rw [compS_pure] at h
  exact h
/-- .. without a test -/
theorem o_lc0 {α β : Type} {wi : TI} {g : TG} {vs : List Nat} {bi : B} (xs : List α) (en : α → PyData) (eo : β → PyData) (ρb : α → List Sl) (f : α → β)
    (hi : EvI F ρ wi bi (xs.map en) ρ1) (st : Stb (fun _ : Unit => ρ1) vs)
    (hg : ∀ x, x ∈ xs → EvG F vs g bi (en x) (wp ρ1 vs) (ρb x))
    (he : ∀ x, x ∈ xs → EvE F (ρb x) te (.k b) (eo (f x)) (ρb x))
    (hw : ∀ x, wp (ρb x) vs = wp ρ1 vs) (hz : xs.length ≤ sizeLine) :
    EvO F ρ (tLc wi g tYes te vs) b ((xs.map f).map eo) ρ1 := by
  have h := o_lc (tt := tYes) xs en eo ρb (fun _ => true) f hi st hg (fun x _ => fun σ N H Q S q => q N H (Step.refl S)) (fun x hx _ => he x hx) hw hz
  rw [List.filter_eq_self.mpr (fun _ _ => rfl)] at h
  exact h
theorem t_yes : EvT F ρ tYes true ρ := fun σ N H Q S q => q N H (Step.refl S)
end
end TP

/-! statements, by data -/
namespace TP
open PySem PySem.Spec L2

/-- what is wanted behind a statement, of the slots -/
structure Out where
  nx : List Sl → Prop := fun _ => False
  rt : Rk → PyData → List Sl → Prop := fun _ _ _ => False
  bk : List Sl → Prop := fun _ => False
  ct : List Sl → Prop := fun _ => False
  er : Addr → List (Str × V) → Prop := fun _ _ => False
/-- what an exception's way out is asked for -/
def ErOk (F : Fm) (Y : XK) (P : Addr → List (Str × V) → Prop) : Prop :=
  ∀ C fs, P C fs → ∀ H' d, (∀ a o, F.H0 a = some o → a ∉ F.IO → H' a = some o) → F.H0 d = none → H' d = some (.xd fs) → Y (.ref C) (some d) H'
def EvS (F : Fm) (Y : XK) (ρ : List Sl) (ts : TS) (O : Out) : Prop :=
  ∀ (σ : St) (N H : Hp) (D : Ends), SR F N ρ σ H →
    (∀ ρ' σ' N' H', O.nx ρ' → Same N N' → SR F N' ρ' σ' H' → D.nx σ' H') →
    (∀ rk d ρ' σ' N' H' v, O.rt rk d ρ' → SR F N' ρ' σ' H' → RHold F N' H' rk v d → D.rt v H') →
    (∀ ρ' σ' N' H', O.bk ρ' → Same N N' → SR F N' ρ' σ' H' → D.bk σ' H') →
    (∀ ρ' σ' N' H', O.ct ρ' → Same N N' → SR F N' ρ' σ' H' → D.ct σ' H') → ErOk F Y O.er → ts D σ H
/-- the flow out of a block -/
inductive Fl (S R : Type) where
  | go (s : S)
  | brk (s : S)
  | ret (r : R)
/-- a value, named -/
def bnd {α γ : Type} (t : α) (f : α → γ) : γ := f t
def iteB {γ : Type} (c : Bool) (a b : γ) : γ := bif c then a else b
theorem bnd_eq {α γ : Type} (t : α) (f : α → γ) : bnd t f = f t := rfl
theorem iteB_true {γ : Type} (a b : γ) : iteB true a b = a := rfl
theorem iteB_false {γ : Type} (a b : γ) : iteB false a b = b := rfl
/-- it ends, with the state s -/
def ON {S : Type} (f : S → List Sl) (s : S) : Out := { nx := fun ρ => ρ = f s }
/-- it returns -/
def OT {R : Type} (G : R → Rk → PyData → List Sl → Prop) (r : R) : Out := { rt := fun rk d ρ => G r rk d ρ, er := fun C fs => G r (.er C fs) .none [] }
/-- any of these -/
def OF {S R : Type} (f : S → List Sl) (G : R → Rk → PyData → List Sl → Prop) (fl : Fl S R) : Out where
  nx := fun ρ => ∃ s, fl = .go s ∧ ρ = f s
  rt := fun rk d ρ => ∃ r, fl = .ret r ∧ G r rk d ρ
  bk := fun ρ => ∃ s, fl = .brk s ∧ ρ = f s
  er := fun C fs => ∃ r, fl = .ret r ∧ G r (.er C fs) .none []

/-- slots forgotten, or regions widened -/
inductive Wk : List Sl → List Sl → Prop
  | nil : Wk [] []
  | eq {a : Sl} {as bs : List Sl} : Wk as bs → Wk (a :: as) (a :: bs)
  | no {a : Sl} {as bs : List Sl} : Wk as bs → Wk (a :: as) (.no :: bs)
  | le {b b' : B} {d : PyData} {as bs : List Sl} : B.le b b' = true → Wk as bs → Wk (.v b d :: as) (.v b' d :: bs)
  | sc {b b' : B} {d : PyData} {as bs : List Sl} : IsSc d → Wk as bs → Wk (.v b d :: as) (.v b' d :: bs)
  | ow {b b' : B} {d : List PyData} {as bs : List Sl} : B.le b b' = true → Wk as bs → Wk (.own b d :: as) (.own b' d :: bs)
theorem Wk.at {ρ ρ' : List Sl} (h : Wk ρ ρ') : ∀ (i : Nat) (t : Sl), ρ'[i]? = some t → t = .no ∨ ρ[i]? = some t ∨ (∃ b b' d, t = .v b' d ∧ ρ[i]? = some (.v b d) ∧ (B.le b b' = true ∨ IsSc d)) ∨ ∃ b b' d, t = .own b' d ∧ ρ[i]? = some (.own b d) ∧ B.le b b' = true := by
  induction h with
  | nil => intro i t e; simp at e
  | eq h ih =>
    intro i t e
    cases i with
    | zero => exact .inr (.inl e)
    | succ i => exact ih i t (by simpa using e)
  | no h ih =>
    intro i t e
    cases i with
    | zero => simp at e; exact .inl e.symm
    | succ i => exact ih i t (by simpa using e)
  | le l h ih =>
    intro i t e
    cases i with
    | zero => simp at e; exact .inr (.inr (.inl ⟨_, _, _, e.symm, rfl, .inl l⟩))
    | succ i => exact ih i t (by simpa using e)
  | sc l h ih =>
    intro i t e
    cases i with
    | zero => simp at e; exact .inr (.inr (.inl ⟨_, _, _, e.symm, rfl, .inr l⟩))
    | succ i => exact ih i t (by simpa using e)
  | ow l h ih =>
    intro i t e
    cases i with
    | zero => simp at e; exact .inr (.inr (.inr ⟨_, _, _, e.symm, rfl, l⟩))
    | succ i => exact ih i t (by simpa using e)
theorem Wk.len {ρ ρ' : List Sl} (h : Wk ρ ρ') : ρ.length = ρ'.length := by
  induction h with
  | nil => rfl
  | _ => simp_all
section
variable {F : Fm} {ρ ρ' ρ1 ρ2 ρ3 ρ4 : List Sl} {ta tb tc te ti : TE} {k ka kb kc : Ek} {d d1 d2 : PyData} {ds es : List PyData} {b b' b1 b2 : B} {K : PySem.W.Frag} {N N' N1 N2 N3 H H' H1 H2 H3 : Hp} {σ σ' : St} {t u : TS} {O : Out} {Y : XK} {α γ S R : Type}

theorem SR.weak (S : SR F N ρ σ H) (w : Wk ρ ρ') : SR F N ρ' σ H := by
  have back : ∀ j q, OwnAt ρ' σ j q → OwnAt ρ σ j q := fun j q ⟨⟨t, e, o⟩, hq⟩ => by
    rcases w.at j t e with h | h | ⟨_, _, _, h, _⟩ | ⟨_, _, _, h, e', _⟩
    · subst h; cases o
    · exact ⟨⟨t, h, o⟩, hq⟩
    · subst h; cases o
    · exact ⟨⟨_, e', rfl⟩, hq⟩
  refine ⟨S.aH, S.bH, S.ioA, S.nH, S.nN, S.keep, S.ioH, S.len.trans w.len, fun j t e => ?_, fun j1 j2 q h1 h2 => S.ap j1 j2 q (back _ _ h1) (back _ _ h2)⟩
  rcases w.at j t e with h | h | ⟨b, b', d, h, e', l⟩ | ⟨b, b', d, h, e', l⟩
  · subst h; trivial
  · exact S.ok j t h
  · subst h
    obtain ⟨w, e1, r⟩ := S.ok j _ e'
    rcases l with l | l
    · exact ⟨w, e1, r.mono (S.sub l)⟩
    · exact ⟨w, e1, r.sc l⟩
  · subst h
    obtain ⟨p, vs, e1, e2, e3, e4, r⟩ := S.ok j _ e'
    exact ⟨p, vs, e1, e2, e3, e4, r.mono (S.sub l)⟩
theorem s_weak (h : EvS F Y ρ' t O) (w : Wk ρ ρ') : EvS F Y ρ t O := fun σ N H D S => h σ N H D (S.weak w)

/-! ### blocks -/
theorem s_end (h : O.nx ρ') (w : Wk ρ ρ') : EvS F Y ρ tNext O := fun σ N H D S h1 _ _ _ _ => h1 ρ' σ N H h (Same.refl N) (S.weak w)
theorem s_end0 (h : O.nx ρ) : EvS F Y ρ tNext O := fun σ N H D S h1 _ _ _ _ => h1 ρ σ N H h (Same.refl N) S
theorem s_seq {M : List Sl → Prop} (h1 : EvS F Y ρ t { nx := M, rt := O.rt, bk := O.bk, ct := O.ct, er := O.er }) (h2 : ∀ ρ1, M ρ1 → EvS F Y ρ1 u O) : EvS F Y ρ (tSeq t u) O := fun σ N H D S q1 q2 q3 q4 q5 =>
  h1 σ N H { D with nx := u D } S (fun ρ1 σ1 N1 H1 hm n S1 => h2 ρ1 hm σ1 N1 H1 D S1 (fun ρ' σ' N' H' x m S' => q1 ρ' σ' N' H' x (n.trans m) S') q2 (fun ρ' σ' N' H' x m S' => q3 ρ' σ' N' H' x (n.trans m) S') (fun ρ' σ' N' H' x m S' => q4 ρ' σ' N' H' x (n.trans m) S') q5) q2 q3 q4 q5
/-- the last statement -/
theorem s_one (h : EvS F Y ρ (tSeq t tNext) O) : EvS F Y ρ t O := h
theorem noown (S : SR F N ρ σ H) {p : Addr} (h : H p = none) : ∀ j, ¬ OwnAt ρ σ j p := fun j q => by
  obtain ⟨⟨vs, e⟩, _⟩ := S.ownH q
  rw [h] at e; cases e
theorem Step.fresh {p : Addr} (s : Step F ρ σ N H ρ' N' H') (S : SR F N ρ σ H) (h : H p = none) : ∀ j, ¬ OwnAt ρ' σ j p := fun j q => noown S h j (s.sub j p q)
/-- name = e -/
theorem s_set {i : Nat} (h : EvE F ρ te (.k b) d ρ1) (hu : EvS F Y (ρ1.set i (.v b d)) u O) (hi : Nat.blt i ρ1.length = true := by rfl) : EvS F Y ρ (tSeq (tAsg te (gName i)) u) O := fun σ N H D S q1 q2 q3 q4 q5 =>
  h σ N H _ S fun v N1 H1 s1 x1 => hu (σ.set i (some v)) N1 H1 D (s1.sr.store (Nat.le_of_ble_eq_true hi) x1) (fun ρ' σ' N' H' x m S' => q1 ρ' σ' N' H' x (s1.n.trans m) S') q2 (fun ρ' σ' N' H' x m S' => q3 ρ' σ' N' H' x (s1.n.trans m) S') (fun ρ' σ' N' H' x m S' => q4 ρ' σ' N' H' x (s1.n.trans m) S') q5
theorem s_setO {i : Nat} (h : EvO F ρ te b ds ρ1) (hu : EvS F Y (ρ1.set i (.own b ds)) u O) (hi : Nat.blt i ρ1.length = true := by rfl) : EvS F Y ρ (tSeq (tAsg te (gName i)) u) O := fun σ N H D S q1 q2 q3 q4 q5 =>
  h σ N H _ S fun p vs N1 H1 s1 hp hq hn r => hu (σ.set i (some (.ref p))) N1 H1 D (s1.sr.storeO (Nat.le_of_ble_eq_true hi) hq hn (S.freshH0 hp) (s1.fresh S hp) r) (fun ρ' σ' N' H' x m S' => q1 ρ' σ' N' H' x (s1.n.trans m) S') q2 (fun ρ' σ' N' H' x m S' => q3 ρ' σ' N' H' x (s1.n.trans m) S') (fun ρ' σ' N' H' x m S' => q4 ρ' σ' N' H' x (s1.n.trans m) S') q5
/-- .. the value named -/
theorem s_asg {O : γ → Out} {i : Nat} {t : α} {en : α → PyData} {Fx : α → γ} (h : EvE F ρ te (.k b) (en t) ρ1) (hu : ∀ x, x = t → EvS F Y (ρ1.set i (.v b (en x))) u (O (Fx x))) (hi : Nat.blt i ρ1.length = true := by rfl) : EvS F Y ρ (tSeq (tAsg te (gName i)) u) (O (bnd t Fx)) := s_set h (hu t rfl) hi
theorem s_asgO {O : γ → Out} {i : Nat} {t : α} {en : α → List PyData} {Fx : α → γ} (h : EvO F ρ te b (en t) ρ1) (hu : ∀ x, x = t → EvS F Y (ρ1.set i (.own b (en x))) u (O (Fx x))) (hi : Nat.blt i ρ1.length = true := by rfl) : EvS F Y ρ (tSeq (tAsg te (gName i)) u) (O (bnd t Fx)) := s_setO h (hu t rfl) hi
/-- any target (a tuple of names) -/
theorem s_tgt {g : TG} {vs : List Nat} (h : EvE F ρ te (.k b) d ρ1) (hg : EvG F vs g b d ρ1 ρ2) (hu : EvS F Y ρ2 u O) : EvS F Y ρ (tSeq (tAsg te g) u) O := fun σ N H D S q1 q2 q3 q4 q5 =>
  h σ N H _ S fun v N1 H1 s1 x1 => hg _ _ _ _ _ s1.sr x1 fun σ2 S2 _ _ _ => hu σ2 N1 H1 D S2 (fun ρ' σ' N' H' x m S' => q1 ρ' σ' N' H' x (s1.n.trans m) S') q2 (fun ρ' σ' N' H' x m S' => q3 ρ' σ' N' H' x (s1.n.trans m) S') (fun ρ' σ' N' H' x m S' => q4 ρ' σ' N' H' x (s1.n.trans m) S') q5
/-- a tuple of names, the tuple named -/
theorem s_tgtN {O : γ → Out} {g : TG} {vs : List Nat} {t : α} {en : α → PyData} {ρ2 : α → List Sl} {Fx : α → γ} (h : EvE F ρ te (.k b) (en t) ρ1) (hg : ∀ p, EvG F vs g b (en p) ρ1 (ρ2 p)) (hu : ∀ p, p = t → EvS F Y (ρ2 p) u (O (Fx p))) : EvS F Y ρ (tSeq (tAsg te g) u) (O (bnd t Fx)) := s_tgt h (hg t) (hu t rfl)
/-- something in the slots named -/
theorem s_gen {O : γ → Out} {s : α} {f : α → List Sl} {Fx : α → γ} (hρ : ρ = f s) (h : ∀ y, y = s → EvS F Y (f y) t (O (Fx y))) : EvS F Y ρ t (O (bnd s Fx)) := by
  subst hρ; exact h s rfl
theorem s_eq (hρ : ρ = ρ') (h : EvS F Y ρ' t O) : EvS F Y ρ t O := by subst hρ; exact h
/-- name += e of ints -/
theorem s_aug {f : Int → Int → Int} {i : Nat} {x y : Int} (hx : ρ[i]? = some (.v b (.int x))) (h : EvE F ρ te k (.int y) ρ1) (hu : EvS F Y (ρ1.set i (.v .sc (.int (f x y)))) u O) (hi : Nat.blt i ρ1.length = true := by rfl) : EvS F Y ρ (tSeq (tAug i te (ipI f)) u) O := fun σ N H D S q1 q2 q3 q4 q5 => by
  obtain ⟨w, e, r⟩ := S.ok i _ hx
  cases r
  exact ⟨_, join_some e, h σ N H _ S fun v N1 H1 s1 x1 => ⟨x, y, rfl, x1.int, hu _ N1 H1 D (s1.sr.store (Nat.le_of_ble_eq_true hi) (Dv.int _)) (fun ρ' σ' N' H' x m S' => q1 ρ' σ' N' H' x (s1.n.trans m) S') q2 (fun ρ' σ' N' H' x m S' => q3 ρ' σ' N' H' x (s1.n.trans m) S') (fun ρ' σ' N' H' x m S' => q4 ρ' σ' N' H' x (s1.n.trans m) S') q5⟩⟩
theorem s_augN {O : γ → Out} {f : Int → Int → Int} {i : Nat} {x y : Int} {Fx : Int → γ} (hx : ρ[i]? = some (.v b (.int x))) (h : EvE F ρ te k (.int y) ρ1) (hu : ∀ z, z = f x y → EvS F Y (ρ1.set i (.v .sc (.int z))) u (O (Fx z))) (hi : Nat.blt i ρ1.length = true := by rfl) : EvS F Y ρ (tSeq (tAug i te (ipI f)) u) (O (bnd (f x y) Fx)) := s_aug hx h (hu _ rfl) hi
/-- an own list from now on never changed -/
theorem s_freeze {i : Nat} (hx : ρ[i]? = some (.own b ds)) (hu : EvS F Y (ρ.set i (.v b.fz (.list ds))) t O) (hb : b ≠ .iob := by decide) : EvS F Y ρ t O := fun σ N H D S q1 q2 q3 q4 q5 => by
  obtain ⟨p, vs, e1, e2, e3, e4, r⟩ := S.ok i _ hx
  have il : i < ρ.length := (List.getElem?_eq_some_iff.mp hx).1
  have e1 := join_some e1
  have hs : Same N (upd N p (.lst vs)) := same_upd' e3
  have hown : OwnAt ρ σ i p := ⟨⟨_, hx, rfl⟩, e1⟩
  have nH : Same (upd N p (.lst vs)) H := fun a u e => by
    by_cases h : a = p
    · subst h; rw [upd_same] at e; rw [e2]; exact e
    · rw [upd_ne h] at e; exact S.nH _ _ e
  have back : ∀ j q, OwnAt (ρ.set i (.v b.fz (.list ds))) σ j q → j ≠ i ∧ OwnAt ρ σ j q := fun j q ⟨⟨t, e, o⟩, hq⟩ => by
    by_cases hj : j = i
    · subst hj
      rw [List.getElem?_set_self il] at e
      cases e; cases o
    · rw [List.getElem?_set_ne (Ne.symm hj)] at e
      exact ⟨hj, ⟨t, e, o⟩, hq⟩
  have dis : ∀ a o, (upd N p (.lst vs)) a = some o → F.A a = none := fun a o e => by
    by_cases h : a = p
    · subst h
      exact (S.ownH hown).2.2.1
    · rw [upd_ne h] at e; exact S.dis a o e
  have rl : DvL (rg F (upd N p (.lst vs)) b.fz) vs ds := by
    have r1 := r.mono (rg_mono (F := F) hs b)
    cases b with
    | sc => exact r1.mono (same_e0 _)
    | new => exact r1
    | out => exact r1.mono (same_join_l _ _)
    | val => exact r1
    | iob => exact absurd rfl hb
  have top : (upd N p (.lst vs)) p = some (.lst vs) := upd_same
  have rv : Dv (rg F (upd N p (.lst vs)) b.fz) (.ref p) (.list ds) := by
    refine .lst ?_ rl
    cases b with
    | sc => exact top
    | new => exact top
    | out => exact same_join_r dis _ _ top
    | val => exact same_join_r dis _ _ top
    | iob => exact absurd rfl hb
  refine hu σ (upd N p (.lst vs)) H D ⟨S.aH, S.bH, S.ioA, nH, fun a o e => ?_, S.keep, S.ioH, by rw [List.length_set]; exact S.len, fun j s e => ?_, fun j1 j2 q h1 h2 => S.ap j1 j2 q (back _ _ h1).2 (back _ _ h2).2⟩ (fun ρ' σ' N' H' x m S' => q1 ρ' σ' N' H' x (hs.trans m) S') q2 (fun ρ' σ' N' H' x m S' => q3 ρ' σ' N' H' x (hs.trans m) S') (fun ρ' σ' N' H' x m S' => q4 ρ' σ' N' H' x (hs.trans m) S') q5
  · by_cases h : a = p
    · subst h; exact e4
    · rw [upd_ne h] at e; exact S.nN a o e
  · by_cases hj : j = i
    · subst hj
      rw [List.getElem?_set_self il] at e
      cases e
      exact ⟨.ref p, by rw [e1]; rfl, rv⟩
    · rw [List.getElem?_set_ne (Ne.symm hj)] at e
      have k := S.ok j s e
      cases s with
      | no => trivial
      | ex v cs => exact ⟨k.1, fun c hc => hs _ _ (k.2 c hc)⟩
      | v b' d' =>
        obtain ⟨w, f1, r'⟩ := k
        exact ⟨w, f1, r'.mono (rg_mono hs b')⟩
      | own b' ds' =>
        obtain ⟨q, ws, f1, f2, f3, f4, r'⟩ := k
        refine ⟨q, ws, f1, f2, ?_, f4, r'.mono (rg_mono hs b')⟩
        rw [upd_ne fun z => hj (S.ap j i p (by rw [← z]; exact ⟨⟨_, e, rfl⟩, join_some f1⟩) hown)]
        exact f3
      | io q b' ds' =>
        obtain ⟨ws, f1, f2, f3, r'⟩ := k
        exact ⟨ws, f1, f2, f3, r'.mono (rg_mono hs b')⟩

/-! ### return, if -/
theorem s_ret {rk : Rk} (h : EvE F ρ te (.k b) d ρ1) (hg : O.rt (.k b) d ρ1) : EvS F Y ρ (tRet te) O := fun σ N H D S q1 q2 q3 q4 q5 =>
  h σ N H _ S fun v N1 H1 s1 x1 => q2 (.k b) d ρ1 σ N1 H1 v hg s1.sr x1
theorem s_retO (h : EvO F ρ te b ds ρ1) (hg : O.rt (.own b) (.list ds) ρ1) : EvS F Y ρ (tRet te) O := fun σ N H D S q1 q2 q3 q4 q5 =>
  h σ N H _ S fun p vs N1 H1 s1 hp hq hn r => q2 (.own b) (.list ds) ρ1 σ N1 H1 (.ref p) hg s1.sr ⟨p, vs, ds, rfl, rfl, hq, hn, S.freshH0 hp, r⟩
/-- return of an own list -/
theorem s_retV {i : Nat} (hx : ρ[i]? = some (.own b ds)) (hg : O.rt (.own b) (.list ds) ρ) : EvS F Y ρ (tRet (tVar i)) O := fun σ N H D S q1 q2 q3 q4 q5 => by
  obtain ⟨p, vs, e1, e2, e3, e4, r⟩ := S.ok i _ hx
  exact ⟨.ref p, join_some e1, q2 (.own b) (.list ds) ρ σ N H (.ref p) hg S ⟨p, vs, ds, rfl, rfl, e2, e3, e4, r⟩⟩
theorem s_if {O : γ → Out} {c : Bool} {tt : TT} {x y : γ} (hc : EvT F ρ tt c ρ1) (ha : c = true → EvS F Y ρ1 t (O x)) (hb : c = false → EvS F Y ρ1 u (O y)) : EvS F Y ρ (tIfS tt t u) (O (iteB c x y)) := fun σ N H D S q1 q2 q3 q4 q5 =>
  hc σ N H _ S fun N1 H1 s1 => by
    cases c with
    | true => rw [if_pos rfl]; exact ha rfl σ N1 H1 D s1.sr (fun ρ' σ' N' H' x m S' => q1 ρ' σ' N' H' x (s1.n.trans m) S') q2 (fun ρ' σ' N' H' x m S' => q3 ρ' σ' N' H' x (s1.n.trans m) S') (fun ρ' σ' N' H' x m S' => q4 ρ' σ' N' H' x (s1.n.trans m) S') q5
    | false => rw [if_neg Bool.false_ne_true]; exact hb rfl σ N1 H1 D s1.sr (fun ρ' σ' N' H' x m S' => q1 ρ' σ' N' H' x (s1.n.trans m) S') q2 (fun ρ' σ' N' H' x m S' => q3 ρ' σ' N' H' x (s1.n.trans m) S') (fun ρ' σ' N' H' x m S' => q4 ρ' σ' N' H' x (s1.n.trans m) S') q5
/-- if, the rest behind each way -/
theorem s_ifG {O : γ → Out} {c : Bool} {tt : TT} {t' : TS} {x y : γ} (hc : EvT F ρ tt c ρ1) (ha : c = true → EvS F Y ρ1 (tSeq t u) (O x)) (hb : c = false → EvS F Y ρ1 (tSeq t' u) (O y)) : EvS F Y ρ (tSeq (tIfS tt t t') u) (O (iteB c x y)) := fun σ N H D S q1 q2 q3 q4 q5 =>
  hc σ N H _ S fun N1 H1 s1 => by
    cases c with
    | true => rw [if_pos rfl]; exact ha rfl σ N1 H1 D s1.sr (fun ρ' σ' N' H' x m S' => q1 ρ' σ' N' H' x (s1.n.trans m) S') q2 (fun ρ' σ' N' H' x m S' => q3 ρ' σ' N' H' x (s1.n.trans m) S') (fun ρ' σ' N' H' x m S' => q4 ρ' σ' N' H' x (s1.n.trans m) S') q5
    | false => rw [if_neg Bool.false_ne_true]; exact hb rfl σ N1 H1 D s1.sr (fun ρ' σ' N' H' x m S' => q1 ρ' σ' N' H' x (s1.n.trans m) S') q2 (fun ρ' σ' N' H' x m S' => q3 ρ' σ' N' H' x (s1.n.trans m) S') (fun ρ' σ' N' H' x m S' => q4 ρ' σ' N' H' x (s1.n.trans m) S') q5
/-- what leaves: the rest is never reached -/
theorem s_leave {O : Out} {Y : XK} (h : EvS F Y ρ t O) (hx : ∀ ρ, ¬ O.nx ρ := by first | exact fun _ h => h | (rintro _ ⟨_, e, _⟩; cases e)) : EvS F Y ρ (tSeq t u) O := fun σ N H D S q1 q2 q3 q4 q5 =>
  h σ N H _ S (fun ρ' σ' N' H' x m S' => (hx _ x).elim) q2 q3 q4 q5
/-- if c: (a block that leaves); the rest -/
theorem s_ifR {O : γ → Out} {c : Bool} {tt : TT} {x y : γ} (hc : EvT F ρ tt c ρ1) (ha : c = true → EvS F Y ρ1 t (O x)) (hb : c = false → EvS F Y ρ1 u (O y)) (hx : ∀ ρ, ¬ (O x).nx ρ := by first | exact fun _ h => h | (rintro _ ⟨_, e, _⟩; cases e)) : EvS F Y ρ (tSeq (tIfS tt t tNext) u) (O (iteB c x y)) := fun σ N H D S q1 q2 q3 q4 q5 =>
  hc σ N H _ S fun N1 H1 s1 => by
    cases c with
    | true => rw [if_pos rfl]; exact ha rfl σ N1 H1 _ s1.sr (fun ρ' σ' N' H' z m S' => (hx ρ' z).elim) q2 (fun ρ' σ' N' H' x m S' => q3 ρ' σ' N' H' x (s1.n.trans m) S') (fun ρ' σ' N' H' x m S' => q4 ρ' σ' N' H' x (s1.n.trans m) S') q5
    | false => rw [if_neg Bool.false_ne_true]; exact hb rfl σ N1 H1 D s1.sr (fun ρ' σ' N' H' x m S' => q1 ρ' σ' N' H' x (s1.n.trans m) S') q2 (fun ρ' σ' N' H' x m S' => q3 ρ' σ' N' H' x (s1.n.trans m) S') (fun ρ' σ' N' H' x m S' => q4 ρ' σ' N' H' x (s1.n.trans m) S') q5
/-- a block that ends, then the rest; its end state is named -/
theorem s_join {O : γ → Out} {f : S → List Sl} {s0 : S} {Fx : S → γ} (h : EvS F Y ρ t (ON f s0)) (hu : ∀ s, s = s0 → EvS F Y (f s) u (O (Fx s))) : EvS F Y ρ (tSeq t u) (O (bnd s0 Fx)) := fun σ N H D S q1 q2 q3 q4 q5 =>
  h σ N H _ S (fun ρ1 σ1 N1 H1 hm n S1 => by
    have hm : ρ1 = f s0 := hm
    subst hm
    exact hu s0 rfl σ1 N1 H1 D S1 (fun ρ' σ' N' H' x m S' => q1 ρ' σ' N' H' x (n.trans m) S') q2 (fun ρ' σ' N' H' x m S' => q3 ρ' σ' N' H' x (n.trans m) S') (fun ρ' σ' N' H' x m S' => q4 ρ' σ' N' H' x (n.trans m) S') q5) (fun _ _ _ _ _ _ _ h => h.elim) (fun _ _ _ _ h => h.elim) (fun _ _ _ _ h => h.elim) (fun _ _ h => h.elim)
/-- how a flow goes on -/
def flT {S R : Type} (fl : Fl S R) (k : S → R) : R := match fl with
  | .go s => k s
  | .brk s => k s
  | .ret r => r
def flF {S S' R : Type} (fl : Fl S R) (k : S → Fl S' R) : Fl S' R := match fl with
  | .go s => k s
  | .brk s => k s
  | .ret r => .ret r
theorem s_flowT {f : S → List Sl} {G : R → Rk → PyData → List Sl → Prop} {fl : Fl S R} {kx : S → R} (h : EvS F Y ρ t (OF f G fl)) (hb : ∀ s, fl ≠ .brk s) (hu : ∀ s, fl = .go s → EvS F Y (f s) u (OT G (kx s))) : EvS F Y ρ (tSeq t u) (OT G (flT fl kx)) := fun σ N H D S q1 q2 q3 q4 q5 =>
  h σ N H _ S (fun ρ1 σ1 N1 H1 ⟨s, e, hm⟩ n S1 => by
    subst hm e
    exact hu s rfl σ1 N1 H1 D S1 (fun ρ' σ' N' H' x m S' => q1 ρ' σ' N' H' x (n.trans m) S') q2 (fun ρ' σ' N' H' x m S' => q3 ρ' σ' N' H' x (n.trans m) S') (fun ρ' σ' N' H' x m S' => q4 ρ' σ' N' H' x (n.trans m) S') q5) (fun rk d ρ' σ' N' H' v ⟨r, e, g⟩ => by subst e; exact q2 rk d ρ' σ' N' H' v g) (fun _ _ _ _ ⟨s, e, _⟩ => (hb s e).elim) (fun _ _ _ _ h => h.elim) (fun C fs ⟨r, e, g⟩ => by subst e; exact q5 C fs g)
theorem s_flowF {S' : Type} {f : S → List Sl} {f' : S' → List Sl} {G : R → Rk → PyData → List Sl → Prop} {fl : Fl S R} {kx : S → Fl S' R} (h : EvS F Y ρ t (OF f G fl)) (hb : ∀ s, fl ≠ .brk s) (hu : ∀ s, fl = .go s → EvS F Y (f s) u (OF f' G (kx s))) : EvS F Y ρ (tSeq t u) (OF f' G (flF fl kx)) := fun σ N H D S q1 q2 q3 q4 q5 =>
  h σ N H _ S (fun ρ1 σ1 N1 H1 ⟨s, e, hm⟩ n S1 => by
    subst hm e
    exact hu s rfl σ1 N1 H1 D S1 (fun ρ' σ' N' H' x m S' => q1 ρ' σ' N' H' x (n.trans m) S') q2 (fun ρ' σ' N' H' x m S' => q3 ρ' σ' N' H' x (n.trans m) S') (fun ρ' σ' N' H' x m S' => q4 ρ' σ' N' H' x (n.trans m) S') q5) (fun rk d ρ' σ' N' H' v ⟨r, e, g⟩ => by subst e; exact q2 rk d ρ' σ' N' H' v ⟨r, rfl, g⟩) (fun _ _ _ _ ⟨s, e, _⟩ => (hb s e).elim) (fun _ _ _ _ h => h.elim) (fun C fs ⟨r, e, g⟩ => by subst e; exact q5 C fs ⟨r, rfl, g⟩)
theorem s_brk {f : S → List Sl} {G : R → Rk → PyData → List Sl → Prop} {s : S} (w : Wk ρ (f s)) : EvS F Y ρ tBreak (OF f G (.brk s)) := fun σ N H D S q1 q2 q3 q4 q5 => q3 _ σ N H ⟨s, rfl, rfl⟩ (Same.refl N) (S.weak w)

/-! ### loops -/
/-- a loop with a state -/
def loopL {α S R : Type} (f : α → S → Fl S R) : List α → S → Fl S R
  | [], s => .go s
  | x :: xs, s => match f x s with
    | .go s' => loopL f xs s'
    | .brk s' => .go s'
    | .ret r => .ret r
theorem loopL_cons {α S R : Type} (f : α → S → Fl S R) (x : α) (xs : List α) (s : S) : loopL f (x :: xs) s = match f x s with
    | .go s' => loopL f xs s'
    | .brk s' => .go s'
    | .ret r => .ret r := rfl
theorem loopL_nobrk {f : α → S → Fl S R} : ∀ (xs : List α) (s s' : S), loopL f xs s ≠ .brk s'
  | [], s, s' => fun e => nomatch e
  | x :: xs, s, s' => by
    unfold loopL
    cases f x s with
    | go s2 => exact loopL_nobrk xs s2 s'
    | brk s2 => exact fun e => nomatch e
    | ret r => exact fun e => nomatch e
/-- for x in ..: a block that may leave -/
theorem s_forF {wi : TI} {g : TG} {tb : TS} {vs : List Nat} {bi : B} (xs : List α) (en : α → PyData) (f : S → List Sl) (ρb : α → S → List Sl) (G : R → Rk → PyData → List Sl → Prop) (fx : α → S → Fl S R) (J : Nat → S → Prop) (s0 : S)
    (hi : EvI F ρ wi bi (xs.map en) ρ1) (w1 : Wk ρ1 (f s0)) (hJ : J 0 s0)
    (hg : ∀ i x s, xs[i]? = some x → J i s → EvG F vs g bi (en x) (f s) (ρb x s))
    (hb : ∀ i x s, xs[i]? = some x → J i s → EvS F Y (ρb x s) tb (OF f G (fx x s)))
    (hJs : ∀ i x s s', xs[i]? = some x → J i s → fx x s = .go s' → J (i + 1) s') :
    EvS F Y ρ (tFor wi g tb) (OF f G (loopL fx xs s0)) := fun σ N H D S0 q1 q2 q3 q4 q5 =>
  hi σ N H _ S0 fun Jt G' Y N1 H1 s1 w hG hY => by
    refine for_it w (fun i σ H => ∃ N2 s, Same N1 N2 ∧ SR F N2 (f s) σ H ∧ J i s ∧ loopL fx xs s0 = loopL fx (xs.drop i) s) ⟨N1, s0, Same.refl _, s1.sr.weak w1, hJ, rfl⟩ ?_ ?_ ?_
    · rintro i σ2 H2 _ ⟨N2, s, n2, S2, _⟩
      exact hG _ _ _ _ S2 n2
    · rintro i x σ2 H2 H3 hlt ⟨N2, s, n2, S2, j2, e2⟩ hy
      have hlt' : i < xs.length := by simpa using hlt
      have hx : xs[i]? = some xs[i] := List.getElem?_eq_getElem hlt'
      generalize xs[i] = a at hx
      have hd : xs.drop i = a :: xs.drop (i + 1) := by
        rw [List.drop_eq_getElem_cons hlt']
        rw [List.getElem?_eq_getElem hlt'] at hx
        cases hx; rfl
      obtain ⟨N3, s3, r3⟩ := hY i (en a) (by rw [List.getElem?_map, hx]; rfl) _ _ _ _ _ _ S2 n2 hy
      refine hg i a s hx j2 _ _ _ _ _ s3.sr r3 fun σ4 S4 _ _ _ => ?_
      have n3 : Same N1 N3 := n2.trans s3.n
      rw [hd, loopL_cons] at e2
      have hh := hb i a s hx j2 σ4 N3 H3
      have hJ2 := hJs i a s
      cases hfx : fx a s with
      | go s' =>
        rw [hfx] at hh e2
        refine hh _ S4 ?_ (fun _ _ _ _ _ _ _ ⟨_, e, _⟩ => nomatch e) (fun _ _ _ _ ⟨_, e, _⟩ => nomatch e) (fun _ _ _ _ h => h.elim) (fun _ _ ⟨_, e, _⟩ => nomatch e)
        rintro ρ5 σ5 N5 H5 ⟨s'', e5, h5⟩ n5 S5
        cases e5
        subst h5
        exact ⟨N5, _, n3.trans n5, S5, hJ2 _ hx j2 hfx, e2⟩
      | brk s' =>
        rw [hfx] at hh e2
        refine hh _ S4 (fun _ _ _ _ ⟨_, e, _⟩ => nomatch e) (fun _ _ _ _ _ _ _ ⟨_, e, _⟩ => nomatch e) ?_ (fun _ _ _ _ h => h.elim) (fun _ _ ⟨_, e, _⟩ => nomatch e)
        rintro ρ5 σ5 N5 H5 ⟨s'', e5, h5⟩ n5 S5
        cases e5
        subst h5
        exact q1 _ _ _ _ ⟨_, e2, rfl⟩ ((s1.n.trans n3).trans n5) S5
      | ret r =>
        rw [hfx] at hh e2
        refine hh _ S4 (fun _ _ _ _ ⟨_, e, _⟩ => nomatch e) ?_ (fun _ _ _ _ ⟨_, e, _⟩ => nomatch e) (fun _ _ _ _ h => h.elim) (fun C fs ⟨r', e5, h5⟩ => by cases e5; exact q5 C fs ⟨_, e2, h5⟩)
        rintro rk d ρ5 σ5 N5 H5 v ⟨r', e5, h5⟩ S5 x5
        cases e5
        exact q2 rk d _ _ _ _ v ⟨_, e2, h5⟩ S5 x5
    · rintro σ2 H2 ⟨N2, s, n2, S2, j2, e2⟩
      have hdr : xs.drop (xs.map en).length = [] := by
        rw [List.length_map]; exact List.drop_length
      rw [hdr] at e2
      exact q1 _ _ _ _ ⟨s, e2, rfl⟩ (s1.n.trans n2) S2
/-- for x in ..: a block that always ends -/
def loopN {α S : Type} (f : α → S → S) (xs : List α) (s : S) : S := xs.foldl (fun s x => f x s) s
theorem loopL_go {f : α → S → S} : ∀ (xs : List α) (s : S), loopL (R := R) (fun x s => .go (f x s)) xs s = .go (loopN f xs s)
  | [], s => rfl
  | x :: xs, s => by
    unfold loopL loopN
    exact loopL_go xs (f x s)
theorem loopN_inv {f : α → S → S} {J : Nat → S → Prop} : ∀ (xs : List α) (k : Nat) (s : S), (∀ i x s, xs[i]? = some x → J (k + i) s → J (k + i + 1) (f x s)) → J k s → J (k + xs.length) (loopN f xs s)
  | [], k, s, _, h => h
  | x :: xs, k, s, hs, h => by
    have h1 := hs 0 x s rfl h
    have := loopN_inv xs (k + 1) (f x s) (fun i y s hy hj => by
      have := hs (i + 1) y s (by simpa using hy) (by rw [show k + (i + 1) = k + 1 + i by omega]; exact hj)
      rw [show k + 1 + i + 1 = k + (i + 1) + 1 by omega]; exact this) h1
    rw [List.length_cons, show k + (xs.length + 1) = k + 1 + xs.length by omega]
    exact this
theorem s_forN {wi : TI} {g : TG} {tb : TS} {vs : List Nat} {bi : B} (xs : List α) (en : α → PyData) (f : S → List Sl) (ρb : α → S → List Sl) (fx : α → S → S) (J : Nat → S → Prop) (s0 : S)
    (hi : EvI F ρ wi bi (xs.map en) ρ1) (w1 : Wk ρ1 (f s0)) (hJ : J 0 s0)
    (hg : ∀ i x s, xs[i]? = some x → J i s → EvG F vs g bi (en x) (f s) (ρb x s))
    (hb : ∀ i x s, xs[i]? = some x → J i s → EvS F Y (ρb x s) tb (ON f (fx x s)))
    (hJs : ∀ i x s, xs[i]? = some x → J i s → J (i + 1) (fx x s)) :
    EvS F Y ρ (tFor wi g tb) (ON f (loopN fx xs s0)) := fun σ N H D S0 q1 q2 q3 q4 q5 => by
  have h := s_forF (Y := Y) (R := Unit) (G := fun _ _ _ _ => False) xs en f ρb (fun x s => .go (fx x s)) J s0 hi w1 hJ hg (fun i x s hx hj => fun σ N H D S p1 p2 p3 p4 _ =>
    hb i x s hx hj σ N H D S (fun ρ' σ' N' H' hn => p1 ρ' σ' N' H' ⟨_, rfl, hn⟩) (fun _ _ _ _ _ _ _ h => h.elim) (fun _ _ _ _ h => h.elim) (fun _ _ _ _ h => h.elim) (fun _ _ h => h.elim)) (fun i x s s' hx hj e => by cases e; exact hJs i x s hx hj)
  rw [loopL_go] at h
  refine h σ N H D S0 (fun ρ' σ' N' H' ⟨s, e, hs⟩ => ?_) (fun _ _ _ _ _ _ _ ⟨_, e, _⟩ => nomatch e) (fun _ _ _ _ ⟨_, e, _⟩ => nomatch e) (fun _ _ _ _ h => h.elim) (fun _ _ ⟨_, e, _⟩ => nomatch e)
  cases e
  exact q1 ρ' σ' N' H' hs
/-- while: with a number that falls -/
def whileL {S R : Type} (c : S → Bool) (f : S → Fl S R) : Nat → S → Fl S R
  | 0, s => .go s
  | n + 1, s => if c s = true then
      match f s with
      | .go s' => whileL c f n s'
      | .brk s' => .go s'
      | .ret r => .ret r
    else .go s
theorem whileL_succ {S R : Type} (c : S → Bool) (f : S → Fl S R) (n : Nat) (s : S) : whileL c f (n + 1) s = if c s = true then
      match f s with
      | .go s' => whileL c f n s'
      | .brk s' => .go s'
      | .ret r => .ret r
    else .go s := rfl
theorem whileL_nobrk {c : S → Bool} {f : S → Fl S R} : ∀ (n : Nat) (s s' : S), whileL c f n s ≠ .brk s'
  | 0, s, s' => fun e => nomatch e
  | n + 1, s, s' => by
    unfold whileL
    split
    · cases f s with
      | go s2 => exact whileL_nobrk n s2 s'
      | brk s2 => exact fun e => nomatch e
      | ret r => exact fun e => nomatch e
    · exact fun e => nomatch e
theorem s_while {tt : TT} {tb : TS} (f : S → List Sl) (G : R → Rk → PyData → List Sl → Prop) (c : S → Bool) (fx : S → Fl S R) (J : S → Prop) (m : S → Nat) (s0 : S) (n : Nat)
    (w1 : Wk ρ (f s0)) (hJ : J s0) (hn : m s0 < n)
    (hc : ∀ s, J s → EvT F (f s) tt (c s) (f s))
    (hb : ∀ s, J s → c s = true → EvS F Y (f s) tb (OF f G (fx s)))
    (hJs : ∀ s s', J s → c s = true → fx s = .go s' → J s' ∧ m s' < m s) :
    EvS F Y ρ (tWhile tt tb) (OF f G (whileL c fx n s0)) := fun σ N H D S0 q1 q2 q3 q4 q5 => by
  refine ⟨fun k σ H => ∃ N2 s, Same N N2 ∧ SR F N2 (f s) σ H ∧ J s ∧ m s < k ∧ whileL c fx n s0 = whileL c fx k s, ⟨n, N, s0, Same.refl _, S0.weak w1, hJ, hn, rfl⟩, ?_⟩
  rintro k σ1 H1 ⟨N1, s, n1, S1, j1, l1, e1⟩
  refine hc s j1 σ1 N1 H1 _ S1 fun N2 H2 s2 => ?_
  obtain ⟨k, rfl⟩ : ∃ k', k = k' + 1 := ⟨k - 1, by omega⟩
  rw [whileL_succ c fx k s] at e1
  cases hcs : c s with
  | false =>
    rw [if_neg Bool.false_ne_true]
    rw [hcs, if_neg Bool.false_ne_true] at e1
    exact q1 _ _ _ _ ⟨s, e1, rfl⟩ (n1.trans s2.n) s2.sr
  | true =>
    rw [if_pos rfl]
    rw [hcs, if_pos rfl] at e1
    refine ⟨fun σ' H' => ∃ N2 s', Same N N2 ∧ SR F N2 (f s') σ' H' ∧ J s' ∧ m s' < k ∧ whileL c fx n s0 = whileL c fx k s', fun σ' H' h => ⟨k, Nat.lt_succ_self k, h⟩, ?_⟩
    have hh := hb s j1 hcs σ1 N2 H2
    have hJ2 := hJs s
    have n12 := n1.trans s2.n
    cases hfx : fx s with
    | go s' =>
      rw [hfx] at hh e1
      obtain ⟨j', l'⟩ := hJ2 s' j1 hcs hfx
      refine hh _ s2.sr ?_ (fun _ _ _ _ _ _ _ ⟨_, e, _⟩ => nomatch e) (fun _ _ _ _ ⟨_, e, _⟩ => nomatch e) (fun _ _ _ _ h => h.elim) (fun _ _ ⟨_, e, _⟩ => nomatch e)
      rintro ρ5 σ5 N5 H5 ⟨s'', e5, h5⟩ n5 S5
      cases e5
      subst h5
      exact ⟨N5, _, n12.trans n5, S5, j', by omega, e1⟩
    | brk s' =>
      rw [hfx] at hh e1
      refine hh _ s2.sr (fun _ _ _ _ ⟨_, e, _⟩ => nomatch e) (fun _ _ _ _ _ _ _ ⟨_, e, _⟩ => nomatch e) ?_ (fun _ _ _ _ h => h.elim) (fun _ _ ⟨_, e, _⟩ => nomatch e)
      rintro ρ5 σ5 N5 H5 ⟨s'', e5, h5⟩ n5 S5
      cases e5
      subst h5
      exact q1 _ _ _ _ ⟨_, e1, rfl⟩ (n12.trans n5) S5
    | ret r =>
      rw [hfx] at hh e1
      refine hh _ s2.sr (fun _ _ _ _ ⟨_, e, _⟩ => nomatch e) ?_ (fun _ _ _ _ ⟨_, e, _⟩ => nomatch e) (fun _ _ _ _ h => h.elim) (fun C fs ⟨r', e5, h5⟩ => by cases e5; exact q5 C fs ⟨_, e1, h5⟩)
      rintro rk d ρ5 σ5 N5 H5 v ⟨r', e5, h5⟩ S5 x5
      cases e5
      exact q2 rk d _ _ _ _ v ⟨_, e1, h5⟩ S5 x5
end
end TP

/-! own lists changed; defs -/
namespace TP
open PySem PySem.Spec L2

section
variable {F : Fm} {ρ ρ' ρ1 ρ2 ρ3 ρ4 : List Sl} {ta tb tc te ti : TE} {k ka kb kc : Ek} {d d1 d2 : PyData} {ds es : List PyData} {b b' b1 b2 : B} {K : PySem.W.Frag} {N N' N1 N2 N3 H H' H1 H2 H3 : Hp} {σ σ' : St} {t u : TS} {O : Out} {Y : XK} {α γ S R : Type}

/-- an item may go into a list whose items lie at b -/
def Fits (k : Ek) (d : PyData) (b : B) : Prop := (∃ b', k = .k b' ∧ B.le b' b = true) ∨ IsSc d
theorem Hold.fits {v : V} (S : SR F N ρ σ H) (h : Hold F N ρ σ k v d) (f : Fits k d b) : Dv (rg F N b) v d := by
  rcases f with ⟨b', e, l⟩ | s
  · subst e; exact Dv.mono (S.sub l) h
  · exact h.sc s
theorem tyV_list {p : Addr} {vs : List V} (h : H p = some (.lst vs)) : tyV K "list" (.ref p) H := .inl ⟨rfl, vs, SqL.of h⟩
/-- xs.append(e) -/
theorem s_append {i : Nat} (hx : ρ[i]? = some (.own b ds)) (h : EvE F ρ te k d ρ1) (hx1 : ρ1[i]? = some (.own b ds)) (f : Fits k d b) (hz : ds.length < sizeLine) (hu : EvS F Y (ρ1.set i (.own b (ds ++ [d]))) u O) :
    EvS F Y ρ (tSeq (tDrop (tBM K "list" rAppend (tVar i) (tCons te tNil))) u) O := fun σ N H D S q1 q2 q3 q4 q5 => by
  obtain ⟨p0, vs0, e0, h0, r0, o0⟩ := S.cell hx rfl
  refine ⟨.ref p0, e0, tyV_list h0, h σ N H _ S fun v N1 H1 s1 x1 => ?_⟩
  obtain ⟨p, vs, e1, h1, r1, o1⟩ := s1.sr.cell hx1 rfl
  rw [e0] at e1
  cases e1
  refine ⟨p0, vs, v, rfl, rfl, h1, by rw [r1.len]; exact hz, ?_⟩
  have r2 : DvL (rg F N1 b) (vs ++ [v]) (ds ++ [d]) := r1.append (.one (x1.fits s1.sr f))
  have st := Step.put s1.sr hx1 (show Sl.cont (.own b ds) = some (b, ds) from rfl) e0 (Same.refl N1) (fun a o e n => by rw [e] at n; cases n) (H' := upd H1 p0 (.lst (vs ++ [v]))) (fun a o e n => by rw [upd_ne n]; exact e) (fun a o e => by
    rw [upd_ne]
    · exact s1.sr.nH a o e
    · intro z
      subst z
      rw [(s1.sr.ownH o1).2.1] at e; cases e) upd_same r2
  exact hu σ N1 _ D st.sr (fun ρ' σ' N' H' x m S' => q1 ρ' σ' N' H' x (s1.n.trans m) S') q2 (fun ρ' σ' N' H' x m S' => q3 ρ' σ' N' H' x (s1.n.trans m) S') (fun ρ' σ' N' H' x m S' => q4 ρ' σ' N' H' x (s1.n.trans m) S') q5
/-- xs.extend(ys) -/
theorem s_extend {i : Nat} (hx : ρ[i]? = some (.own b ds)) (h : EvE F ρ te k (.list es) ρ1) (hx1 : ρ1[i]? = some (.own b ds)) (f : B.le k.ib b = true) (hz : ds.length + es.length ≤ sizeLine) (hu : EvS F Y (ρ1.set i (.own b (ds ++ es))) u O) :
    EvS F Y ρ (tSeq (tDrop (tBM K "list" rExtend (tVar i) (tCons te tNil))) u) O := fun σ N H D S q1 q2 q3 q4 q5 => by
  obtain ⟨p0, vs0, e0, h0, r0, o0⟩ := S.cell hx rfl
  refine ⟨.ref p0, e0, tyV_list h0, h σ N H _ S fun v N1 H1 s1 x1 => ?_⟩
  obtain ⟨p, vs, e1, h1, r1, o1⟩ := s1.sr.cell hx1 rfl
  rw [e0] at e1
  cases e1
  obtain ⟨a, ws, e2, h2, r2⟩ := x1.lst s1.sr
  subst e2
  refine ⟨p0, a, vs, ws, rfl, rfl, h1, h2, by rw [r1.len, r2.len]; exact hz, ?_⟩
  have r3 : DvL (rg F N1 b) (vs ++ ws) (ds ++ es) := r1.append (r2.mono (s1.sr.sub f))
  have st := Step.put s1.sr hx1 (show Sl.cont (.own b ds) = some (b, ds) from rfl) e0 (Same.refl N1) (fun a o e n => by rw [e] at n; cases n) (H' := upd H1 p0 (.lst (vs ++ ws))) (fun a o e n => by rw [upd_ne n]; exact e) (fun a o e => by
    rw [upd_ne]
    · exact s1.sr.nH a o e
    · intro z
      subst z
      rw [(s1.sr.ownH o1).2.1] at e; cases e) upd_same r3
  exact hu σ N1 _ D st.sr (fun ρ' σ' N' H' x m S' => q1 ρ' σ' N' H' x (s1.n.trans m) S') q2 (fun ρ' σ' N' H' x m S' => q3 ρ' σ' N' H' x (s1.n.trans m) S') (fun ρ' σ' N' H' x m S' => q4 ρ' σ' N' H' x (s1.n.trans m) S') q5
/-- xs[j] = e -/
theorem s_setI {i j : Nat} {s : Sl} {x : Int} (h : EvE F ρ te k d ρ1) (hx : ρ1[i]? = some s) (hc : s.cont = some (b, ds)) (hi : EvE F ρ1 ti kb (.int x) ρ2) (hk : Keeps k ρ1 ρ2) (hx2 : ρ2[i]? = some s) (hj : ixN ds.length x = some j) (f : Fits k d b) (hu : EvS F Y (ρ2.set i (s.put (ds.set j d))) u O) :
    EvS F Y ρ (tSeq (tAsg te (gSub (tVar i) ti rSetL)) u) O := fun σ N H D S q1 q2 q3 q4 q5 =>
  h σ N H _ S fun v N1 H1 s1 x1 => by
    obtain ⟨p0, vs0, e0, h0, r0, o0⟩ := s1.sr.cell hx hc
    refine ⟨.ref p0, e0, hi σ N1 H1 _ s1.sr fun w N2 H2 s2 x2 => ?_⟩
    obtain ⟨p, vs, e1, h1, r1, o1⟩ := s2.sr.cell hx2 hc
    rw [e0] at e1
    cases e1
    refine ⟨p0, vs, x, j, rfl, x2.int, h1, by rw [r1.len]; exact hj, ?_⟩
    have r2 : DvL (rg F N2 b) (vs.set j v) (ds.set j d) := DvL.set ((x1.step s2 hk).fits s2.sr f) j r1
    have st := Step.put s2.sr hx2 hc e0 (Same.refl N2) (fun a o e n => by rw [e] at n; cases n) (H' := upd H2 p0 (.lst (vs.set j v))) (fun a o e n => by rw [upd_ne n]; exact e) (fun a o e => by
      rw [upd_ne]
      · exact s2.sr.nH a o e
      · intro z
        subst z
        rw [(s2.sr.ownH o1).2.1] at e; cases e) upd_same r2
    have n12 := s1.n.trans s2.n
    exact hu σ N2 _ D st.sr (fun ρ' σ' N' H' x m S' => q1 ρ' σ' N' H' x (n12.trans m) S') q2 (fun ρ' σ' N' H' x m S' => q3 ρ' σ' N' H' x (n12.trans m) S') (fun ρ' σ' N' H' x m S' => q4 ρ' σ' N' H' x (n12.trans m) S') q5
/-- an item of a list by a place from 0 on -/
def rGetL (K : PySem.W.Frag) : V → V → Hp → VK → Prop := fun x y H Q => ∃ p xs i v, x = .ref p ∧ y = .int i ∧ SqL K H p xs ∧ 0 ≤ i ∧ atI xs i = some v ∧ Q v H
theorem get_list {X : Cx} : PGet X (rGetL X.K) := by
  intro pins s σ H x y v u Q I rx ry h
  obtain ⟨p, xs, i, z, rfl, rfl, hq, h0, he, q⟩ := h
  cases rx
  obtain ⟨t, rfl⟩ := ry
  obtain ⟨its, r, pl, hz⟩ := I.list hq
  obtain ⟨j, h1, h2, h3, h4, h5⟩ := atI_get he
  obtain ⟨w, ew, rw'⟩ := r.get h2
  have hl := r.length
  have hn := line63
  have fin : EP X pins σ Q w s := ⟨z, H, I, rw', q⟩
  have hj : i.toNat = j := by
    rw [seqIndex_of h0 h5] at h1
    exact Option.some.inj h1
  exact wpAny_getItem_list pl.isList h0 (by omega) (by rw [hj]; simpa using ew) fin
/-- xs[j] += e of ints -/
theorem s_augI {fo : Int → Int → Int} {i j : Nat} {s : Sl} {x z y : Int} (hx : ρ[i]? = some s) (hc : s.cont = some (b, ds)) (hi : EvE F ρ ti kb (.int x) ρ1) (hx1 : ρ1[i]? = some s) (h0 : 0 ≤ x) (hj : ixN ds.length x = some j) (hz : ds[j]? = some (.int z))
    (he : EvE F ρ1 te kc (.int y) ρ2) (hx2 : ρ2[i]? = some s) (hu : EvS F Y (ρ2.set i (s.put (ds.set j (.int (fo z y))))) u O) :
    EvS F Y ρ (tSeq (tAugS (tVar i) ti te (rGetL K) (ipI fo) rSetL) u) O := fun σ N H D S q1 q2 q3 q4 q5 => by
  obtain ⟨p0, vs0, e0, h0', r0, o0⟩ := S.cell hx hc
  refine ⟨.ref p0, e0, hi σ N H _ S fun w N1 H1 s1 x1 => ?_⟩
  obtain ⟨p, vs, e1, h1, r1, o1⟩ := s1.sr.cell hx1 hc
  rw [e0] at e1
  cases e1
  have ha : atI ds x = some (.int z) := by unfold L2.atI; rw [hj]; exact hz
  obtain ⟨v, ev, rv⟩ := r1.atI ha
  refine ⟨p0, vs, x, v, rfl, x1.int, SqL.of h1, h0, ev, he σ N1 H1 _ s1.sr fun w2 N2 H2 s2 x2 => ⟨z, y, rv.int_inv, x2.int, ?_⟩⟩
  obtain ⟨p, vs2, e2, h2, r2, o2⟩ := s2.sr.cell hx2 hc
  rw [e0] at e2
  cases e2
  refine ⟨p0, vs2, x, j, rfl, x1.int, h2, by rw [r2.len]; exact hj, ?_⟩
  have r3 : DvL (rg F N2 b) (vs2.set j (.int (fo z y))) (ds.set j (.int (fo z y))) := DvL.set (Dv.int _) j r2
  have st := Step.put s2.sr hx2 hc e0 (Same.refl N2) (fun a o e n => by rw [e] at n; cases n) (H' := upd H2 p0 (.lst (vs2.set j (.int (fo z y))))) (fun a o e n => by rw [upd_ne n]; exact e) (fun a o e => by
    rw [upd_ne]
    · exact s2.sr.nH a o e
    · intro z
      subst z
      rw [(s2.sr.ownH o2).2.1] at e; cases e) upd_same r3
  have n12 := s1.n.trans s2.n
  exact hu σ N2 _ D st.sr (fun ρ' σ' N' H' x m S' => q1 ρ' σ' N' H' x (n12.trans m) S') q2 (fun ρ' σ' N' H' x m S' => q3 ρ' σ' N' H' x (n12.trans m) S') (fun ρ' σ' N' H' x m S' => q4 ρ' σ' N' H' x (n12.trans m) S') q5
/-- xs.pop(j) -/
theorem e_popAt {i j : Nat} {x : Int} (hx : ρ[i]? = some (.own b ds)) (h : EvE F ρ te k (.int x) ρ1) (hx1 : ρ1[i]? = some (.own b ds)) (h0 : 0 ≤ x) (h1 : x < 2 ^ 63) (hj : x.toNat = j) (hd : ds[j]? = some d) :
    EvE F ρ (tBM K "list" rPopAt (tVar i) (tCons te tNil)) (.k b) d (ρ1.set i (.own b (ds.eraseIdx j))) := fun σ N H Q S q => by
  obtain ⟨p0, vs0, e0, h0', r0, o0⟩ := S.cell hx rfl
  refine ⟨.ref p0, e0, tyV_list h0', h σ N H _ S fun v N1 H1 s1 x1 => ?_⟩
  obtain ⟨p, vs, e1, h1', r1, o1⟩ := s1.sr.cell hx1 rfl
  rw [e0] at e1
  cases e1
  obtain ⟨w, ew, rw'⟩ := r1.get hd
  have hlt : j < vs.length := (List.getElem?_eq_some_iff.mp ew).1
  have hs : seqIndex? x vs.length = some j := by rw [seqIndex_of h0 (by omega), hj]
  refine ⟨p0, vs, x, j, w, rfl, by rw [x1.int], h1', by omega, h1, hs, ew, ?_⟩
  have st := Step.put s1.sr hx1 (show Sl.cont (.own b ds) = some (b, ds) from rfl) e0 (Same.refl N1) (fun a o e n => by rw [e] at n; cases n) (H' := upd H1 p0 (.lst (vs.eraseIdx j))) (fun a o e n => by rw [upd_ne n]; exact e) (fun a o e => by
    rw [upd_ne]
    · exact s1.sr.nH a o e
    · intro z
      subst z
      rw [(s1.sr.ownH o1).2.1] at e; cases e) upd_same (r1.eraseIdx j)
  exact q w N1 _ (s1.trans st) rw'
/-- an expression for its effect -/
theorem s_drop (h : EvE F ρ te k d ρ1) (hu : EvS F Y ρ1 u O) : EvS F Y ρ (tSeq (tDrop te) u) O := fun σ N H D S q1 q2 q3 q4 q5 =>
  h σ N H _ S fun v N1 H1 s1 x1 => hu σ N1 H1 D s1.sr (fun ρ' σ' N' H' x m S' => q1 ρ' σ' N' H' x (s1.n.trans m) S') q2 (fun ρ' σ' N' H' x m S' => q3 ρ' σ' N' H' x (s1.n.trans m) S') (fun ρ' σ' N' H' x m S' => q4 ρ' σ' N' H' x (s1.n.trans m) S') q5

/-! ### defs -/
theorem EvS.imp {O O' : Out} (h : EvS F Y ρ t O) (a : ∀ ρ, O.nx ρ → O'.nx ρ) (c : ∀ rk d ρ, O.rt rk d ρ → O'.rt rk d ρ) (e : ∀ ρ, O.bk ρ → O'.bk ρ) (g : ∀ ρ, O.ct ρ → O'.ct ρ) (l : ∀ C fs, O.er C fs → O'.er C fs) : EvS F Y ρ t O' := fun σ N H D S q1 q2 q3 q4 q5 =>
  h σ N H D S (fun ρ' σ' N' H' x => q1 ρ' σ' N' H' (a _ x)) (fun rk d ρ' σ' N' H' v x => q2 rk d ρ' σ' N' H' v (c _ _ _ x)) (fun ρ' σ' N' H' x => q3 ρ' σ' N' H' (e _ x)) (fun ρ' σ' N' H' x => q4 ρ' σ' N' H' (g _ x)) fun C fs x => q5 C fs (l _ _ x)
/-- the slots at a def's entry -/
def sl0 (ds : List PyData) (n : Nat) : List Sl := ds.map (Sl.v .out) ++ List.replicate n .no
def toSl (p : Addr) : Ar → Sl
  | .d d => .v .out d
  | .io es => .io p .iob es
def slI (p : Addr) (as : List Ar) (n : Nat) : List Sl := as.map (toSl p) ++ List.replicate n .no
theorem slots0 {A Bb : Hp} {p : Addr} : ∀ {as : List Ar} {vs : List V} {i : Nat} {s : Sl} {n m : Nat}, ArL A Bb H p vs as → (as.map (toSl p) ++ List.replicate n .no)[i]? = some s →
    SlOk ⟨A, Bb, H, [p]⟩ e0 H s ((vs.map some ++ List.replicate m none)[i]?.join)
  | [], [], i, s, n, m, _, e => by
    rw [List.map_nil, List.nil_append, List.getElem?_replicate] at e
    split at e
    · cases e; trivial
    · cases e
  | .d d :: as, v :: vs, 0, s, n, m, h, e => by
    cases e
    exact ⟨v, rfl, h.1⟩
  | .io es :: as, v :: vs, 0, s, n, m, h, e => by
    cases e
    obtain ⟨⟨e, ws, h1, h2⟩, _⟩ := h
    subst e
    exact ⟨ws, rfl, h1, List.mem_singleton.mpr rfl, h2⟩
  | .d d :: as, v :: vs, i + 1, s, n, m, h, e => slots0 (as := as) (vs := vs) (i := i) h.2 (by simpa using e)
  | .io es :: as, v :: vs, i + 1, s, n, m, h, e => slots0 (as := as) (vs := vs) (i := i) h.2 (by simpa using e)
  | [], _ :: _, _, _, _, _, h, _ => h.elim
  | .d _ :: _, [], _, _, _, _, h, _ => h.elim
  | .io _ :: _, [], _, _, _, _, h, _ => h.elim
theorem ArL.len {A Bb : Hp} {p : Addr} : ∀ {as : List Ar} {vs : List V}, ArL A Bb H p vs as → vs.length = as.length
  | [], [], _ => rfl
  | .d _ :: as, v :: vs, h => by simp [ArL.len h.2]
  | .io _ :: as, v :: vs, h => by simp [ArL.len h.2]
  | [], _ :: _, h => h.elim
  | .d _ :: _, [], h => h.elim
  | .io _ :: _, [], h => h.elim
theorem ArL.of {A : Hp} {p : Addr} : ∀ {ds : List PyData} {vs : List V}, DvL A vs ds → ArL A e0 H p vs (ds.map Ar.d)
  | [], _, .nil => trivial
  | d :: ds, _, .cons r t => ⟨r, ArL.of t⟩
/-- one given list at most -/
def One : List Ar → Bool
  | [] => true
  | .d _ :: as => One as
  | .io _ :: as => as.all fun a => match a with
    | .d _ => true
    | .io _ => false
theorem nd_all {p : Addr} : ∀ {as : List Ar} {n : Nat} {i : Nat} {s : Sl}, (as.all fun a => match a with | .d _ => true | .io _ => false) = true → (as.map (toSl p) ++ List.replicate n .no)[i]? = some s → s.isOwn = false
  | [], n, i, s, _, e => by
    rw [List.map_nil, List.nil_append, List.getElem?_replicate] at e
    split at e
    · cases e; rfl
    · cases e
  | .d _ :: as, n, 0, s, _, e => by cases e; rfl
  | .d _ :: as, n, i + 1, s, h, e => nd_all (as := as) (i := i) (by simpa using h) (by simpa using e)
  | .io _ :: as, n, _, s, h, e => by simp at h
theorem one_own {p : Addr} : ∀ {as : List Ar} {n : Nat} {i j : Nat} {s t : Sl}, One as = true → (as.map (toSl p) ++ List.replicate n .no)[i]? = some s → (as.map (toSl p) ++ List.replicate n .no)[j]? = some t → s.isOwn = true → t.isOwn = true → i = j
  | [], n, i, j, s, t, _, e, _, o, _ => by
    rw [List.map_nil, List.nil_append, List.getElem?_replicate] at e
    split at e
    · cases e; cases o
    · cases e
  | .d _ :: as, n, 0, j, s, t, h, e, e', o, o' => by cases e; cases o
  | .d _ :: as, n, i + 1, 0, s, t, h, e, e', o, o' => by cases e'; cases o'
  | .d _ :: as, n, i + 1, j + 1, s, t, h, e, e', o, o' => by
    rw [one_own (as := as) (i := i) (j := j) h (by simpa using e) (by simpa using e') o o']
  | .io _ :: as, n, 0, 0, s, t, h, e, e', o, o' => rfl
  | .io _ :: as, n, 0, j + 1, s, t, h, e, e', o, o' => by
    have := nd_all (p := p) (n := n) (i := j) h (by simpa using e')
    rw [this] at o'; cases o'
  | .io _ :: as, n, i + 1, j, s, t, h, e, e', o, o' => by
    have := nd_all (p := p) (n := n) (i := i) h (by simpa using e)
    rw [this] at o; cases o
theorem sr_start {A Bb : Hp} {p : Addr} {as : List Ar} {vs : List V} {n : Nat} (hA : Same A H) (hB : Same Bb H) (h1 : A p = none) (h2 : Bb p = none) (h3 : ∃ o, H p = some o) (h : ArL A Bb H p vs as) (ho : One as = true) :
    SR ⟨A, Bb, H, [p]⟩ e0 (slI p as n) (vs.map some ++ List.replicate n none) H := by
  refine ⟨hA, hB, fun q hq => ?_, same_e0 H, fun a o e => (by cases e), fun a o e _ => e, fun q hq => ?_, ?_, fun i s e => slots0 h e, fun i j q a c => ?_⟩
  · have := List.mem_singleton.mp hq
    subst this
    exact ⟨h1, h2, h3⟩
  · have := List.mem_singleton.mp hq
    subst this
    exact h3
  · unfold slI
    simp [h.len]
  · obtain ⟨⟨s, e, o⟩, _⟩ := a
    obtain ⟨⟨t, e', o'⟩, _⟩ := c
    exact one_own ho e e' o o'
/-- the wish of a def that answers d -/
def OD (rk : Rk) (d : PyData) : Out := { rt := fun rk' d' _ => rk' = rk ∧ d' = d, nx := fun _ => rk = .k .sc ∧ d = .none }
theorem start_eq {Nm : List Str} {vs : List V} {n : Nat} (h : Nm.length = vs.length + n) : L2.start Nm vs = vs.map some ++ List.replicate n none := by
  unfold L2.start
  rw [show Nm.length - vs.length = n by omega]
theorem nosl {A : Hp} {p : Addr} : ∀ (ds : List PyData) (n : Nat), slI p (ds.map Ar.d) n = sl0 ds n := fun ds n => by
  unfold slI sl0
  rw [List.map_map]
  rfl
theorem one_d : ∀ ds : List PyData, One (ds.map Ar.d) = true
  | [] => rfl
  | _ :: r => one_d r
theorem sr_start0 {A : Hp} {vs : List V} {n : Nat} (hA : Same A H) (h : DvL A vs ds) : SR ⟨A, e0, H, []⟩ e0 (sl0 ds n) (vs.map some ++ List.replicate n none) H := by
  refine ⟨hA, same_e0 H, fun q hq => (nomatch hq), same_e0 H, fun a o e => (by cases e), fun a o e _ => e, fun q hq => (nomatch hq), ?_, fun i s e => ?_, fun i j q a c => ?_⟩
  · unfold sl0
    simp [h.len]
  · have k := slots0 (H := H) (p := 0) (m := n) (ArL.of (H := H) (p := 0) h) (by rw [← nosl (A := A) (p := 0)] at e; exact e)
    cases s with
    | no => trivial
    | ex v cs => exact k
    | v b d =>
      obtain ⟨w, e1, r⟩ := k
      refine ⟨w, e1, ?_⟩
      cases b with
      | sc => exact r
      | out => exact r
      | new => exact r
      | val => exact r
      | iob => exact r
    | own b d =>
      exfalso
      have := nd_all (p := 0) (as := ds.map Ar.d) (n := n) (i := i) (by simp) (by rw [← nosl (A := A) (p := 0)] at e; exact e)
      cases this
    | io q b d =>
      exfalso
      have := nd_all (p := 0) (as := ds.map Ar.d) (n := n) (i := i) (by simp) (by rw [← nosl (A := A) (p := 0)] at e; exact e)
      cases this
  · obtain ⟨⟨s, e, o⟩, _⟩ := a
    obtain ⟨⟨t, e', o'⟩, _⟩ := c
    rw [← nosl (A := A) (p := 0)] at e e'
    exact one_own (one_d ds) e e' o o'
/-- .. with one -/
def ODI (rk : Rk) (d : PyData) (j : Nat) (p : Addr) (es' : List PyData) : Out := { rt := fun rk' d' ρ => rk' = rk ∧ d' = d ∧ ρ[j]? = some (.io p .iob es'), nx := fun ρ => rk = .k .sc ∧ d = .none ∧ ρ[j]? = some (.io p .iob es') }
/-- the answer r, wrapped -/
def GD {γ : Type} (rk : Rk) (en : γ → PyData) : γ → Rk → PyData → List Sl → Prop := fun r rk' d' _ => rk' = rk ∧ d' = en r
def GI {γ β : Type} (rk : Rk) (en : γ → PyData) (j : Nat) (p : Addr) (es : β → List PyData) : γ × β → Rk → PyData → List Sl → Prop := fun r rk' d' ρ => rk' = rk ∧ d' = en r.1 ∧ ρ[j]? = some (.io p .iob (es r.2))
theorem s_top {rk : Rk} {en : R → PyData} {r : R} (h : EvS F Y ρ t (OT (GD rk en) r)) (hk : ∀ C fs, rk ≠ .er C fs := by intro _ _ h; cases h) : EvS F Y ρ t (OD rk (en r)) := h.imp (fun _ x => x.elim) (fun _ _ _ x => x) (fun _ x => x.elim) (fun _ x => x.elim) (fun C fs x => (hk C fs x.1.symm).elim)
theorem s_topI {β : Type} {rk : Rk} {en : R → PyData} {j : Nat} {p : Addr} {es : β → List PyData} {r : R × β} (h : EvS F Y ρ t (OT (GI rk en j p es) r)) (hk : ∀ C fs, rk ≠ .er C fs := by intro _ _ h; cases h) : EvS F Y ρ t (ODI rk (en r.1) j p (es r.2)) := h.imp (fun _ x => x.elim) (fun _ _ _ x => x) (fun _ x => x.elim) (fun _ x => x.elim) (fun C fs x => (hk C fs x.1.symm).elim)
/-- the promise for all arguments at once -/
def spFn {α : Type} (D : α → Prop) (enA : α → List PyData) (rk : Rk) (enR : α → PyData) : Sp := fun vs H Q E => ∃ a, D a ∧ spF rk (enA a) (enR a) vs H Q E
def spIn {α : Type} (D : α → Prop) (enA : α → List Ar) (rk : Rk) (enR : α → PyData) (es : α → List PyData) : Sp := fun vs H Q E => ∃ a, D a ∧ spI rk (enA a) (enR a) (es a) vs H Q E
variable {P : Program} {w : World} {mg : Str → Option Value} {base : Heap}
/-- THE RULE for a def without a given list that changes -/
theorem fn_F {x qual : Str} {st : Stmt} {f : Addr} {fd : FuncData} {Nm ps : List Str} {k n : Nat} {rk : Rk} (Fn : Fun K x qual st f fd) (Sc : FnScope Nm ps (defScope st)) (hl : ds.length = ps.length := by rfl) (hn : Nm.length = ps.length + n := by rfl)
    (hb : ∀ (cdv : Value) (A : Around) (outer : List Env) (s : Shared) (H : Hp) (E : XK), Room k (A.deeper (PyProof.Rows.envOfC qual (defScope st) s.heap.objs.size f cdv)) →
      ∃ t, PSs (cxOf CX0 P w K mg base Nm qual (defScope st) f cdv A outer s H E).nox (defBody st) t ∧ ∀ A0, EvS ⟨A0, e0, H, []⟩ E (sl0 ds n) t (OD rk d)) :
    FnOk P w K mg base CX0 (k + 1) f fd ps (spF rk ds d) := by
  refine Fn.ok Sc (fun vs H Q E h => ?_) (fun cdv A outer s H vs Q E hr h => ?_)
  · obtain ⟨A, hA, r, _⟩ := h
    rw [r.len]; exact hl
  · obtain ⟨A0, hA, r, q⟩ := h
    obtain ⟨t, ht, ev⟩ := hb cdv A outer s H E hr
    refine ⟨t, ht, ?_⟩
    rw [start_eq (n := n) (by rw [r.len, hl]; exact hn)]
    have S0 := sr_start0 (n := n) hA r
    refine ev A0 _ e0 H _ S0 (fun ρ' σ' N' H' x m S' => ?_) (fun rk' d' ρ' σ' N' H' v x S' hv => ?_) (fun _ _ _ _ h => h.elim) (fun _ _ _ _ h => h.elim) (fun _ _ h => h.elim)
    · obtain ⟨e1, e2⟩ := x
      subst e1 e2
      exact q .non H' N' (fun a o e => S'.keep a o e (by simp)) S'.nH S'.nN Dv.non
    · obtain ⟨e1, e2⟩ := x
      subst e1 e2
      exact q v H' N' (fun a o e => S'.keep a o e (by simp)) S'.nH S'.nN hv
theorem fn_I {x qual : Str} {st : Stmt} {f : Addr} {fd : FuncData} {Nm ps : List Str} {k n : Nat} {rk : Rk} {as : List Ar} {es' : List PyData} (j : Nat) (Fn : Fun K x qual st f fd) (Sc : FnScope Nm ps (defScope st)) (hl : as.length = ps.length := by rfl) (hn : Nm.length = ps.length + n := by rfl) (ho : One as = true := by rfl)
    (hb : ∀ (cdv : Value) (A : Around) (outer : List Env) (s : Shared) (H : Hp) (E : XK), Room k (A.deeper (PyProof.Rows.envOfC qual (defScope st) s.heap.objs.size f cdv)) →
      ∃ t, PSs (cxOf CX0 P w K mg base Nm qual (defScope st) f cdv A outer s H E).nox (defBody st) t ∧ ∀ A0 B0 p, EvS ⟨A0, B0, H, [p]⟩ E (slI p as n) t (ODI rk d j p es')) :
    FnOk P w K mg base CX0 (k + 1) f fd ps (spI rk as d es') := by
  refine Fn.ok Sc (fun vs H Q E h => ?_) (fun cdv A outer s H vs Q E hr h => ?_)
  · obtain ⟨A, Bb, p, hA, hB, h1, h2, h3, r, _⟩ := h
    rw [r.len]; exact hl
  · obtain ⟨A0, B0, p, hA, hB, h1, h2, h3, r, q⟩ := h
    obtain ⟨t, ht, ev⟩ := hb cdv A outer s H E hr
    refine ⟨t, ht, ?_⟩
    rw [start_eq (n := n) (by rw [r.len, hl]; exact hn)]
    have S0 := sr_start (n := n) hA hB h1 h2 h3 r ho
    have fin : ∀ {ρ' : List Sl} {σ' : St} {N' H' : Hp}, ρ'[j]? = some (.io p .iob es') → SR ⟨A0, B0, H, [p]⟩ N' ρ' σ' H' → ∃ ws, H' p = some (.lst ws) ∧ DvL B0 ws es' := fun e S' => by
      obtain ⟨vs, e1, e2, _, r⟩ := S'.ok j _ e
      exact ⟨vs, e2, r⟩
    refine ev A0 B0 p _ e0 H _ S0 (fun ρ' σ' N' H' x m S' => ?_) (fun rk' d' ρ' σ' N' H' v x S' hv => ?_) (fun _ _ _ _ h => h.elim) (fun _ _ _ _ h => h.elim) (fun _ _ h => h.elim)
    · obtain ⟨e1, e2, e3⟩ := x
      subst e1 e2
      exact q .non H' N' (fun a o e z => S'.keep a o e (by simpa using z)) S'.nH S'.nN Dv.non (fin e3 S')
    · obtain ⟨e1, e2, e3⟩ := x
      subst e1 e2
      exact q v H' N' (fun a o e z => S'.keep a o e (by simpa using z)) S'.nH S'.nN hv (fin e3 S')
theorem FnOk.all {α : Type} {D : α → Prop} {enA : α → List PyData} {rk : Rk} {enR : α → PyData} {CX : CXT} {k : Nat} {f : Addr} {fd : FuncData} {ps : List Str} (h : ∀ a, D a → FnOk P w K mg base CX k f fd ps (spF rk (enA a) (enR a))) : FnOk P w K mg base CX k f fd ps (spFn D enA rk enR) :=
  ⟨fun vs H Q E ⟨a, hd, x⟩ => (h a hd).len vs H Q E x, fun A outer s H args us vs Q E hr e0 hb hv ⟨a, hd, x⟩ => (h a hd).run A outer s H args us vs Q E hr e0 hb hv x⟩
theorem FnOk.allI {α : Type} {D : α → Prop} {enA : α → List Ar} {rk : Rk} {enR : α → PyData} {es : α → List PyData} {CX : CXT} {k : Nat} {f : Addr} {fd : FuncData} {ps : List Str} (h : ∀ a, D a → FnOk P w K mg base CX k f fd ps (spI rk (enA a) (enR a) (es a))) : FnOk P w K mg base CX k f fd ps (spIn D enA rk enR es) :=
  ⟨fun vs H Q E ⟨a, hd, x⟩ => (h a hd).len vs H Q E x, fun A outer s H args us vs Q E hr e0 hb hv ⟨a, hd, x⟩ => (h a hd).run A outer s H args us vs Q E hr e0 hb hv x⟩
/-- a def of the text as a caller sees it -/
structure Cal (P : Program) (w : World) (K : PySem.W.Frag) (mg : Str → Option Value) (base : Heap) (x : Str) (k : Nat) (f : Addr) (fd : FuncData) (ps : List Str) (sp : Sp) : Prop where
  ok : FnOk P w K mg base CX0 k f fd ps sp
  gl : mg x = some (.ref f)
  kp : PySem.W.keepIn K (.ref f) = true
  bd : L2.Binds K fd ps []
/-- f(e, ..) -/
theorem k_call {X : Cx} {x : Str} {k j : Nat} {f : Addr} {fd : FuncData} {ps : List Str} {sp : Sp} {p pos : Pos} {e : Expr} {es : List Expr} {ta : TA} (C : Cal X.prog X.w X.K X.mg X.base x k f fd ps sp) (hr : Room j X.A) (ha : PA X (e :: es) ta) (hj : k ≤ j := by decide) (hg : Gl X x := by rfl)
    (hdb : (x == ("__debug__" : Str)) = false := by decide) (he : starEach (e :: es) X.env = (false, eval e X.env) :: starEach es X.env := by rfl) (hpl : (backTo pos (starEach es X.env)).any (·.1) = false := by rfl) :
    PE X (.Call (.Name x p) (e :: es) [] pos) (tCall sp [] E0 ta) := pe_call C.ok (hr.mono hj) hg C.gl C.kp C.bd .nil pass0 ha hdb he hpl
end
end TP

/-! the hand layer's rules with the written part named -/
namespace TP
open PySem PySem.Spec L2
section
variable {X : Cx} {a b e : Expr} {ta tb te : TE} {pos : Pos} {es : List Expr} {t : TA}
theorem k_in (K : PySem.W.Frag) (h : X.K = K := by rfl) : OpR X (compareOp .In) (rIn K false) := by subst h; exact op_in_seq
theorem k_nin (K : PySem.W.Frag) (h : X.K = K := by rfl) : OpR X (compareOp .NotIn) (rIn K true) := by subst h; exact op_notIn_seq
theorem k_ixL (K : PySem.W.Frag) (h : X.K = K := by rfl) : IxR X (rIxL K) := by subst h; exact ix_list
theorem k_ixT (K : PySem.W.Frag) (h : X.K = K := by rfl) : IxR X (rIxT K) := by subst h; exact ix_tup
theorem k_slL (K : PySem.W.Frag) (h : X.K = K := by rfl) : SlR X (rSlL K) := by subst h; exact sl_list
theorem k_slT (K : PySem.W.Frag) (h : X.K = K := by rfl) : SlR X (rSlT K) := by subst h; exact sl_tup
theorem k_len (K : PySem.W.Frag) (h : X.K = K := by rfl) : CallR X (.builtin "len") (rLenS K) := by subst h; exact call_lenQ
theorem k_list (K : PySem.W.Frag) (h : X.K = K := by rfl) : CallR X (.type "list") (rListOf K) := by subst h; exact call_listQ
theorem k_all (K : PySem.W.Frag) (h : X.K = K := by rfl) (hc : X.calm = true := by rfl) : CallR X (.builtin "all") (rAll K) := by subst h; exact cr_all hc
theorem k_any (K : PySem.W.Frag) (h : X.K = K := by rfl) (hc : X.calm = true := by rfl) : CallR X (.builtin "any") (rAny K) := by subst h; exact cr_any hc
theorem k_sum (K : PySem.W.Frag) (h : X.K = K := by rfl) (hc : X.calm = true := by rfl) : CallR X (.builtin "sum") (rSum K) := by subst h; exact cr_sum hc
theorem k_max (K : PySem.W.Frag) (h : X.K = K := by rfl) (hc : X.calm = true := by rfl) : CallR X (.builtin "max") (rMax K) := by subst h; exact cr_max hc
theorem k_min (K : PySem.W.Frag) (h : X.K = K := by rfl) (hc : X.calm = true := by rfl) : CallR X (.builtin "min") (rMin K) := by subst h; exact cr_min hc
theorem k_isi (K : PySem.W.Frag) (h : X.K = K := by rfl) : CallR X (.builtin "isinstance") (rIsi K) := by subst h; exact call_isi
theorem k_eqD (K : PySem.W.Frag) (hu : X.A.units + 64 < cLine) (h : X.K = K := by rfl) : OpR X (compareOp .Eq) (rEqD K) := by subst h; exact op_eqD hu
theorem k_neD (K : PySem.W.Frag) (hu : X.A.units + 64 < cLine) (h : X.K = K := by rfl) : OpR X (compareOp .NotEq) (rNeD K) := by subst h; exact op_neD hu
theorem k_join (K : PySem.W.Frag) (h : X.K = K := by rfl) : MtR X "str.join" (rJoin K) := by subst h; exact mt_joinQ
theorem k_get (K : PySem.W.Frag) (h : X.K = K := by rfl) : PGet X (rGetL K) := by subst h; exact get_list
theorem k_pilist (K : PySem.W.Frag) {tg l : Expr} {tl : TE} (hl : PE X l tl) (h : X.K = K := by rfl) : PI X tg l (iList K tl) := by subst h; exact pi_list hl
theorem k_pitup (K : PySem.W.Frag) {tg l : Expr} {tl : TE} (hl : PE X l tl) (h : X.K = K := by rfl) : PI X tg l (iTup K tl) := by subst h; exact pi_tup hl
theorem k_enum (K : PySem.W.Frag) {e : Expr} {ta : TA} {p pos tpos : Pos} {elts : List Expr} {kk : Nat} (hm : X.mg "enumerate" = none) (ha : PA X [e] ta) (hg : Gl X "enumerate" := by rfl) (hs : starEach [e] X.env = [(false, eval e X.env)] := by rfl) (h : X.K = K := by rfl) :
    PI X (.Tuple elts kk tpos) (.Call (.Name "enumerate" p) [e] [] pos) (iEnum K ta) := by subst h; exact pi_enum hg hm ha hs
theorem k_zip (K : PySem.W.Frag) {e e2 : Expr} {ta : TA} {p pos tpos : Pos} {elts : List Expr} {kk : Nat} (hm : X.mg "zip" = none) (ha : PA X [e, e2] ta) (hg : Gl X "zip" := by rfl) (h1 : starEach [e, e2] X.env = (false, eval e X.env) :: starEach [e2] X.env := by rfl) (h2 : ((backTo pos (starEach [e2] X.env)).any (·.1)) = false := by rfl) (h : X.K = K := by rfl) :
    PI X (.Tuple elts kk tpos) (.Call (.Name "zip" p) [e, e2] [] pos) (iZip K ta) := by subst h; exact pi_zip hg hm ha h1 h2
theorem k_tup (K : PySem.W.Frag) {es : List Expr} {k : Nat} {t : TGs} {n : Nat} (h : PGs X es t) (hc : X.calm = true := by rfl) (hn : (assignEach es X.env).length = n := by rfl) (hst : (assignEach es X.env).findIdx? (·.1) = none := by rfl) (hk : X.K = K := by rfl) : PG X (.Tuple es k pos) (gTup K n t) := by
  subst hk; exact pg_tup hc h hn hst
theorem k_bm (K : PySem.W.Frag) {o e : Expr} {to : TE} {t : TA} {name : Str} {apos cpos : Pos} {T id : String} {r : V → List V → Hp → VK → Prop} (pa : PlainAttrs T) (slot : Slot T name id) (hty : typeOf (.builtin id) = pure (.type "method_descriptor")) (hm : MtR X id r) (ho : PE X o to) (ha : PA X (e :: es) t)
    (hbase : attributeBase o name X.env (eval o X.env) = eval o X.env := by rfl)
    (hfew : ((backTo cpos (starEach (e :: es) X.env)).all (fun x => !x.1) && (backToKw cpos (keywordEach [] X.env)).all (fun x => x.1.isSome)
      && decide ((e :: es).length + ([] : List Keyword).length + (if ([] : List Keyword).isEmpty then 0 else 1) < 30)) = true := by rfl)
    (hline : (apos.endLine == cpos.line) = true := by rfl) (hs : starEach (e :: es) X.env = (false, eval e X.env) :: starEach es X.env := by rfl) (hplain : (backTo cpos (starEach es X.env)).any (·.1) = false := by rfl) (h : X.K = K := by rfl) :
    PE X (.Call (.Attribute o name apos) (e :: es) [] cpos) (tBM K T r to t) := by subst h; exact pe_bm pa slot hty hm ho ha hbase hfew hline hs hplain
theorem k_bm0 (K : PySem.W.Frag) {o : Expr} {to : TE} {name : Str} {apos cpos : Pos} {T id : String} {r : V → List V → Hp → VK → Prop} (pa : PlainAttrs T) (slot : Slot T name id) (hty : typeOf (.builtin id) = pure (.type "method_descriptor")) (hm : MtR X id r) (ho : PE X o to)
    (hbase : attributeBase o name X.env (eval o X.env) = eval o X.env := by rfl) (hline : (apos.endLine == cpos.line) = true := by rfl) (h : X.K = K := by rfl) : PE X (.Call (.Attribute o name apos) [] [] cpos) (tBM0 K T r to) := by subst h; exact pe_bm0 pa slot hty hm ho hbase hline
theorem k_append (K : PySem.W.Frag) {o e : Expr} {to : TE} {t : TA} {apos cpos : Pos} (ho : PE X o to) (ha : PA X [e] t)
    (hbase : attributeBase o "append" X.env (eval o X.env) = eval o X.env := by rfl)
    (hfew : ((backTo cpos (starEach [e] X.env)).all (fun x => !x.1) && (backToKw cpos (keywordEach [] X.env)).all (fun x => x.1.isSome)
      && decide (([e] : List Expr).length + ([] : List Keyword).length + (if ([] : List Keyword).isEmpty then 0 else 1) < 30)) = true := by rfl)
    (hline : (apos.endLine == cpos.line) = true := by rfl) (hs : starEach [e] X.env = (false, eval e X.env) :: starEach [] X.env := by rfl) (hplain : (backTo cpos (starEach [] X.env)).any (·.1) = false := by rfl) (h : X.K = K := by rfl) :
    PE X (.Call (.Attribute o "append" apos) [e] [] cpos) (tBM K "list" rAppend to t) := k_bm K PySem.F.plainAttrs_list PySem.F.slot_list_append PySem.F.type_list_append mt_append ho ha hbase hfew hline hs hplain h
theorem k_extend (K : PySem.W.Frag) {o e : Expr} {to : TE} {t : TA} {apos cpos : Pos} (ho : PE X o to) (ha : PA X [e] t)
    (hbase : attributeBase o "extend" X.env (eval o X.env) = eval o X.env := by rfl)
    (hfew : ((backTo cpos (starEach [e] X.env)).all (fun x => !x.1) && (backToKw cpos (keywordEach [] X.env)).all (fun x => x.1.isSome)
      && decide (([e] : List Expr).length + ([] : List Keyword).length + (if ([] : List Keyword).isEmpty then 0 else 1) < 30)) = true := by rfl)
    (hline : (apos.endLine == cpos.line) = true := by rfl) (hs : starEach [e] X.env = (false, eval e X.env) :: starEach [] X.env := by rfl) (hplain : (backTo cpos (starEach [] X.env)).any (·.1) = false := by rfl) (h : X.K = K := by rfl) :
    PE X (.Call (.Attribute o "extend" apos) [e] [] cpos) (tBM K "list" rExtend to t) := k_bm K PySem.F.plainAttrs_list PySem.F.slot_list_extend PySem.F.type_list_extend mt_extend ho ha hbase hfew hline hs hplain h
theorem k_popAt (K : PySem.W.Frag) {o e : Expr} {to : TE} {t : TA} {apos cpos : Pos} (ho : PE X o to) (ha : PA X [e] t)
    (hbase : attributeBase o "pop" X.env (eval o X.env) = eval o X.env := by rfl)
    (hfew : ((backTo cpos (starEach [e] X.env)).all (fun x => !x.1) && (backToKw cpos (keywordEach [] X.env)).all (fun x => x.1.isSome)
      && decide (([e] : List Expr).length + ([] : List Keyword).length + (if ([] : List Keyword).isEmpty then 0 else 1) < 30)) = true := by rfl)
    (hline : (apos.endLine == cpos.line) = true := by rfl) (hs : starEach [e] X.env = (false, eval e X.env) :: starEach [] X.env := by rfl) (hplain : (backTo cpos (starEach [] X.env)).any (·.1) = false := by rfl) (h : X.K = K := by rfl) :
    PE X (.Call (.Attribute o "pop" apos) [e] [] cpos) (tBM K "list" rPopAt to t) := k_bm K PySem.F.plainAttrs_list PySem.F.slot_list_pop PySem.F.type_list_pop mt_popAt ho ha hbase hfew hline hs hplain h
theorem k_count {o : Expr} {to : TE} {apos cpos : Pos} (ho : PE X o to) (he : PE X e te) (hs : starEach [e] X.env = [(false, eval e X.env)] := by rfl) (hbase : attributeBase o "count" X.env (eval o X.env) = eval o X.env := by rfl) (hline : (apos.endLine == cpos.line) = true := by rfl) :
    PE X (.Call (.Attribute o "count" apos) [e] [] cpos) (tM1 (fun x xs H Q => ∃ a b, x = .str a ∧ xs = [.str b] ∧ Q (.int (Txt.count a b)) H) to te) := pe_m1 PySem.F.slot_str_count PySem.F.type_str_count mt_count ho he hs hbase hline
theorem k_joinS (K : PySem.W.Frag) {o : Expr} {to : TE} {apos cpos : Pos} (ho : PE X o to) (he : PE X e te) (hs : starEach [e] X.env = [(false, eval e X.env)] := by rfl) (hbase : attributeBase o "join" X.env (eval o X.env) = eval o X.env := by rfl) (hline : (apos.endLine == cpos.line) = true := by rfl) (h : X.K = K := by rfl) :
    PE X (.Call (.Attribute o "join" apos) [e] [] cpos) (tM1 (rJoin K) to te) := pe_m1 PySem.F.slot_str_join PySem.F.type_str_join (k_join K h) ho he hs hbase hline
theorem k_upper {o : Expr} {to : TE} {apos cpos : Pos} (ho : PE X o to) (hbase : attributeBase o "upper" X.env (eval o X.env) = eval o X.env := by rfl) (hline : (apos.endLine == cpos.line) = true := by rfl) :
    PE X (.Call (.Attribute o "upper" apos) [] [] cpos) (tM0 rUpper to) := pe_m0 PySem.F.slot_str_upper PySem.F.type_str_upper mt_upperQ ho hbase hline
end
end TP

/-! data with Lean types -/
namespace TP
open PySem PySem.Spec L2

@[reducible] def eI (i : Int) : PyData := .int i
@[reducible] def eB (b : Bool) : PyData := .bool b
@[reducible] def eS (t : Tx) : PyData := .str (S t)
@[reducible] def eN (_ : Unit) : PyData := .none
@[reducible] def eD (d : PyData) : PyData := d
@[reducible] def eL {α : Type} (e : α → PyData) (xs : List α) : PyData := .list (xs.map e)
@[reducible] def eU {α : Type} (e : α → PyData) (xs : List α) : PyData := .tuple (xs.map e)
@[reducible] def eP {α β : Type} (e : α → PyData) (f : β → PyData) (p : α × β) : PyData := .tuple [e p.1, f p.2]
@[reducible] def eP3 {α β γ : Type} (e : α → PyData) (f : β → PyData) (g : γ → PyData) (p : α × β × γ) : PyData := .tuple [e p.1, f p.2.1, g p.2.2]
@[reducible] def eP4 {α β γ δ : Type} (e : α → PyData) (f : β → PyData) (g : γ → PyData) (h : δ → PyData) (p : α × β × γ × δ) : PyData := .tuple [e p.1, f p.2.1, g p.2.2.1, h p.2.2.2]
def eO {α : Type} (e : α → PyData) : Option α → PyData
  | none => .none
  | some x => e x
instance : Inhabited PyData := ⟨.none⟩

/-! ### equality -/
mutual
theorem Dp.plain {K : PySem.W.Frag} {H : Hp} : ∀ {v : V} {d : PyData}, Dp K H v d → d.plain = true
  | _, _, .non => rfl
  | _, _, .bl _ => rfl
  | _, _, .int _ => rfl
  | _, _, .str _ => rfl
  | _, _, .lst _ r => by simp only [PyData.plain]; exact DpAll.plain r
  | _, _, .tup _ r => by simp only [PyData.plain]; exact DpAll.plain r
theorem DpAll.plain {K : PySem.W.Frag} {H : Hp} : ∀ {vs : List V} {ds : List PyData}, DpAll K H vs ds → PyData.plainAll ds = true
  | _, _, .nil => rfl
  | _, _, .cons r t => by simp only [PyData.plainAll, Dp.plain r, DpAll.plain t, Bool.and_self]
end
def rEqP (K : PySem.W.Frag) : R2 := fun x y H Q => ∃ d e, Dp K H x d ∧ Dp K H y e ∧ min d.depth e.depth ≤ 64 ∧ Q (.bl (PyData.eqv d e)) H
def rNeP (K : PySem.W.Frag) : R2 := fun x y H Q => ∃ d e, Dp K H x d ∧ Dp K H y e ∧ min d.depth e.depth ≤ 64 ∧ Q (.bl (!PyData.eqv d e)) H
theorem k_eqP {X : Cx} (K : PySem.W.Frag) {j : Nat} (hr : Room j X.A) (h : X.K = K := by rfl) : OpR X (compareOp .Eq) (rEqP K) := by
  subst h
  intro pins s σ H x y v u Q I rx ry h
  obtain ⟨d, e, hd, he, hl, q⟩ := h
  obtain ⟨as, r1⟩ := Dp.reads I d x v hd rx
  obtain ⟨bs, r2⟩ := Dp.reads I e y u he ry
  have hu := hr.units
  exact PySem.SeqAt.eq_plain r1 r2 (Dp.plain hd) (Dp.plain he) (by omega) ⟨.bl _, H, I, rfl, q⟩
theorem k_neP {X : Cx} (K : PySem.W.Frag) {j : Nat} (hr : Room j X.A) (h : X.K = K := by rfl) : OpR X (compareOp .NotEq) (rNeP K) := by
  subst h
  intro pins s σ H x y v u Q I rx ry h
  obtain ⟨d, e, hd, he, hl, q⟩ := h
  obtain ⟨as, r1⟩ := Dp.reads I d x v hd rx
  obtain ⟨bs, r2⟩ := Dp.reads I e y u he ry
  have hu := hr.units
  exact PySem.SeqAt.ne_plain r1 r2 (Dp.plain hd) (Dp.plain he) (by omega) ⟨.bl _, H, I, rfl, q⟩
/-- == of the data is = of the values -/
structure EqOk {α : Type} [DecidableEq α] (e : α → PyData) (n : Nat) : Prop where
  eqv : ∀ a b, PyData.eqv (e a) (e b) = decide (a = b)
  dep : ∀ a, (e a).depth ≤ n
theorem bd {α : Type} [BEq α] [LawfulBEq α] [DecidableEq α] (a b : α) : (a == b) = decide (a = b) := by
  rw [Bool.eq_iff_iff, beq_iff_eq, decide_eq_true_eq]
theorem eqI : EqOk eI 0 := ⟨fun a b => by simp only [PyData.eqv]; exact bd a b, fun _ => Nat.le_refl _⟩
theorem eqB : EqOk eB 0 := ⟨fun a b => by simp only [PyData.eqv]; exact bd a b, fun _ => Nat.le_refl _⟩
theorem eqS : EqOk eS 0 := ⟨fun a b => by simp only [PyData.eqv]; rw [bd, dec_S], fun _ => Nat.le_refl _⟩
theorem eqN : EqOk eN 0 := ⟨fun a b => by simp only [PyData.eqv]; rfl, fun _ => Nat.le_refl _⟩
theorem eqAll_map {α : Type} [DecidableEq α] {e : α → PyData} {n : Nat} (h : EqOk e n) : ∀ xs ys : List α, PyData.eqvAll (xs.map e) (ys.map e) = decide (xs = ys)
  | [], [] => by simp only [List.map_nil, PyData.eqvAll, decide_true]
  | [], _ :: _ => by simp [PyData.eqvAll]
  | _ :: _, [] => by simp [PyData.eqvAll]
  | x :: xs, y :: ys => by
    rw [List.map_cons, List.map_cons, PyData.eqvAll, h.eqv x y, eqAll_map h xs ys, ← Bool.decide_and]
    exact decide_eq_decide.mpr (by rw [List.cons.injEq])
theorem depAll_map {α : Type} [DecidableEq α] {e : α → PyData} {n : Nat} (h : EqOk e n) : ∀ xs : List α, PyData.depthAll (xs.map e) ≤ n
  | [] => Nat.zero_le _
  | x :: xs => by
    rw [List.map_cons, PyData.depthAll]
    exact Nat.max_le.mpr ⟨h.dep x, depAll_map h xs⟩
theorem eqL {α : Type} [DecidableEq α] {e : α → PyData} {n : Nat} (h : EqOk e n) : EqOk (eL e) (n + 1) :=
  ⟨fun a b => by simp only [PyData.eqv]; exact eqAll_map h a b, fun a => by simp only [PyData.depth]; exact Nat.succ_le_succ (depAll_map h a)⟩
theorem eqU {α : Type} [DecidableEq α] {e : α → PyData} {n : Nat} (h : EqOk e n) : EqOk (eU e) (n + 1) :=
  ⟨fun a b => by simp only [PyData.eqv]; exact eqAll_map h a b, fun a => by simp only [PyData.depth]; exact Nat.succ_le_succ (depAll_map h a)⟩
theorem eqP {α β : Type} [DecidableEq α] [DecidableEq β] {e : α → PyData} {f : β → PyData} {n m : Nat} (h : EqOk e n) (h' : EqOk f m) : EqOk (eP e f) (max n m + 1) := by
  refine ⟨fun p q => ?_, fun p => ?_⟩
  · simp only [PyData.eqv, PyData.eqvAll]
    rw [h.eqv, h'.eqv, Bool.and_true, ← Bool.decide_and]
    exact decide_eq_decide.mpr ⟨fun e => Prod.ext e.1 e.2, fun e => by rw [e]; exact ⟨rfl, rfl⟩⟩
  · simp only [PyData.depth, PyData.depthAll]
    have := h.dep p.1
    have := h'.dep p.2
    omega
theorem eqP3 {α β γ : Type} [DecidableEq α] [DecidableEq β] [DecidableEq γ] {e : α → PyData} {f : β → PyData} {g : γ → PyData} {n m l : Nat} (h : EqOk e n) (h' : EqOk f m) (h'' : EqOk g l) : EqOk (eP3 e f g) (max n (max m l) + 1) := by
  refine ⟨fun p q => ?_, fun p => ?_⟩
  · simp only [PyData.eqv, PyData.eqvAll]
    rw [h.eqv, h'.eqv, h''.eqv, Bool.and_true, ← Bool.decide_and, ← Bool.decide_and]
    exact decide_eq_decide.mpr ⟨fun e => Prod.ext e.1 (Prod.ext e.2.1 e.2.2), fun e => by rw [e]; exact ⟨rfl, rfl, rfl⟩⟩
  · simp only [PyData.depth, PyData.depthAll]
    have := h.dep p.1
    have := h'.dep p.2.1
    have := h''.dep p.2.2
    omega
theorem eqP4 {α β γ δ : Type} [DecidableEq α] [DecidableEq β] [DecidableEq γ] [DecidableEq δ] {e : α → PyData} {f : β → PyData} {g : γ → PyData} {g' : δ → PyData} {n m l o : Nat} (h : EqOk e n) (h' : EqOk f m) (h'' : EqOk g l) (h3 : EqOk g' o) : EqOk (eP4 e f g g') (max n (max m (max l o)) + 1) := by
  refine ⟨fun p q => ?_, fun p => ?_⟩
  · simp only [PyData.eqv, PyData.eqvAll]
    rw [h.eqv, h'.eqv, h''.eqv, h3.eqv, Bool.and_true, ← Bool.decide_and, ← Bool.decide_and, ← Bool.decide_and]
    exact decide_eq_decide.mpr ⟨fun e => Prod.ext e.1 (Prod.ext e.2.1 (Prod.ext e.2.2.1 e.2.2.2)), fun e => by rw [e]; exact ⟨rfl, rfl, rfl, rfl⟩⟩
  · simp only [PyData.depth, PyData.depthAll]
    have := h.dep p.1
    have := h'.dep p.2.1
    have := h''.dep p.2.2.1
    have := h3.dep p.2.2.2
    omega
/-- .. of what may be None, the value never being None -/
theorem eqO {α : Type} [DecidableEq α] {e : α → PyData} {n : Nat} (h : EqOk e n) (hn : ∀ a, isN (e a) = false) : EqOk (eO e) n := by
  refine ⟨fun a b => ?_, fun a => ?_⟩
  · cases a with
    | none =>
      cases b with
      | none => rfl
      | some y =>
        have := hn y
        show PyData.eqv .none (e y) = _
        cases q : e y <;> first | (rw [q] at this; cases this; done) | simp [PyData.eqv]
    | some x =>
      cases b with
      | none =>
        have := hn x
        show PyData.eqv (e x) .none = _
        cases q : e x <;> first | (rw [q] at this; cases this; done) | simp [PyData.eqv]
      | some y =>
        show PyData.eqv (e x) (e y) = _
        rw [h.eqv]
        exact decide_eq_decide.mpr (by rw [Option.some.injEq])
  · cases a with
    | none => exact Nat.zero_le _
    | some x => exact h.dep x
theorem isN_eO {α : Type} {e : α → PyData} (hn : ∀ a, isN (e a) = false) (o : Option α) : isN (eO e o) = o.isNone := by
  cases o with
  | none => rfl
  | some x => exact hn x
theorem eO_some {α : Type} [Inhabited α] {e : α → PyData} {o : Option α} (h : o.isNone = false) : eO e o = e (o.getD default) := by
  cases o with
  | none => cases h
  | some x => rfl

/-! ### an item -/
/-- the item at i, from behind below 0 -/
def gx {α : Type} [Inhabited α] (xs : List α) (i : Int) : α := (atI xs i).getD default
def Inb {α : Type} (xs : List α) (i : Int) : Prop := -(xs.length : Int) ≤ i ∧ i < xs.length
theorem atI_map {α β : Type} (f : α → β) (xs : List α) (i : Int) : atI (xs.map f) i = (atI xs i).map f := by
  unfold L2.atI
  rw [List.length_map]
  cases ixN xs.length i with
  | none => rfl
  | some j => exact List.getElem?_map ..
theorem ixN_some {n : Nat} {i : Int} (h : -(n : Int) ≤ i ∧ i < n) : ∃ j, ixN n i = some j ∧ j < n ∧ (j : Int) = if 0 ≤ i then i else i + n := by
  unfold ixN
  by_cases h0 : 0 ≤ i
  · rw [if_pos h0, if_pos h.2]
    exact ⟨_, rfl, by omega, by rw [if_pos h0]; omega⟩
  · rw [if_neg h0, if_pos h.1]
    exact ⟨_, rfl, by omega, by rw [if_neg h0]; omega⟩
theorem atI_in {α : Type} [Inhabited α] {xs : List α} {i : Int} (h : Inb xs i) : atI xs i = some (gx xs i) := by
  obtain ⟨j, e, hj, _⟩ := ixN_some h
  unfold gx L2.atI
  rw [e]
  show xs[j]? = some ((xs[j]?).getD default)
  rw [List.getElem?_eq_getElem hj]
  rfl
theorem gx_nat {α : Type} [Inhabited α] (xs : List α) (k : Nat) : gx xs (k : Int) = xs.getD k default := by
  unfold gx L2.atI ixN
  rw [if_pos (Int.natCast_nonneg k)]
  by_cases h : k < xs.length
  · rw [if_pos (by omega)]
    simp
  · rw [if_neg (by omega)]
    simp [List.getElem?_eq_none (by omega : xs.length ≤ k)]
theorem gx_nonneg {α : Type} [Inhabited α] (xs : List α) {i : Int} (h : 0 ≤ i) : gx xs i = xs.getD i.toNat default := by
  obtain ⟨k, rfl⟩ : ∃ k : Nat, i = k := ⟨i.toNat, by omega⟩
  rw [gx_nat]; rfl
theorem gx_mem {α : Type} [Inhabited α] {xs : List α} {i : Int} (h : Inb xs i) : gx xs i ∈ xs := by
  have e := atI_in h
  unfold L2.atI at e
  cases q : ixN xs.length i with
  | none => rw [q] at e; cases e
  | some j => rw [q] at e; exact List.mem_of_getElem? e
/-- the list with another item at i -/
def sx {α : Type} (xs : List α) (i : Int) (x : α) : List α := xs.set ((ixN xs.length i).getD xs.length) x
theorem sx_len {α : Type} (xs : List α) (i : Int) (x : α) : (sx xs i x).length = xs.length := List.length_set ..
theorem sx_nat {α : Type} (xs : List α) (k : Nat) (x : α) : sx xs (k : Int) x = xs.set k x := by
  unfold sx ixN
  rw [if_pos (Int.natCast_nonneg k)]
  by_cases h : k < xs.length
  · rw [if_pos (by omega)]; rfl
  · rw [if_neg (by omega)]
    show xs.set xs.length x = _
    rw [List.set_eq_of_length_le (by omega), List.set_eq_of_length_le (by omega)]
section
variable {F : Fm} {ρ ρ' ρ1 ρ2 ρ3 ρ4 : List Sl} {ta tb tc te ti : TE} {k ka kb kc : Ek} {d d1 d2 : PyData} {b b' b1 b2 : B} {K : PySem.W.Frag} {t u : TS} {O : Out} {Y : XK} {α β γ R : Type} {e : α → PyData} {xs ys : List α}

theorem e_eqE [DecidableEq α] {n : Nat} {x y : α} (ok : EqOk e n) (ha : EvE F ρ ta ka (e x) ρ1) (hb : EvE F ρ1 tb kb (e y) ρ2) (hk : Keeps ka ρ1 ρ2) (hn : n ≤ 64 := by decide) : EvE F ρ (tOp (rEqP K) ta tb) (.k .sc) (.bool (decide (x = y))) ρ2 :=
  e_op ha hb hk fun σ N H v w Q S p q r => ⟨e x, e y, (p.dvH S).dp (Same.refl H), (q.dvH S).dp (Same.refl H), by have := ok.dep x; omega, by rw [ok.eqv]; exact r _ N H (Step.refl S) (Dv.bl _)⟩
theorem e_neE [DecidableEq α] {n : Nat} {x y : α} (ok : EqOk e n) (ha : EvE F ρ ta ka (e x) ρ1) (hb : EvE F ρ1 tb kb (e y) ρ2) (hk : Keeps ka ρ1 ρ2) (hn : n ≤ 64 := by decide) : EvE F ρ (tOp (rNeP K) ta tb) (.k .sc) (.bool (!decide (x = y))) ρ2 :=
  e_op ha hb hk fun σ N H v w Q S p q r => ⟨e x, e y, (p.dvH S).dp (Same.refl H), (q.dvH S).dp (Same.refl H), by have := ok.dep x; omega, by rw [ok.eqv]; exact r _ N H (Step.refl S) (Dv.bl _)⟩
/-- == of any data, one of them not deep -/
theorem e_eqAny {n : Nat} (ha : EvE F ρ ta ka d1 ρ1) (hb : EvE F ρ1 tb kb d2 ρ2) (hk : Keeps ka ρ1 ρ2) (hn : d1.depth ≤ 64 ∨ d2.depth ≤ 64) : EvE F ρ (tOp (rEqP K) ta tb) (.k .sc) (.bool (PyData.eqv d1 d2)) ρ2 :=
  e_op ha hb hk fun σ N H v w Q S p q r => ⟨d1, d2, (p.dvH S).dp (Same.refl H), (q.dvH S).dp (Same.refl H), by omega, r _ N H (Step.refl S) (Dv.bl _)⟩
theorem e_neAny {n : Nat} (ha : EvE F ρ ta ka d1 ρ1) (hb : EvE F ρ1 tb kb d2 ρ2) (hk : Keeps ka ρ1 ρ2) (hn : d1.depth ≤ 64 ∨ d2.depth ≤ 64) : EvE F ρ (tOp (rNeP K) ta tb) (.k .sc) (.bool (!PyData.eqv d1 d2)) ρ2 :=
  e_op ha hb hk fun σ N H v w Q S p q r => ⟨d1, d2, (p.dvH S).dp (Same.refl H), (q.dvH S).dp (Same.refl H), by omega, r _ N H (Step.refl S) (Dv.bl _)⟩
theorem e_isO {o : Option α} (hn : ∀ a, isN (e a) = false) (ha : EvE F ρ ta ka (eO e o) ρ1) (hy : EvE F ρ1 tb kb .none ρ2) (hk : Keeps ka ρ1 ρ2) : EvE F ρ (tOp (fun x y H Q => y = .non ∧ Q (.bl (decide (x = .non))) H) ta tb) (.k .sc) (.bool o.isNone) ρ2 := by
  rw [← isN_eO hn o]; exact e_isN ha hy hk
theorem e_notO {o : Option α} (hn : ∀ a, isN (e a) = false) (ha : EvE F ρ ta ka (eO e o) ρ1) (hy : EvE F ρ1 tb kb .none ρ2) (hk : Keeps ka ρ1 ρ2) : EvE F ρ (tOp (fun x y H Q => y = .non ∧ Q (.bl (!decide (x = .non))) H) ta tb) (.k .sc) (.bool (!o.isNone)) ρ2 := by
  rw [← isN_eO hn o]; exact e_notN ha hy hk
/-- the value where it is not None -/
theorem e_unO [Inhabited α] {o : Option α} (h : o.isNone = false) (ha : EvE F ρ ta ka (eO e o) ρ1) : EvE F ρ ta ka (e (o.getD default)) ρ1 := by
  rw [eO_some h] at ha; exact ha
/-- .. wrapped -/
theorem e_someO {x : α} (ha : EvE F ρ ta ka (e x) ρ1) : EvE F ρ ta ka (eO e (some x)) ρ1 := ha
theorem e_noneO (ha : EvE F ρ ta ka .none ρ1) : EvE F ρ ta ka (eO e none) ρ1 := ha

theorem e_ixE [Inhabited α] {i : Int} (ha : EvE F ρ ta ka (eL e xs) ρ1) (hb : EvE F ρ1 tb kb (.int i) ρ2) (hk : Keeps ka ρ1 ρ2) (h : Inb xs i) : EvE F ρ (tOp (rIxL K) ta tb) (.k ka.ib) (e (gx xs i)) ρ2 :=
  e_ixL ha hb hk (by rw [atI_map, atI_in h]; rfl)
/-- .. a scalar -/
theorem e_ixZ [Inhabited α] {i : Int} (s : ∀ x, IsSc (e x)) (ha : EvE F ρ ta ka (eL e xs) ρ1) (hb : EvE F ρ1 tb kb (.int i) ρ2) (hk : Keeps ka ρ1 ρ2) (h : Inb xs i) : EvE F ρ (tOp (rIxL K) ta tb) (.k .sc) (e (gx xs i)) ρ2 :=
  e_sc (e_ixE ha hb hk h) (s _)
theorem e_ixX {i : Int} {t : Tx} (ha : EvE F ρ ta ka (.str (S t)) ρ1) (hb : EvE F ρ1 tb kb (.int i) ρ2) (hz : t.length ≤ sizeLine) (h : Inb t i) : EvE F ρ (tOp rIxS ta tb) (.k .sc) (.str (S [gx t i])) ρ2 :=
  e_ixS ha hb hz (atI_in h)
theorem o_slE {tl th : TO} {lo hi : Option Int} (ha : EvE F ρ ta ka (eL e xs) ρ1) (hl : EvP F ρ1 tl lo ρ2) (hh : EvP F ρ2 th hi ρ3) (hk : Keeps ka ρ1 ρ3) : EvO F ρ (tSl (rSlL K) ta tl th) ka.ib ((cutL xs lo hi).map e) ρ3 := by
  rw [← cutL_map]; exact o_slL ha hl hh hk
theorem o_catE (ha : EvE F ρ ta ka (eL e xs) ρ1) (hb : EvE F ρ1 tb kb (eL e ys) ρ2) (hk : Keeps ka ρ1 ρ2) (l1 : B.le ka.ib b = true) (l2 : B.le kb.ib b = true) (hz : xs.length + ys.length ≤ sizeLine) : EvO F ρ (tOp rCat ta tb) b ((xs ++ ys).map e) ρ2 := by
  rw [List.map_append]; exact o_cat ha hb hk l1 l2 (by rw [List.length_map, List.length_map]; exact hz)
theorem o_repE {n : Int} (ha : EvE F ρ ta ka (eL e xs) ρ1) (hb : EvE F ρ1 tb kb (.int n) ρ2) (hk : Keeps ka ρ1 ρ2) (h1 : -1000000000 ≤ n) (h2 : n ≤ 1000000000) (hz : xs.length * n.toNat ≤ sizeLine) : EvO F ρ (tOp rRep ta tb) ka.ib ((repL xs n).map e) ρ2 := by
  rw [← repL_map]; exact o_rep ha hb hk (by omega) (by omega) (by rw [List.length_map]; exact hz)
theorem e_lenE (ha : EvE F ρ ta ka (eL e xs) ρ1) : EvE F ρ (tCB (rLenS K) (tCons ta tNil)) (.k .sc) (.int (xs.length : Nat)) ρ1 := by
  have h := e_lenL (K := K) ha
  rw [List.length_map] at h
  exact h
theorem o_listE (ha : EvE F ρ ta ka (eL e xs) ρ1) : EvO F ρ (tCB (rListOf K) (tCons ta tNil)) ka.ib (xs.map e) ρ1 := o_listL ha
theorem t_trE (ha : EvE F ρ te k (eL e xs) ρ1) : EvT F ρ (fun σ H Q => te σ H fun x H' => ∃ k, TruV K x H' k ∧ Q k H') (!xs.isEmpty) ρ1 := by
  have h := t_trL (K := K) ha
  cases xs <;> exact h
theorem e_inE {x : Tx} {xs : List Tx} (ha : EvE F ρ ta ka (.str (S x)) ρ1) (hb : EvE F ρ1 tb kb d ρ2) (hd : IsSeq d (xs.map eS)) : EvE F ρ (tOp (rIn K false) ta tb) (.k .sc) (.bool (decide (x ∈ xs))) ρ2 := e_inX (neg := false) ha hb hd
theorem e_ninE {x : Tx} {xs : List Tx} (ha : EvE F ρ ta ka (.str (S x)) ρ1) (hb : EvE F ρ1 tb kb d ρ2) (hd : IsSeq d (xs.map eS)) : EvE F ρ (tOp (rIn K true) ta tb) (.k .sc) (.bool (!decide (x ∈ xs))) ρ2 := e_inX (neg := true) ha hb hd
theorem e_inN {x : Int} {xs : List Int} (ha : EvE F ρ ta ka (.int x) ρ1) (hb : EvE F ρ1 tb kb d ρ2) (hd : IsSeq d (xs.map eI)) : EvE F ρ (tOp (rIn K false) ta tb) (.k .sc) (.bool (decide (x ∈ xs))) ρ2 := e_inI (neg := false) ha hb hd
theorem e_ninN {x : Int} {xs : List Int} (ha : EvE F ρ ta ka (.int x) ρ1) (hb : EvE F ρ1 tb kb d ρ2) (hd : IsSeq d (xs.map eI)) : EvE F ρ (tOp (rIn K true) ta tb) (.k .sc) (.bool (!decide (x ∈ xs))) ρ2 := e_inI (neg := true) ha hb hd
/-- an own list grows, named -/
theorem s_appE {O : γ → Out} {i : Nat} {x : α} {Fx : List α → γ} (hx : ρ[i]? = some (.own b (xs.map e))) (h : EvE F ρ te k (e x) ρ1) (hx1 : ρ1[i]? = some (.own b (xs.map e))) (f : Fits k (e x) b) (hz : xs.length < sizeLine)
    (hu : ∀ y, y = xs ++ [x] → EvS F Y (ρ1.set i (.own b (y.map e))) u (O (Fx y))) : EvS F Y ρ (tSeq (tDrop (tBM K "list" rAppend (tVar i) (tCons te tNil))) u) (O (bnd (xs ++ [x]) Fx)) :=
  s_append hx h hx1 f (by rw [List.length_map]; exact hz) (by
    have := hu _ rfl
    rw [List.map_append] at this
    exact this)
theorem s_extE {O : γ → Out} {i : Nat} {Fx : List α → γ} (hx : ρ[i]? = some (.own b (xs.map e))) (h : EvE F ρ te k (eL e ys) ρ1) (hx1 : ρ1[i]? = some (.own b (xs.map e))) (f : B.le k.ib b = true) (hz : xs.length + ys.length ≤ sizeLine)
    (hu : ∀ y, y = xs ++ ys → EvS F Y (ρ1.set i (.own b (y.map e))) u (O (Fx y))) : EvS F Y ρ (tSeq (tDrop (tBM K "list" rExtend (tVar i) (tCons te tNil))) u) (O (bnd (xs ++ ys) Fx)) :=
  s_extend hx h hx1 f (by rw [List.length_map, List.length_map]; exact hz) (by
    have := hu _ rfl
    rw [List.map_append] at this
    exact this)
theorem s_setE {O : γ → Out} {i : Nat} {j : Int} {x : α} {Fx : List α → γ} (h : EvE F ρ te k (e x) ρ1) (hx : ρ1[i]? = some (.own b (xs.map e))) (hi : EvE F ρ1 ti kb (.int j) ρ2) (hk : Keeps k ρ1 ρ2) (hx2 : ρ2[i]? = some (.own b (xs.map e))) (hj : Inb xs j) (f : Fits k (e x) b)
    (hu : ∀ y, y = sx xs j x → EvS F Y (ρ2.set i (.own b (y.map e))) u (O (Fx y))) : EvS F Y ρ (tSeq (tAsg te (gSub (tVar i) ti rSetL)) u) (O (bnd (sx xs j x) Fx)) := by
  obtain ⟨n, en, _, _⟩ := ixN_some hj
  refine s_setI h hx rfl hi hk hx2 (j := n) (by rw [List.length_map]; exact en) f ?_
  have := hu _ rfl
  have em : (sx xs j x).map e = (xs.map e).set n (e x) := by
    unfold sx
    rw [en, Option.getD_some, List.map_set]
  rw [em] at this
  exact this
theorem s_augE {O : γ → Out} {fo : Int → Int → Int} {i : Nat} {xs : List Int} {j y : Int} {Fx : List Int → γ} (hx : ρ[i]? = some (.own b (xs.map eI))) (hi : EvE F ρ ti kb (.int j) ρ1) (hx1 : ρ1[i]? = some (.own b (xs.map eI))) (h0 : 0 ≤ j) (hj : j < xs.length) (he : EvE F ρ1 te kc (.int y) ρ2) (hx2 : ρ2[i]? = some (.own b (xs.map eI)))
    (hu : ∀ z, z = sx xs j (fo (gx xs j) y) → EvS F Y (ρ2.set i (.own b (z.map eI))) u (O (Fx z))) : EvS F Y ρ (tSeq (tAugS (tVar i) ti te (rGetL K) (ipI fo) rSetL) u) (O (bnd (sx xs j (fo (gx xs j) y)) Fx)) := by
  have hin : Inb xs j := ⟨by omega, hj⟩
  obtain ⟨n, en, hn, _⟩ := ixN_some hin
  have hg : (xs.map eI)[n]? = some (.int (gx xs j)) := by
    have := atI_in hin
    unfold L2.atI at this
    rw [en] at this
    rw [List.getElem?_map, show xs[n]? = some (gx xs j) from this]
    rfl
  refine s_augI hx rfl hi hx1 h0 (by rw [List.length_map]; exact en) hg he hx2 ?_
  have := hu _ rfl
  have em : (sx xs j (fo (gx xs j) y)).map eI = (xs.map eI).set n (.int (fo (gx xs j) y)) := by
    unfold sx
    rw [en, Option.getD_some, List.map_set]
  rw [em] at this
  exact this
/-- enumerate -/
def enumL {α : Type} (xs : List α) : List (Int × α) := xs.mapIdx fun i x => ((i : Int), x)
theorem i_enumE (ha : EvE F ρ te (.k b) (eL e xs) ρ1) (hb : b ≠ .iob := by decide) : EvI F ρ (iEnum K (tCons te tNil)) b.fz ((enumL xs).map (eP eI e)) ρ1 := by
  have h := i_enum (K := K) ha hb
  have eq : enumD (xs.map e) = (enumL xs).map (eP eI e) := by
    unfold enumD enumL
    apply List.ext_getElem?
    intro i
    rw [List.getElem?_mapIdx, List.getElem?_map, List.getElem?_map, List.getElem?_mapIdx]
    cases xs[i]? <;> rfl
  rw [eq] at h
  exact h
theorem i_zipE {f : β → PyData} {zs : List β} (ha : EvE F ρ ta (.k b) (eL e xs) ρ1) (hb : EvE F ρ1 tb (.k b) (eL f zs) ρ2) (hb' : b ≠ .iob := by decide) : EvI F ρ (iZip K (tCons ta (tCons tb tNil))) b.fz ((xs.zip zs).map (eP e f)) ρ2 := by
  have h := i_zip (K := K) ha hb hb'
  have eq : zipD (xs.map e) (zs.map f) = (xs.zip zs).map (eP e f) := by
    unfold zipD
    rw [List.zip_map, List.map_map]
    rfl
  rw [eq] at h
  exact h
theorem i_listE (ha : EvE F ρ te (.k b) (eL e xs) ρ1) : EvI F ρ (iList K te) b (xs.map e) ρ1 := i_list ha
theorem fits_sc (h : IsSc d) : Fits k d b := .inr h
theorem fits_le (h : B.le b' b = true) : Fits (.k b') d b := .inl ⟨b', rfl, h⟩
end
end TP

/-! the feed of the laws, loops with what stands in them, more rules -/
namespace TP
open PySem PySem.Spec L2

/-! ### the feed -/
abbrev Raw := List Int × Int × Int × Int
@[reducible] def encR (r : Raw) : List PyData := [eL eI r.1, eI r.2.1, eI r.2.2.1, eI r.2.2.2]
structure RawOk (r : Raw) : Prop where
  len : r.1.length ≤ 63
  at0 : 0 ≤ r.2.1
  at1 : r.2.1 ≤ r.1.length
  big : 0 ≤ r.2.2.1
  s0 : 0 ≤ r.2.2.2
  s1 : r.2.2.2 < 2147483647
structure Fd where
  raw : Raw
  ok : RawOk raw
@[reducible] def encF (f : Fd) : List PyData := encR f.raw

section
variable {F : Fm} {ρ ρ' ρ1 ρ2 ρ3 ρ4 : List Sl} {ta tb tc te ti : TE} {k ka kb kc : Ek} {d d1 d2 : PyData} {ds es : List PyData} {b b' b1 b2 : B} {K : PySem.W.Frag} {t u : TS} {O : Out} {Y : XK} {α β γ S R : Type} {e : α → PyData} {xs ys : List α}

theorem isSc_eO (h : ∀ x, IsSc (e x)) : ∀ o : Option α, IsSc (eO e o)
  | none => .non
  | some x => h x
theorem DvL.scs {G G' : Hp} (h : ∀ x, IsSc (e x)) : ∀ {xs : List α} {vs : List V}, DvL G vs (xs.map e) → DvL G' vs (xs.map e)
  | [], _, .nil => .nil
  | _ :: _, _, .cons r t => .cons (r.sc (h _)) (DvL.scs h t)
/-- a list of scalars lies nowhere but itself -/
theorem o_sc (h : EvO F ρ te b (xs.map e) ρ') (s : ∀ x, IsSc (e x)) : EvO F ρ te b' (xs.map e) ρ' := fun σ N H Q S q =>
  h σ N H Q S fun p vs N' H' st h1 h2 h3 r => q p vs N' H' st h1 h2 h3 (r.scs s)
theorem o_le (h : EvO F ρ te b ds ρ') (l : B.le b b' = true) : EvO F ρ te b' ds ρ' := fun σ N H Q S q =>
  h σ N H Q S fun p vs N' H' st h1 h2 h3 r => q p vs N' H' st h1 h2 h3 (r.mono (st.sr.sub l))
theorem e_popE {i : Nat} {x : Int} [Inhabited α] (hx : ρ[i]? = some (.own b (xs.map e))) (h : EvE F ρ te k (.int x) ρ1) (hx1 : ρ1[i]? = some (.own b (xs.map e))) (hz : xs.length ≤ sizeLine) (hj : 0 ≤ x ∧ x < xs.length) :
    EvE F ρ (tBM K "list" rPopAt (tVar i) (tCons te tNil)) (.k b) (e (gx xs x)) (ρ1.set i (.own b ((xs.eraseIdx x.toNat).map e))) := by
  have hb : sizeLine = 16777216 := sizeLine_eq
  have hlt : x.toNat < xs.length := by omega
  have hd : (xs.map e)[x.toNat]? = some (e (gx xs x)) := by
    rw [gx_nonneg xs hj.1, List.getElem?_map, List.getElem?_eq_getElem hlt]
    simp [List.getD_eq_getElem?_getD, List.getElem?_eq_getElem hlt]
  have := e_popAt (K := K) hx h hx1 hj.1 (by omega) rfl hd
  have em : ∀ (l : List α) (n : Nat), (l.map e).eraseIdx n = (l.eraseIdx n).map e := by
    intro l
    induction l with
    | nil => intro n; rfl
    | cons a l ih =>
      intro n
      cases n with
      | zero => rfl
      | succ n => exact congrArg (e a :: ·) (ih n)
  rw [em] at this
  exact this
/-- .. an item that is a scalar -/
theorem e_popS {i : Nat} {x : Int} [Inhabited α] (s : ∀ x, IsSc (e x)) (hx : ρ[i]? = some (.own b (xs.map e))) (h : EvE F ρ te k (.int x) ρ1) (hx1 : ρ1[i]? = some (.own b (xs.map e))) (hz : xs.length ≤ sizeLine) (hj : 0 ≤ x ∧ x < xs.length) :
    EvE F ρ (tBM K "list" rPopAt (tVar i) (tCons te tNil)) (.k .sc) (e (gx xs x)) (ρ1.set i (.own b ((xs.eraseIdx x.toNat).map e))) := e_sc (e_popE hx h hx1 hz hj) (s _)
/-- an own list as an argument, that later arguments change -/
theorem a_consF {i : Nat} {s s2 : Sl} {tr : TA} {l : List (Ek × PyData)} (hx : ρ[i]? = some s) (hr : EvA F ρ tr l ρ2) (hx2 : ρ2[i]? = some s2) (hc : s2.cont = some (b, ds)) (ho : s.isOwn = true := by rfl) : EvA F ρ (tCons (tVar i) tr) ((.bor i b, .list ds) :: l) ρ2 := fun σ N H Q S q => by
  have hc0 : ∃ b0 ds0, s.cont = some (b0, ds0) := by
    cases s with
    | no => cases ho
    | ex _ _ => cases ho
    | v _ _ => cases ho
    | own _ _ => exact ⟨_, _, rfl⟩
    | io _ _ _ => exact ⟨_, _, rfl⟩
  obtain ⟨b0, ds0, hc0⟩ := hc0
  obtain ⟨p, vs, e1, _⟩ := S.cell hx hc0
  refine ⟨.ref p, e1, hr σ N H _ S fun ws N2 H2 s2' x2 => q (.ref p :: ws) N2 H2 s2' ⟨?_, x2⟩⟩
  refine ⟨e1, ds, rfl, ?_⟩
  cases s2 with
  | no => cases hc
  | ex _ _ => cases hc
  | v _ _ => cases hc
  | own _ _ => cases hc; exact .inl hx2
  | io p' _ _ => cases hc; exact .inr ⟨p', hx2⟩
theorem e_fdivW {i j : Int} (ha : EvE F ρ ta ka (.int i) ρ1) (hb : EvE F ρ1 tb kb (.int j) ρ2) (h : CDivW i j) : EvE F ρ (tOp (rI CDivW fun i j => .int (i / j)) ta tb) (.k .sc) (.int (i / j)) ρ2 := e_opI ha hb h (.int _) (.int _)
theorem cdivW {i j : Int} (h : 0 < j) (h2 : j < 2 ^ 64) : CDivW i j := wide_div (b := 64) h (by omega) (by omega) (by omega)

/-! ### loops, what stands in them told behind -/
theorem s_forNJ {O : γ → Out} {wi : TI} {g : TG} {tb : TS} {vs : List Nat} {bi : B} {Fx : S → γ} (xs : List α) (en : α → PyData) (f : S → List Sl) (ρb : α → S → List Sl) (fx : α → S → S) (J : Nat → S → Prop) (s0 : S)
    (hi : EvI F ρ wi bi (xs.map en) ρ1) (w1 : Wk ρ1 (f s0)) (hJ : J 0 s0)
    (hg : ∀ i x s, xs[i]? = some x → J i s → EvG F vs g bi (en x) (f s) (ρb x s))
    (hb : ∀ i x s, xs[i]? = some x → J i s → EvS F Y (ρb x s) tb (ON f (fx x s)))
    (hJs : ∀ i x s, xs[i]? = some x → J i s → J (i + 1) (fx x s))
    (hu : ∀ s, s = loopN fx xs s0 → J xs.length s → EvS F Y (f s) u (O (Fx s))) :
    EvS F Y ρ (tSeq (tFor wi g tb) u) (O (bnd (loopN fx xs s0) Fx)) :=
  s_join (s_forN xs en f ρb fx J s0 hi w1 hJ hg hb hJs) fun s e => hu s e (by
    subst e
    have := loopN_inv (f := fx) (J := J) xs 0 s0 (fun i x s h j => by rw [Nat.zero_add] at *; exact hJs i x s h j) hJ
    rwa [Nat.zero_add] at this)
theorem loopL_J {f : α → S → Fl S R} {J : Nat → S → Prop} {Jb : S → Prop} : ∀ (xs : List α) (k : Nat) (s s' : S), (∀ i x s s', xs[i]? = some x → J (k + i) s → f x s = .go s' → J (k + i + 1) s') → (∀ i x s s', xs[i]? = some x → J (k + i) s → f x s = .brk s' → Jb s') → (∀ s, J (k + xs.length) s → Jb s) → J k s → loopL f xs s = .go s' → Jb s'
  | [], k, s, s', _, _, hl, h, e => by cases e; exact hl _ h
  | x :: xs, k, s, s', hs, hbk, hl, h, e => by
    rw [loopL_cons] at e
    cases hf : f x s with
    | go s2 =>
      rw [hf] at e
      have h1 := hs 0 x s s2 rfl h hf
      refine loopL_J xs (k + 1) s2 s' (fun i y t t' hy hj he => ?_) (fun i y t t' hy hj he => hbk (i + 1) y t t' (by simpa using hy) (by rw [show k + (i + 1) = k + 1 + i by omega]; exact hj) he) (fun t ht => hl t (by rw [List.length_cons, show k + (xs.length + 1) = k + 1 + xs.length by omega]; exact ht)) h1 e
      have := hs (i + 1) y t t' (by simpa using hy) (by rw [show k + (i + 1) = k + 1 + i by omega]; exact hj) he
      rw [show k + 1 + i + 1 = k + (i + 1) + 1 by omega]; exact this
    | brk s2 =>
      rw [hf] at e
      cases e
      exact hbk 0 x s _ rfl h hf
    | ret r => rw [hf] at e; cases e
theorem s_forT {wi : TI} {g : TG} {tb : TS} {vs : List Nat} {bi : B} {kx : S → R} (xs : List α) (en : α → PyData) (f : S → List Sl) (ρb : α → S → List Sl) (G : R → Rk → PyData → List Sl → Prop) (fx : α → S → Fl S R) (J : Nat → S → Prop) (Jb : S → Prop) (s0 : S)
    (hi : EvI F ρ wi bi (xs.map en) ρ1) (w1 : Wk ρ1 (f s0)) (hJ : J 0 s0)
    (hg : ∀ i x s, xs[i]? = some x → J i s → EvG F vs g bi (en x) (f s) (ρb x s))
    (hb : ∀ i x s, xs[i]? = some x → J i s → EvS F Y (ρb x s) tb (OF f G (fx x s)))
    (hJs : ∀ i x s s', xs[i]? = some x → J i s → fx x s = .go s' → J (i + 1) s')
    (hJb : ∀ i x s s', xs[i]? = some x → J i s → fx x s = .brk s' → Jb s') (hJe : ∀ s, J xs.length s → Jb s)
    (hu : ∀ s, loopL fx xs s0 = .go s → Jb s → EvS F Y (f s) u (OT G (kx s))) :
    EvS F Y ρ (tSeq (tFor wi g tb) u) (OT G (flT (loopL fx xs s0) kx)) :=
  s_flowT (s_forF xs en f ρb G fx J s0 hi w1 hJ hg hb hJs) (loopL_nobrk xs s0) fun s e => hu s e
    (loopL_J (f := fx) (J := J) xs 0 s0 s (fun i x t t' h j => by rw [Nat.zero_add] at *; exact hJs i x t t' h j) (fun i x t t' h j => by rw [Nat.zero_add] at *; exact hJb i x t t' h j) (fun t ht => hJe t (by rw [Nat.zero_add] at ht; exact ht)) hJ e)
theorem s_forFl {S' : Type} {f' : S' → List Sl} {wi : TI} {g : TG} {tb : TS} {vs : List Nat} {bi : B} {kx : S → Fl S' R} (xs : List α) (en : α → PyData) (f : S → List Sl) (ρb : α → S → List Sl) (G : R → Rk → PyData → List Sl → Prop) (fx : α → S → Fl S R) (J : Nat → S → Prop) (Jb : S → Prop) (s0 : S)
    (hi : EvI F ρ wi bi (xs.map en) ρ1) (w1 : Wk ρ1 (f s0)) (hJ : J 0 s0)
    (hg : ∀ i x s, xs[i]? = some x → J i s → EvG F vs g bi (en x) (f s) (ρb x s))
    (hb : ∀ i x s, xs[i]? = some x → J i s → EvS F Y (ρb x s) tb (OF f G (fx x s)))
    (hJs : ∀ i x s s', xs[i]? = some x → J i s → fx x s = .go s' → J (i + 1) s')
    (hJb : ∀ i x s s', xs[i]? = some x → J i s → fx x s = .brk s' → Jb s') (hJe : ∀ s, J xs.length s → Jb s)
    (hu : ∀ s, loopL fx xs s0 = .go s → Jb s → EvS F Y (f s) u (OF f' G (kx s))) :
    EvS F Y ρ (tSeq (tFor wi g tb) u) (OF f' G (flF (loopL fx xs s0) kx)) :=
  s_flowF (s_forF xs en f ρb G fx J s0 hi w1 hJ hg hb hJs) (loopL_nobrk xs s0) fun s e => hu s e
    (loopL_J (f := fx) (J := J) xs 0 s0 s (fun i x t t' h j => by rw [Nat.zero_add] at *; exact hJs i x t t' h j) (fun i x t t' h j => by rw [Nat.zero_add] at *; exact hJb i x t t' h j) (fun t ht => hJe t (by rw [Nat.zero_add] at ht; exact ht)) hJ e)

/-! ### the raw feed -/
/-- feed[k] = e -/
theorem s_setR {O : γ → Out} {p : Addr} {i j : Nat} {r r' : Raw} {Fx : Raw → γ} (h : EvE F ρ te k d ρ1) (hx : ρ1[i]? = some (.io p b (encR r))) (s : IsSc d) (he : encR r' = (encR r).set j d := by rfl) (hj : ixN 4 (j : Int) = some j := by rfl)
    (hu : ∀ y, y = r' → EvS F Y (ρ1.set i (.io p b (encR y))) u (O (Fx y))) : EvS F Y ρ (tSeq (tAsg te (gSub (tVar i) (tC (.int (j : Int))) rSetL)) u) (O (bnd r' Fx)) := by
  refine s_setI h hx rfl e_int ?_ hx hj (.inr s) ?_
  · cases k with
    | k b => trivial
    | bor i b => exact rfl
  · have := hu r' rfl
    rw [he] at this
    exact this
/-- feed[k] += e -/
theorem s_augR {O : γ → Out} {fo : Int → Int → Int} {p : Addr} {i j : Nat} {r r' : Raw} {z y : Int} {Fx : Raw → γ} (hx : ρ[i]? = some (.io p b (encR r))) (hz : (encR r)[j]? = some (.int z)) (h : EvE F ρ te k (.int y) ρ) (he : encR r' = (encR r).set j (.int (fo z y)) := by rfl) (hj : ixN 4 (j : Int) = some j := by rfl)
    (hu : ∀ y, y = r' → EvS F Y (ρ.set i (.io p b (encR y))) u (O (Fx y))) : EvS F Y ρ (tSeq (tAugS (tVar i) (tC (.int (j : Int))) te (rGetL K) (ipI fo) rSetL) u) (O (bnd r' Fx)) := by
  refine s_augI hx rfl e_int hx (by omega) hj hz h hx ?_
  have := hu r' rfl
  rw [he] at this
  exact this
end
/-- a call's answer that shares with its arguments, one list changed -/
theorem e_callIV {F : Fm} {ρ ρ1 : List Sl} {d : PyData} {ds : List PyData} {b' : B} {i : Nat} {s : Sl} {as : List Ar} {es' : List PyData} {sp : Sp} {t : TA} {l : List (Ek × PyData)} {E : XK} (ha : EvA F ρ t l ρ1) (hi : ρ1[i]? = some s) (hc : s.cont = some (b', ds)) (har : Ars i l as) (hs : ∀ vs H Q E, spI (.k .new) as d es' vs H Q E → sp vs H Q E) :
    EvE F ρ (tCall sp [] E t) (.k .val) d (ρ1.set i (s.put es')) := e_le (e_callI ha hi hc har hs) rfl
end TP

/-! statements that change the feed beside; flows that never end or never break -/
namespace TP
open PySem PySem.Spec L2
section
variable {F : Fm} {ρ ρ' ρ1 ρ2 ρ3 ρ4 : List Sl} {ta tb tc te ti : TE} {k ka kb kc : Ek} {d d1 d2 : PyData} {ds es : List PyData} {b b' b1 b2 : B} {K : PySem.W.Frag} {t u : TS} {O : Out} {Y : XK} {α β γ S S' R : Type} {e : α → PyData} {xs ys : List α}
theorem s_asgP {O : γ → Out} {i : Nat} {t : α × β} {en : α → PyData} {fρ : α × β → List Sl} {Fx : α × β → γ} (h : EvE F ρ te (.k b) (en t.1) (fρ t)) (hu : ∀ x, x = t → EvS F Y ((fρ x).set i (.v b (en x.1))) u (O (Fx x))) (hi : ∀ x, Nat.blt i (fρ x).length = true := by intro _; rfl) : EvS F Y ρ (tSeq (tAsg te (gName i)) u) (O (bnd t Fx)) := s_set h (hu t rfl) (hi t)
theorem s_asgOP {O : γ → Out} {i : Nat} {t : α × β} {en : α → List PyData} {fρ : α × β → List Sl} {Fx : α × β → γ} (h : EvO F ρ te b (en t.1) (fρ t)) (hu : ∀ x, x = t → EvS F Y ((fρ x).set i (.own b (en x.1))) u (O (Fx x))) (hi : ∀ x, Nat.blt i (fρ x).length = true := by intro _; rfl) : EvS F Y ρ (tSeq (tAsg te (gName i)) u) (O (bnd t Fx)) := s_setO h (hu t rfl) (hi t)
theorem s_tgtP {O : γ → Out} {g : TG} {vs : List Nat} {t : α × β} {en : α → PyData} {fρ ρ2 : α × β → List Sl} {Fx : α × β → γ} (h : EvE F ρ te (.k b) (en t.1) (fρ t)) (hg : ∀ p, EvG F vs g b (en p.1) (fρ p) (ρ2 p)) (hu : ∀ p, p = t → EvS F Y (ρ2 p) u (O (Fx p))) : EvS F Y ρ (tSeq (tAsg te g) u) (O (bnd t Fx)) := s_tgt h (hg t) (hu t rfl)
theorem s_appEP {O : γ → Out} {i : Nat} {x : α} {fd : β} {fρ : β → List Sl} {Fx : List α × β → γ} (hx : ρ[i]? = some (.own b (xs.map e))) (h : EvE F ρ te k (e x) (fρ fd)) (hx1 : (fρ fd)[i]? = some (.own b (xs.map e))) (f : Fits k (e x) b) (hz : xs.length < sizeLine)
    (hu : ∀ y, y = (xs ++ [x], fd) → EvS F Y ((fρ y.2).set i (.own b (y.1.map e))) u (O (Fx y))) : EvS F Y ρ (tSeq (tDrop (tBM K "list" rAppend (tVar i) (tCons te tNil))) u) (O (bnd (xs ++ [x], fd) Fx)) :=
  s_append hx h hx1 f (by rw [List.length_map]; exact hz) (by
    have := hu _ rfl
    rw [List.map_append] at this
    exact this)
theorem s_extEP {O : γ → Out} {i : Nat} {fd : β} {fρ : β → List Sl} {Fx : List α × β → γ} (hx : ρ[i]? = some (.own b (xs.map e))) (h : EvE F ρ te k (eL e ys) (fρ fd)) (hx1 : (fρ fd)[i]? = some (.own b (xs.map e))) (f : B.le k.ib b = true) (hz : xs.length + ys.length ≤ sizeLine)
    (hu : ∀ y, y = (xs ++ ys, fd) → EvS F Y ((fρ y.2).set i (.own b (y.1.map e))) u (O (Fx y))) : EvS F Y ρ (tSeq (tDrop (tBM K "list" rExtend (tVar i) (tCons te tNil))) u) (O (bnd (xs ++ ys, fd) Fx)) :=
  s_extend hx h hx1 f (by rw [List.length_map, List.length_map]; exact hz) (by
    have := hu _ rfl
    rw [List.map_append] at this
    exact this)
theorem signs_len (t : Tx) : (signs t).length = t.length := by unfold signs; rw [List.length_map]
theorem e_callJ {i : Nat} {s : Sl} {as : List Ar} {es' : List PyData} {sp : Sp} {t : TA} {l : List (Ek × PyData)} {E : XK} (ha : EvA F ρ t l ρ1) (hi : ρ1[i]? = some s) (hc : s.cont = some (b', ds)) (hρ : ρ2 = ρ1.set i (s.put es')) (har : Ars i l as) (hs : ∀ vs H Q E, spI (.k b) as d es' vs H Q E → sp vs H Q E) (hb : b.free = true := by rfl) :
    EvE F ρ (tCall sp [] E t) (.k b) d ρ2 := by subst hρ; exact e_callI ha hi hc har hs hb
theorem o_callJ {i : Nat} {s : Sl} {as : List Ar} {es es' : List PyData} {sp : Sp} {t : TA} {l : List (Ek × PyData)} {E : XK} (ha : EvA F ρ t l ρ1) (hi : ρ1[i]? = some s) (hc : s.cont = some (b', ds)) (hρ : ρ2 = ρ1.set i (s.put es')) (har : Ars i l as) (hs : ∀ vs H Q E, spI (.own b) as (.list es) es' vs H Q E → sp vs H Q E) (hb : b.free = true := by rfl) :
    EvO F ρ (tCall sp [] E t) b es ρ2 := by subst hρ; exact o_callI ha hi hc har hs hb
theorem e_popJ {i : Nat} {x : Int} [Inhabited α] (hx : ρ[i]? = some (.own b (xs.map e))) (h : EvE F ρ te k (.int x) ρ1) (hx1 : ρ1[i]? = some (.own b (xs.map e))) (hz : xs.length ≤ sizeLine) (hj : 0 ≤ x ∧ x < xs.length) (hρ : ρ2 = ρ1.set i (.own b ((xs.eraseIdx x.toNat).map e))) :
    EvE F ρ (tBM K "list" rPopAt (tVar i) (tCons te tNil)) (.k b) (e (gx xs x)) ρ2 := by subst hρ; exact e_popE hx h hx1 hz hj
theorem e_popSJ {i : Nat} {x : Int} [Inhabited α] (s : ∀ x, IsSc (e x)) (hx : ρ[i]? = some (.own b (xs.map e))) (h : EvE F ρ te k (.int x) ρ1) (hx1 : ρ1[i]? = some (.own b (xs.map e))) (hz : xs.length ≤ sizeLine) (hj : 0 ≤ x ∧ x < xs.length) (hρ : ρ2 = ρ1.set i (.own b ((xs.eraseIdx x.toNat).map e))) :
    EvE F ρ (tBM K "list" rPopAt (tVar i) (tCons te tNil)) (.k .sc) (e (gx xs x)) ρ2 := by subst hρ; exact e_popS s hx h hx1 hz hj
def NoGo (fl : Fl S R) : Prop := ∀ s, fl ≠ .go s
theorem ng_ret {r : R} : NoGo (Fl.ret (S := S) r) := fun s e => nomatch e
theorem ng_brk {s : S} : NoGo (Fl.brk (R := R) s) := fun s e => nomatch e
theorem ng_ite {c : Bool} {x y : Fl S R} (h : NoGo x) (h' : NoGo y) : NoGo (iteB c x y) := by cases c <;> assumption
theorem ng_bnd {t : α} {f : α → Fl S R} (h : ∀ x, NoGo (f x)) : NoGo (bnd t f) := h t
theorem ng_flF {fl : Fl S' R} {k : S' → Fl S R} (h : ∀ s, NoGo (k s)) : NoGo (flF fl k) := by
  cases fl with
  | go s => exact h s
  | brk s => exact h s
  | ret r => exact fun s e => nomatch e
theorem ng_nx {f : S → List Sl} {G : R → Rk → PyData → List Sl → Prop} {fl : Fl S R} (h : NoGo fl) : ∀ ρ, ¬ (OF f G fl).nx ρ := fun _ ⟨s, e, _⟩ => h s e
def NoBrk (fl : Fl S R) : Prop := ∀ s, fl ≠ .brk s
theorem nb_ret {r : R} : NoBrk (Fl.ret (S := S) r) := fun s e => nomatch e
theorem nb_go {s : S} : NoBrk (Fl.go (R := R) s) := fun s e => nomatch e
theorem nb_ite {c : Bool} {x y : Fl S R} (h : NoBrk x) (h' : NoBrk y) : NoBrk (iteB c x y) := by cases c <;> assumption
theorem nb_bnd {t : α} {f : α → Fl S R} (h : ∀ x, NoBrk (f x)) : NoBrk (bnd t f) := h t
theorem nb_flF {fl : Fl S' R} {k : S' → Fl S R} (h : ∀ s, NoBrk (k s)) : NoBrk (flF fl k) := by
  cases fl with
  | go s => exact h s
  | brk s => exact h s
  | ret r => exact fun s e => nomatch e
/-- a promise of less -/
theorem Cal.imp {P : Program} {w : World} {mg : Str → Option Value} {base : Heap} {x : Str} {k : Nat} {f : Addr} {fd : FuncData} {ps : List Str} {sp sp' : Sp} (C : Cal P w K mg base x k f fd ps sp) (h : ∀ vs H Q E, sp' vs H Q E → sp vs H Q E) : Cal P w K mg base x k f fd ps sp' := ⟨C.ok.imp h, C.gl, C.kp, C.bd⟩
end
end TP

/-! plain laws of the mirrors' words -/
namespace TP
section
variable {α β γ S R : Type}
theorem compS_len {tst : α → S → Bool × S} {el : α → S → β × S} : ∀ (xs : List α) (s : S), (compS tst el xs s).1.length ≤ xs.length
  | [], _ => Nat.le_refl _
  | x :: xs, s => by
    cases h : (tst x s).1 with
    | true => rw [compS_yes h]; exact Nat.succ_le_succ (compS_len xs _)
    | false => rw [compS_no h]; exact Nat.le_succ_of_le (compS_len xs _)
/-- without a test: as many -/
theorem compS_len0 {el : α → S → β × S} {u : α → S → S} : ∀ (xs : List α) (s : S), (compS (fun x s => (true, u x s)) el xs s).1.length = xs.length
  | [], _ => rfl
  | x :: xs, s => by
    rw [compS_yes rfl]; exact congrArg Nat.succ (compS_len0 xs _)
theorem compS_all {tst : α → S → Bool × S} {el : α → S → β × S} {P : β → Prop} : ∀ (xs : List α) (s : S), (∀ x s, x ∈ xs → P (el x s).1) → ∀ y ∈ (compS tst el xs s).1, P y
  | [], _, _, y, hy => nomatch hy
  | x :: xs, s, h, y, hy => by
    cases hc : (tst x s).1 with
    | true =>
      rw [compS_yes hc] at hy
      rcases List.mem_cons.mp hy with e | hy
      · subst e; exact h x _ (List.mem_cons_self ..)
      · exact compS_all xs _ (fun z s hz => h z s (List.mem_cons_of_mem _ hz)) y hy
    | false =>
      rw [compS_no hc] at hy
      exact compS_all xs _ (fun z s hz => h z s (List.mem_cons_of_mem _ hz)) y hy
theorem sum_le_mul {m : Nat} : ∀ {xs : List Nat}, (∀ x ∈ xs, x ≤ m) → xs.sum ≤ xs.length * m
  | [], _ => Nat.zero_le _
  | x :: xs, h => by
    have h1 := h x (List.mem_cons_self ..)
    have h2 := sum_le_mul (xs := xs) fun z hz => h z (List.mem_cons_of_mem _ hz)
    rw [List.sum_cons, List.length_cons, Nat.succ_mul]
    omega
theorem joinSize_le {sep : Tx} {xs : List Tx} {m : Nat} (h : ∀ x ∈ xs, x.length ≤ m) : joinSize sep xs ≤ xs.length * (m + sep.length) := by
  unfold joinSize
  have h1 : (xs.map List.length).sum ≤ (xs.map List.length).length * m := sum_le_mul fun z hz => by
    obtain ⟨x, hx, rfl⟩ := List.mem_map.mp hz
    exact h x hx
  rw [List.length_map] at h1
  rw [Nat.mul_add]
  omega
theorem joinT_len_le {sep : Tx} : ∀ (xs : List Tx), (joinT sep xs).length ≤ joinSize sep xs
  | [] => Nat.zero_le _
  | [x] => by simp [joinT, joinSize]
  | x :: y :: r => by
    have h := joinT_len_le (sep := sep) (y :: r)
    show (x ++ sep ++ joinT sep (y :: r)).length ≤ _
    unfold joinSize at h ⊢
    rw [List.map_cons, List.sum_cons, List.length_cons, Nat.succ_mul, List.length_append, List.length_append]
    omega
theorem gx_all {α : Type} [Inhabited α] {xs : List α} {i : Int} {P : α → Prop} (h : ∀ x ∈ xs, P x) (hd : P default) : P (gx xs i) := by
  unfold gx L2.atI
  cases hx : L2.ixN xs.length i with
  | none => exact hd
  | some j =>
    show P ((xs[j]?).getD default)
    cases hj : xs[j]? with
    | none => exact hd
    | some y => exact h y (List.mem_of_getElem? hj)
theorem joinT1 : ∀ (xs : List Tx), (∀ x ∈ xs, x.length = 1) → (joinT [] xs).length = xs.length := fun xs h => by
  rw [joinT_nil, List.length_flatten]
  induction xs with
  | nil => rfl
  | cons x xs ih =>
    rw [List.map_cons, List.sum_cons, List.length_cons, h x (List.mem_cons_self ..), ih fun z hz => h z (List.mem_cons_of_mem _ hz)]
    omega
end
end TP

/-! own exceptions -/
namespace PySem.W
open PySem PySem.Spec PySem.Calls PyProof.Rows
section
variable {prog : Program} {w : World} {A : Around} {E : Value → Shared → Prop} {s : Shared} {K : Frag} {x D : Addr} {ox : Obj} {od : Option Obj} {Q : Option Value → Shared → Prop}
/-- __class__ of an exception, whether it has a dict or not -/
theorem tp_cls (C : L2.ExcC K D) (kin : K.In s.heap) (ia : InstAt s.heap x ox D od)
    (fnd : findObj K D od "__class__" = some (.bind (.builtin "getset_descriptor.__get__") (.builtin "object.__class__")))
    (fin : Q (some (.ref D)) { s with toks := s.toks + 1 }) : wpAny (model prog w) A (getAttr? (.ref x) "__class__") Q E s := by
  rcases s with ⟨hp, gs, dr, tk, os⟩
  have lk0 := ia.type (M := model prog w)
  have lka := looks_findIn (M := model prog w) kin C.hg
  have lkb := looks_findIn (M := model prog w) kin C.hk
  have lkf := looks_find (M := model prog w) kin ia fnd
  have isB : Looks (model prog w) hp (isInstance (.ref x) (.type "BaseException")) true := lk0.andThen (looks_subIn kin C.hs)
  have no1 : (Value.builtin "BaseException.__getattribute__" == Value.builtin "object.__getattribute__") = false := by decide +kernel
  have no2 : (onTheHeap (Value.ref D) && Value.builtin "BaseException.__getattribute__" == Value.builtin "object.__getattribute__") = false := by
    rw [no1]; rfl
  unfold getAttr? getAttrBy? getAttrBy
  refine wpAny_bind (wpAny_mkText ?_)
  refine wpAny_bind (wpAny_attempt (wpAny_holding (wpAny_bind (lk0.at ?_))))
  refine wpAny_bind (lka.at ?_)
  show wpAny _ _ (ite ((onTheHeap (Value.ref D) && Value.builtin "BaseException.__getattribute__" == Value.builtin "object.__getattribute__") = true) _ _) _ _ _
  rw [no2, if_neg Bool.false_ne_true]
  unfold getAttrByItsOwn hookBefore
  apply wpAny_bind
  rw [if_pos (show onTheHeap (Value.ref D) = true by rfl)]
  apply lkb.at
  refine wpAny_bind (wpAny_attempt ?_)
  apply wpAny_holding
  unfold callGetattribute
  rw [show (false && onTheHeap (Value.builtin "BaseException.__getattribute__")) = false by rfl, if_neg Bool.false_ne_true]
  unfold boundAndCalled
  rw [F.excAttr_ValueError.ga.bind (Value.ref x)]
  refine wpAny_bind ?_
  apply wpAny_pure
  show wpAny _ _ (call (.builtin "BaseException.__getattribute__") [Value.ref x, Value.str "__class__" tk]) _ _ _
  apply wpAny_call
  refine codeAny_call_builtin F.excAttr_ValueError.ga.plain F.entry_bexc_ga ?_
  refine @check_slot (model prog w) _ _ ⟨hp, gs, dr, tk + 1, os⟩ "BaseException.__getattribute__" "BaseException" "__getattribute__" (Value.ref x) [Value.str "__class__" tk] [] _ (by decide +kernel) (by decide +kernel) isB (F.args_bexc_ga (Value.ref x) (Value.str "__class__" tk)) ?_
  unfold Builtin.«object.__getattribute__»
  refine wpAny_bind (wpAny_of_eq (a := ((Value.ref x : Value), [Value.str "__class__" tk])) (by first | rfl | simp only [slotArgs] <;> rfl) ?_)
  refine wpAny_bind (wpAny_pure (wpAny_bind (lk0.at ?_)))
  refine wpAny_bind (lkf.at ?_)
  show wpAny _ _ (holding [Value.builtin "object.__class__"] (call (.builtin "getset_descriptor.__get__") [Value.builtin "object.__class__", Value.ref x, Value.ref D]) >>= ret) _ _ _
  refine wpAny_bind (wpAny_holding ?_)
  apply wpAny_call
  refine class_get (s := ⟨hp, gs, dr, tk + 1, os⟩) (ox := ox) (od := od) kin ia C.hm ?_
  apply wpAny_pure
  show wpAny _ _ (handedOut (.ref D)) _ _ _
  rw [handedOut_of (v := Value.ref D) rfl]
  first
    | exact wpAny_pure fin
    | (apply wpAny_pure; exact wpAny_pure fin)
    | (apply wpAny_pure; apply wpAny_bind; apply wpAny_pure; exact wpAny_pure fin)
theorem tp_kit (C : L2.ExcC K D) (od : Option Obj) (fnd : findObj K D od "__class__" = some (.bind (.builtin "getset_descriptor.__get__") (.builtin "object.__class__"))) : KitX K (.ref x) (.ref D) (fun h => InstAt h x ox D od) := by
  obtain ⟨cd, hcd, _⟩ := any_some C.hd
  refine ⟨fun _ _ _ ia => ia.type, fun M h kin _ => ?_, fun h tp dd its n sl kin htp => ?_, fun kin ia k => tp_cls C kin ia fnd k⟩
  · unfold clsIn at hcd
    split at hcd
    · rename_i c1 d1 cd1 sl1 look
      intro A1 Q1 E1 s1 kp q
      unfold isType loadHead
      refine wpAny_bind (wpAny_loadPart (kp _ _ (kin _ _ look)) ?_)
      exact wpAny_pure q
    · cases hcd
  · cases hq : (Value.ref D == Value.ref tp) with
    | false => rfl
    | true =>
      have e := Value.ref.inj (beq_iff_eq.mp hq)
      subst e
      unfold clsIn at hcd
      split at hcd
      · rename_i c1 d1 cd1 sl1 look
        have y := kin _ _ look
        rw [htp] at y
        cases y
      · cases hcd
end
end PySem.W
namespace TP
open PySem PySem.Spec L2
/-- an own class whose __init__ keeps one field -/
structure ExcT (K : PySem.W.Frag) (mg : Str → Option Value) (x : Str) (C : Addr) : Prop where
  gl : mg x = some (.ref C)
  oc : OexC K C
  xf : XfC K C
  xc : ExcC K C
/-- __init__(self, v): self.f = v -/
def spIni (f : Str) : Sp := fun vs H Q _ => ∃ (K : PySem.W.Frag) (a C : Addr) (v : V), vs = [.ref a, v] ∧ OexC K C ∧ PySem.W.findIn K (.ref C) f = some none ∧ H a = some (exo a C none) ∧
  ∀ dx, H dx = none → dx ≠ a → Q .non (upd (upd H dx (exd dx [(f, v)])) a (exo a C (some dx)))
def spIni1 (K : PySem.W.Frag) (f : Str) : Sp := fun vs H Q _ => ∃ (a C : Addr) (v : V), vs = [.ref a, v] ∧ OexC K C ∧ PySem.W.findIn K (.ref C) f = some none ∧ H a = some (exo a C none) ∧
  ∀ dx, H dx = none → dx ≠ a → Q .non (upd (upd H dx (exd dx [(f, v)])) a (exo a C (some dx)))
theorem ini_pure {K : PySem.W.Frag} {f : Str} {vs : List V} {H : Hp} {Q : VK} {E : XK} {N : List Str} (hN : N.length = 2) (h : spIni1 K f vs H Q E) : tOst K f (tVar 0) (tVar 1) { nx := fun _ H' => Q .non H', rt := Q } (L2.start N vs) H := by
  obtain ⟨a, C, v, rfl, oc, no, ea, k⟩ := h
  have e : L2.start N [V.ref a, v] = [some (V.ref a), some v] := by
    unfold L2.start
    rw [hN]
    rfl
  rw [e]
  exact ⟨v, rfl, .ref a, rfl, a, C, rfl, oc, no, .inl ⟨ea, fun dx n ne => k dx n ne⟩⟩
/-- what a def that may raise answers -/
inductive Ex (R : Type) where
  | ok (r : R)
  | er (c : Nat) (fs : List (Str × Int))
def exf (fs : List (Str × Int)) : List (Str × V) := fs.map fun p => (p.1, V.int p.2)
def GX {γ : Type} (cl : Nat → Addr) (rk : Rk) (en : γ → PyData) : Ex γ → Rk → PyData → List Sl → Prop
  | .ok r, rk', d', _ => rk' = rk ∧ d' = en r
  | .er c fs, rk', _, _ => rk' = .er (cl c) (exf fs)
/-- .. it may end without return -/
def OTN {R : Type} (G : R → Rk → PyData → List Sl → Prop) (r : R) : Out := { rt := fun rk d ρ => G r rk d ρ, er := fun C fs => G r (.er C fs) .none [], nx := fun ρ => G r (.k .sc) .none ρ }
def spXF {γ : Type} (cl : Nat → Addr) (rk : Rk) (en : γ → PyData) (ds : List PyData) (m : Ex γ) : Sp := fun vs H Q E => ∃ A, Same A H ∧ DvL A vs ds ∧
  (∀ r, m = .ok r → ∀ v H' N, Same H H' → Same N H' → (∀ a o, N a = some o → H a = none) → RHold ⟨A, e0, H, []⟩ N H' rk v (en r) → Q v H') ∧
  (∀ c fs, m = .er c fs → ∀ H' d, Same H H' → H d = none → H' d = some (.xd (exf fs)) → E (.ref (cl c)) (some d) H')
def spXn {α γ : Type} (cl : Nat → Addr) (D : α → Prop) (enA : α → List PyData) (rk : Rk) (en : γ → PyData) (m : α → Ex γ) : Sp := fun vs H Q E => ∃ a, D a ∧ spXF cl rk en (enA a) (m a) vs H Q E
section
variable {F : Fm} {Y : XK} {ρ ρ' ρ1 ρ2 ρ3 ρ4 : List Sl} {ta tb tc te ti : TE} {k ka kb kc : Ek} {d d1 d2 : PyData} {ds es : List PyData} {b b' b1 b2 : B} {K : PySem.W.Frag} {t u : TS} {O : Out} {α β γ S S' R : Type} {e : α → PyData} {xs ys : List α} {P : Program} {w : World} {mg : Str → Option Value} {base : Heap}
theorem fn_X {x qual : Str} {st : Stmt} {f : Addr} {fd : FuncData} {Nm ps : List Str} {k n : Nat} {rk : Rk} {cl : Nat → Addr} {en : γ → PyData} {m : Ex γ} (Fn : Fun K x qual st f fd) (Sc : FnScope Nm ps (defScope st)) (hk : ∀ C fs, rk ≠ .er C fs := by intro _ _ h; cases h) (hl : ds.length = ps.length := by rfl) (hn : Nm.length = ps.length + n := by rfl)
    (hb : ∀ (cdv : Value) (A : Around) (outer : List Env) (s : Shared) (H : Hp) (E : XK), Room k (A.deeper (PyProof.Rows.envOfC qual (defScope st) s.heap.objs.size f cdv)) →
      ∃ t, PSs (cxOf (L2.CX P w) P w K mg base Nm qual (defScope st) f cdv A outer s H E) (defBody st) t ∧ ∀ A0, EvS ⟨A0, e0, H, []⟩ E (sl0 ds n) t (OTN (GX cl rk en) m)) :
    FnOk P w K mg base (L2.CX P w) (k + 1) f fd ps (spXF cl rk en ds m) := by
  refine Fn.okX Sc (fun vs H Q E h => ?_) (fun cdv A outer s H vs Q E hr h => ?_)
  · obtain ⟨A, hA, r, _⟩ := h
    rw [r.len]; exact hl
  · obtain ⟨A0, hA, r, q, qe⟩ := h
    obtain ⟨t, ht, ev⟩ := hb cdv A outer s H E hr
    refine ⟨t, ht, ?_⟩
    rw [start_eq (n := n) (by rw [r.len, hl]; exact hn)]
    have S0 := sr_start0 (n := n) hA r
    refine ev A0 _ e0 H _ S0 (fun ρ' σ' N' H' x m S' => ?_) (fun rk' d' ρ' σ' N' H' v x S' hv => ?_) (fun _ _ _ _ h => h.elim) (fun _ _ _ _ h => h.elim) (fun C fs x H' d kp hd hx => ?_)
    · cases m' : (‹Ex γ›) with
      | ok r' =>
        subst m'
        obtain ⟨e1, e2⟩ := x
        refine q r' rfl .non H' N' (fun a o e => S'.keep a o e (by simp)) S'.nH S'.nN ?_
        rw [← e1, ← e2]
        exact Dv.non
      | er c fs =>
        subst m'
        have x : Rk.k .sc = .er (cl c) (exf fs) := x
        cases x
    · cases m' : (‹Ex γ›) with
      | ok r' =>
        subst m'
        obtain ⟨e1, e2⟩ := x
        subst e1 e2
        exact q r' rfl v H' N' (fun a o e => S'.keep a o e (by simp)) S'.nH S'.nN hv
      | er c fs =>
        subst m'
        have x : rk' = .er (cl c) (exf fs) := x
        subst x
        exact hv.elim
    · cases m' : (‹Ex γ›) with
      | ok r' =>
        subst m'
        exact (hk C fs x.1.symm).elim
      | er c fs' =>
        subst m'
        have x : Rk.er C fs = .er (cl c) (exf fs') := x
        cases x
        exact qe c fs' rfl H' d (fun a o e => kp a o e (by simp)) hd hx
theorem FnOk.allX {D : α → Prop} {cl : Nat → Addr} {enA : α → List PyData} {rk : Rk} {en : γ → PyData} {m : α → Ex γ} {CX : CXT} {k : Nat} {f : Addr} {fd : FuncData} {ps : List Str} (h : ∀ a, D a → FnOk P w K mg base CX k f fd ps (spXF cl rk en (enA a) (m a))) : FnOk P w K mg base CX k f fd ps (spXn cl D enA rk en m) :=
  ⟨fun vs H Q E ⟨a, hd, x⟩ => (h a hd).len vs H Q E x, fun A outer s H args us vs Q E hr e0 hb hv ⟨a, hd, x⟩ => (h a hd).run A outer s H args us vs Q E hr e0 hb hv x⟩
theorem s_fall {G : R → Rk → PyData → List Sl → Prop} {r : R} (h : G r (.k .sc) .none ρ) : EvS F Y ρ tNext (OTN G r) := fun σ N H D S q1 _ _ _ _ => q1 ρ σ N H h (Same.refl N) S
/-- the last statement tells: a way that ends otherwise -/
theorem s_leaveN {G : R → Rk → PyData → List Sl → Prop} {r : R} (h : EvS F Y ρ t (OT G r)) : EvS F Y ρ (tSeq t u) (OTN G r) := fun σ N H D S q1 q2 q3 q4 q5 =>
  h σ N H _ S (fun _ _ _ _ x => x.elim) q2 (fun _ _ _ _ x => x.elim) (fun _ _ _ _ x => x.elim) q5
theorem s_ifN {G : R → Rk → PyData → List Sl → Prop} {c : Bool} {tt : TT} {x y : R} (hc : EvT F ρ tt c ρ1) (ha : c = true → EvS F Y ρ1 t (OT G x)) (hb : c = false → EvS F Y ρ1 u (OTN G y)) : EvS F Y ρ (tSeq (tIfS tt t tNext) u) (OTN G (iteB c x y)) := fun σ N H D S q1 q2 q3 q4 q5 =>
  hc σ N H _ S fun N1 H1 s1 => by
    cases c with
    | true => rw [if_pos rfl]; exact ha rfl σ N1 H1 _ s1.sr (fun _ _ _ _ x => x.elim) q2 (fun _ _ _ _ x => x.elim) (fun _ _ _ _ x => x.elim) q5
    | false => rw [if_neg Bool.false_ne_true]; exact hb rfl σ N1 H1 D s1.sr (fun ρ' σ' N' H' x m S' => q1 ρ' σ' N' H' x (s1.n.trans m) S') q2 (fun ρ' σ' N' H' x m S' => q3 ρ' σ' N' H' x (s1.n.trans m) S') (fun ρ' σ' N' H' x m S' => q4 ρ' σ' N' H' x (s1.n.trans m) S') q5
theorem s_flowN {f : S → List Sl} {G : R → Rk → PyData → List Sl → Prop} {fl : Fl S R} {kx : S → R} (h : EvS F Y ρ t (OF f G fl)) (hb : ∀ s, fl ≠ .brk s) (hu : ∀ s, fl = .go s → EvS F Y (f s) u (OTN G (kx s))) : EvS F Y ρ (tSeq t u) (OTN G (flT fl kx)) := fun σ N H D S q1 q2 q3 q4 q5 =>
  h σ N H _ S (fun ρ1 σ1 N1 H1 ⟨s, e, hm⟩ n S1 => by
    subst hm e
    exact hu s rfl σ1 N1 H1 D S1 (fun ρ' σ' N' H' x m S' => q1 ρ' σ' N' H' x (n.trans m) S') q2 (fun ρ' σ' N' H' x m S' => q3 ρ' σ' N' H' x (n.trans m) S') (fun ρ' σ' N' H' x m S' => q4 ρ' σ' N' H' x (n.trans m) S') q5) (fun rk d ρ' σ' N' H' v ⟨r, e, g⟩ => by subst e; exact q2 rk d ρ' σ' N' H' v g) (fun _ _ _ _ ⟨s, e, _⟩ => (hb s e).elim) (fun _ _ _ _ h => h.elim) (fun C fs ⟨r, e, g⟩ => by subst e; exact q5 C fs g)
theorem s_forNX {wi : TI} {g : TG} {tb : TS} {vs : List Nat} {bi : B} {kx : S → R} (xs : List α) (en : α → PyData) (f : S → List Sl) (ρb : α → S → List Sl) (G : R → Rk → PyData → List Sl → Prop) (fx : α → S → Fl S R) (J : Nat → S → Prop) (Jb : S → Prop) (s0 : S)
    (hi : EvI F ρ wi bi (xs.map en) ρ1) (w1 : Wk ρ1 (f s0)) (hJ : J 0 s0)
    (hg : ∀ i x s, xs[i]? = some x → J i s → EvG F vs g bi (en x) (f s) (ρb x s))
    (hb : ∀ i x s, xs[i]? = some x → J i s → EvS F Y (ρb x s) tb (OF f G (fx x s)))
    (hJs : ∀ i x s s', xs[i]? = some x → J i s → fx x s = .go s' → J (i + 1) s')
    (hJb : ∀ i x s s', xs[i]? = some x → J i s → fx x s = .brk s' → Jb s') (hJe : ∀ s, J xs.length s → Jb s)
    (hu : ∀ s, loopL fx xs s0 = .go s → Jb s → EvS F Y (f s) u (OTN G (kx s))) :
    EvS F Y ρ (tSeq (tFor wi g tb) u) (OTN G (flT (loopL fx xs s0) kx)) :=
  s_flowN (s_forF xs en f ρb G fx J s0 hi w1 hJ hg hb hJs) (loopL_nobrk xs s0) fun s e => hu s e
    (loopL_J (f := fx) (J := J) xs 0 s0 s (fun i x t t' h j => by rw [Nat.zero_add] at *; exact hJs i x t t' h j) (fun i x t t' h j => by rw [Nat.zero_add] at *; exact hJb i x t t' h j) (fun t ht => hJe t (by rw [Nat.zero_add] at ht; exact ht)) hJ e)
/-- raise C(n) -/
theorem s_raise1 {C : Addr} {f : Str} {n : Int} {t : TA} {sp : Sp} (hs : sp = spIni1 K f) (hio : F.IO = []) (ha : EvA F ρ t [(k, .int n)] ρ1) (T : OexC K C) (no : PySem.W.findIn K (.ref C) f = some none) (hO : O.er C [(f, .int n)]) :
    EvS F Y ρ (fun _ σ H => tMkO C sp [] t σ H fun cls d H' => (fun cls d (_ : St) H => Y cls d H) cls d σ H') O := fun σ N H D S _ _ _ _ q5 =>
  ha σ N H _ S fun vs N1 H1 s1 x1 => by
    subst hs
    have ev : vs = [.int n] := by
      cases vs with
      | nil => exact x1.elim
      | cons v vs =>
        cases vs with
        | nil => rw [(x1.1 : Hold F N1 ρ1 σ k v (.int n)).int]
        | cons _ _ => exact x1.2.elim
    subst ev
    refine ⟨by simp, fun a hn => ⟨a, C, .int n, rfl, T, no, upd_same, fun dx hd ne => ?_⟩⟩
    have hd1 : H1 dx = none := by rw [upd_ne ne] at hd; exact hd
    refine ⟨rfl, dx, [(f, .int n)], upd_same, by rw [upd_ne ne, upd_same], hd1, q5 C _ hO _ dx (fun b o e i => ?_) (s1.sr.freshH0 hd1) upd_same⟩
    have e1 := s1.sr.keep b o e i
    have n1 : b ≠ dx := fun z => by rw [z, hd1] at e1; cases e1
    have n2 : b ≠ a := fun z => by rw [z, hn] at e1; cases e1
    rw [upd_ne n1, del_ne n2, upd_ne n2, upd_ne n1, upd_ne n2]
    exact e1
/-- try: name = f(..) except C as e: (a suite that leaves); the rest -/
def exC (m : Ex γ) (k : γ → R) (h : Nat → List (Str × Int) → R) : R := match m with
  | .ok r => k r
  | .er c fs => h c fs
theorem s_try {G : R → Rk → PyData → List Sl → Prop} {sp : Sp} {t : TA} {l : List (Ek × PyData)} {cl : Nat → Addr} {en : γ → PyData} {m : Ex γ} {cv : Value} {i j : Nat} {ts : Addr → Value → Option Addr → TS} {Wout : WX} {kx : γ → R} {hx : Nat → List (Str × Int) → R}
    (ha : EvA F ρ t l ρ1) (hs : ∀ vs H Q E, spXF cl (.k b) en (l.map (·.2)) m vs H Q E → sp vs H Q E) (hb : b.free = true) (hm : ∀ c fs, m = .er c fs → PySem.W.exmOne K (.ref (cl c)) cv = some true)
    (hi : Nat.blt i ρ1.length = true) (hj : Nat.blt j ρ1.length = true)
    (hu : ∀ r, m = .ok r → EvS F Y (ρ1.set j (.v b (en r))) u (OT G (kx r)))
    (hv : ∀ c fs, m = .er c fs → ∀ a dd, EvS F Y (ρ1.set i (.ex (.ref a) [(dd, .xd (exf fs))])) (ts a (.ref (cl c)) (some dd)) (OT G (hx c fs))) :
    EvS F Y ρ (tSeq (fun D σ H => tAsg (tCallS sp (WE (wAs K cv i ts Wout D)) t) (gName j) D σ H) u) (OT G (exC m kx hx)) := fun σ N H D S q1 q2 q3 q4 q5 =>
  ha σ N H _ S fun vs N1 H1 s1 x1 => by
    refine hs _ _ _ _ ⟨H1, Same.refl _, x1.dvH s1.sr, fun r e v H2 Nc h hn nw rh => ?_, fun c fs e H2 dd h hd hx' => ?_⟩
    · subst e
      have s2 := Step.more s1.sr h hn nw
      have rv : Dv (rg F (join N1 Nc) b) v (en r) := by
        have rh : Dv (rg ⟨H1, e0, H1, []⟩ Nc b) v (en r) := rh
        rcases free_or hb with eb | eb
        · subst eb; exact rh
        · subst eb; exact Dv.mono (more_r s1.sr nw) rh
      have n2 := s1.n.trans s2.n
      exact hu r rfl (σ.set j (some v)) (join N1 Nc) H2 D (s2.sr.store (Nat.le_of_ble_eq_true hj) rv) (fun ρ' σ' N' H' x m S' => q1 ρ' σ' N' H' x (n2.trans m) S') q2 (fun ρ' σ' N' H' x m S' => q3 ρ' σ' N' H' x (n2.trans m) S') (fun ρ' σ' N' H' x m S' => q4 ρ' σ' N' H' x (n2.trans m) S') q5
    · subst e
      refine ⟨true, hm c fs rfl, fun _ a na => ?_, fun z => Bool.noConfusion z⟩
      have hdN : N1 dd = none := s1.sr.freshN hd
      have nN : Same N1 (upd N1 dd (.xd (exf fs))) := same_upd' hdN
      have g := s1.sr.grow nN h (fun b' o e => by
        by_cases z : b' = dd
        · subst z; rw [upd_same] at e; rw [hx']; exact e
        · rw [upd_ne z] at e; exact h _ _ (s1.sr.nH _ _ e)) (fun b' o e n => by
        by_cases z : b' = dd
        · subst z; exact hd
        · rw [upd_ne z, n] at e; cases e)
      have gs : SR F (upd N1 dd (.xd (exf fs))) (ρ1.set i (.ex (.ref a) [(dd, .xd (exf fs))])) (σ.set i (some (.ref a))) H2 := by
        have back : ∀ j q, OwnAt (ρ1.set i (.ex (.ref a) [(dd, .xd (exf fs))])) (σ.set i (some (.ref a))) j q → j ≠ i ∧ OwnAt ρ1 σ j q := fun j q ⟨⟨t, e, o⟩, hq⟩ => by
          by_cases hj : j = i
          · subst hj
            rw [List.getElem?_set_self (Nat.le_of_ble_eq_true hi)] at e
            cases e
            cases o
          · rw [List.getElem?_set_ne (Ne.symm hj)] at e hq
            exact ⟨hj, ⟨t, e, o⟩, hq⟩
        refine ⟨g.aH, g.bH, g.ioA, g.nH, g.nN, g.keep, g.ioH, by rw [List.length_set, List.length_set]; exact g.len, fun j t e => ?_, fun j1 j2 q h1 h2 => g.ap j1 j2 q (back _ _ h1).2 (back _ _ h2).2⟩
        by_cases hj : j = i
        · subst hj
          rw [List.getElem?_set_self (Nat.le_of_ble_eq_true hi)] at e
          cases e
          rw [List.getElem?_set_self (by rw [g.len]; exact Nat.le_of_ble_eq_true hi)]
          exact ⟨rfl, fun c hc => by
            rcases List.mem_cons.mp hc with z | z
            · subst z; exact upd_same
            · cases z⟩
        · rw [List.getElem?_set_ne (Ne.symm hj)] at e ⊢
          exact g.ok j t e
      exact hv c fs rfl a dd _ _ H2 _ gs (fun _ _ _ _ x => x.elim) q2 (fun _ _ _ _ x => x.elim) (fun _ _ _ _ x => x.elim) q5
/-- err.f -/
theorem e_xf {i : Nat} {a C dd : Addr} {f : Str} {fs : List (Str × Int)} {n : Int} (hx : ρ[i]? = some (.ex (.ref a) [(dd, .xd (exf fs))])) (hl : (exf fs).lookup f = some (.int n)) : EvE F ρ (tXf a (.ref C) (some dd) C f (tVar i)) (.k .sc) (.int n) ρ := fun σ N H Q S q => by
  obtain ⟨e1, e2⟩ := S.ok i _ hx
  exact ⟨_, join_some e1, rfl, rfl, dd, _, _, rfl, S.nH _ _ (e2 _ (List.mem_cons_self ..)), hl, q _ N H (Step.refl S) (Dv.int n)⟩
/-- isinstance(err, c) -/
def rIsX (K : PySem.W.Frag) (a : Addr) (cls : Value) (d : Option Addr) : List V → Hp → VK → Prop := fun xs H Q => ∃ (D dd : Addr) (fs : List (Str × V)) (c : V) (cv : Value) (b : Bool), xs = [.ref a, c] ∧ cls = .ref D ∧ d = some dd ∧ H dd = some (.xd fs) ∧ ExcC K D ∧ (∀ u, RelV c u → u = cv) ∧ PySem.W.kitOne K (.ref D) cv = some b ∧ Q (.bl b) H
theorem call_isX {X : Cx} {a : Addr} {cls : Value} {d : Option Addr} {oe : Obj} {pn : List (Addr × Obj)} (hz : Zc cls d oe) (hf : ∃ vs, oe.data = .fields vs) (hk : X.K = K := by rfl) : CallR (X.suite a ((a, oe) :: pn)) (.builtin "isinstance") (rIsX K a cls d) := by
  subst hk
  intro pins s σ H xs us Q I r h
  obtain ⟨D, dd, fs, c, cv, b, rfl, rfl, rfl, hdd, C, hcv, e, q⟩ := h
  cases r with
  | cons rx rr =>
    cases rr with
    | cons rt rr =>
      cases rr
      cases rx
      have ec := hcv _ rt
      subst ec
      obtain ⟨hget, _⟩ := I.pin (a, oe) (List.mem_append_left _ List.mem_cons_self)
      obtain ⟨vs, hv⟩ := hf
      have hx : ObjOk X.prog X.w H s.heap dd (.xd fs) := I.hok dd _ hdd
      obtain ⟨mA, hns, _⟩ := hx
      obtain ⟨od, ho, hl⟩ := lookIn_ns hns
      have J : PySem.W.InstAt s.heap a oe D (some od) := ⟨hget, hz.1, by unfold PySem.W.notCls; rw [hv] <;> rfl, by rw [hz.2]; exact ho⟩
      have fnd := PySem.W.findObj_data (od := od) (by obtain ⟨cd, hc, _⟩ := PySem.W.any_some C.hd; rw [hc]; rfl) C.ha C.hn C.ht
      exact PySem.W.kia_one (PySem.W.tp_kit C (some od) fnd) I.kIn J e (fun z => nomatch z) fun tk => ⟨.bl b, H, I.kept (t' := tk) fun _ _ z => z, rfl, q⟩
theorem e_isX {i : Nat} {a D dd : Addr} {fs : List (Str × Int)} {c : V} {cv : Value} {b : Bool} (hx : ρ[i]? = some (.ex (.ref a) [(dd, .xd (exf fs))])) (C : ExcC K D) (hcv : ∀ u, RelV c u → u = cv) (e : PySem.W.kitOne K (.ref D) cv = some b) :
    EvE F ρ (tCB (rIsX K a (.ref D) (some dd)) (tCons (tVar i) (tCons (tC c) tNil))) (.k .sc) (.bool b) ρ := fun σ N H Q S q => by
  obtain ⟨e1, e2⟩ := S.ok i _ hx
  exact ⟨_, join_some e1, D, dd, _, c, cv, b, rfl, rfl, rfl, S.nH _ _ (e2 _ (List.mem_cons_self ..)), C, hcv, e, q _ N H (Step.refl S) (Dv.bl b)⟩
theorem rel_ref {C : Addr} : ∀ u, RelV (.ref C) u → u = .ref C := fun u h => h
theorem rel_ty {x : String} : ∀ u, RelV (.ty x) u → u = .type x := fun u h => h
end
end TP

/-! own exceptions whose context is told; calls within a suite; spoiling; the feed of a law -/
namespace TP
open PySem PySem.Spec L2 PyProof.Rows
section
variable {X : Cx} {e : Expr} {es : List Expr} {ta : TA} {p pos : Pos}
/-- C(e, ..), its context None -/
theorem pmk_ini {CXi : CXT} {x : Str} {C fI : Addr} {k : Nat} {fd : FuncData} {ps : List Str} {sp : Sp} (T : OexC X.K C) (hinit : PySem.W.findIn X.K (.ref C) "__init__" = some (some (.ref fI))) (hfn : PySem.W.typeIn X.K (.ref fI) = some (.type "function"))
    (FI : FnOk X.prog X.w X.K X.mg X.base CXi k fI fd ps sp) (room : Room (k + 1) X.A) (bnds : L2.Binds X.K fd ps []) (pass : Passes CXi X (fun _ _ _ => False)) (glob : Gl X x) (here : X.mg x = some (.ref C)) (args : PA X (e :: es) ta)
    (dbg : (x == ("__debug__" : Str)) = false := by decide) (stars : starEach (e :: es) X.env = (false, eval e X.env) :: starEach es X.env := by rfl) (plain : (backTo pos (starEach es X.env)).any (·.1) = false := by rfl) :
    L2N.PMk X (.Call (.Name x p) (e :: es) [] pos) (tMkO C sp [] ta) := by
  intro pins s σ H Q I want
  have T' := T
  obtain ⟨nm, q, N, bs, bm, sn, sub, ab, col, dd, k0, k1, k2, k3, k5, look, hbm⟩ := T'.cls
  refine wpAny_Call_Name_kw (ld_glob I glob here ?_ dbg)
  refine PySem.W.callWith_K (h₀ := X.base) I.ok.mod.kin T.kC ?_ stars plain
  refine thn (args.run pos pins s σ H _ I want) fun us s1 got => ?_
  obtain ⟨vs, H1, J1, vals, few, next⟩ := got
  refine ⟨J1.kIn, ?_⟩
  show wpAny _ _ (call (.ref C) us) _ _ _
  rcases s1 with ⟨hp, gs, dr, tk, os⟩
  have at1 : hp.objs.size ≤ hp.objs.size + 1 := Nat.le_succ _
  have spFits := next (hp.objs.size + 1) (J1.hok.fresh at1)
  rw [List.append_nil] at spFits
  have old : ∀ b o, hp.get? b = some o → ((hp.push (PySem.W.kdv_tup us)).push (PySem.HandSPX.excO C hp.objs.size)).get? b = some o := fun b o z => by
    refine Heap.get?_push_of_some _ ?_
    exact Heap.get?_push_of_some _ z
  have there : ((hp.push (PySem.W.kdv_tup us)).push (PySem.HandSPX.excO C hp.objs.size)).get? (hp.objs.size + 1) = some (PySem.HandSPX.excO C hp.objs.size) := by
    heap_get
  have J2 : Inv X pins σ (upd H1 (hp.objs.size + 1) (exo (hp.objs.size + 1) C none)) ⟨(hp.push (PySem.W.kdv_tup us)).push (PySem.HandSPX.excO C hp.objs.size), gs, dr, tk, os⟩ :=
    J1.laid (h' := (hp.push (PySem.W.kdv_tup us)).push (PySem.HandSPX.excO C hp.objs.size)) (t' := tk) (a := hp.objs.size + 1) (o := exo (hp.objs.size + 1) C none) old at1 (exo_ok there)
  have vals2 : Vals (V.ref (hp.objs.size + 1) :: vs) (Value.ref (hp.objs.size + 1) :: us) := Paired.cons rfl vals
  have many : (Value.ref (hp.objs.size + 1) :: us ++ []).length = ps.length := by
    rw [List.append_nil, ← FI.len _ _ _ _ spFits]
    exact vals2.length.symm
  have bnd2 := bnds _ (Value.ref (hp.objs.size + 1) :: us) J2.kIn many
  rw [List.append_nil] at bnd2
  have short : us.length ≤ sizeLine := by
    have z := Paired.length vals
    rw [sizeLine_eq]
    omega
  have run := FI.run _ X.stack _ _ ⟨Value.ref (hp.objs.size + 1) :: us, []⟩ (Value.ref (hp.objs.size + 1) :: us) _ _ (fun _ _ _ => False) (room.make C us []) (J2.env0.make C us []) bnd2 vals2 spFits
  refine wpAny_call (PySem.HandSPX.call_own F.excBase_ValueError (fun Y => PySem.HandSPX.refsVE_contains Y bm hbm) (J1.kIn _ _ look) (PySem.W.looks_findIn J1.kIn hinit) (fun self => PySem.W.bind_fn J1.kIn self hfn) short (codeAny_mono run fun r s' told => ?_))
  cases r with
  | error er => exact pass pins σ _ _ er s' J2 told
  | ok fl =>
    cases fl with
    | next => exact told.elim
    | brk => exact told.elim
    | cont => exact told.elim
    | ret u =>
      obtain ⟨v, H2, os2, bare2, un2, hok2, rv, isNon, d, fs, ea, ed, hd1, fin⟩ := told
      subst isNon
      rcases s' with ⟨h2, g2, d2, t2, os'⟩
      refine ⟨rv, ?_⟩
      obtain ⟨t0, G, J, keepG, goneG, obj, na⟩ := mk_end0 (d2 := d2) (t2 := t2) J1 at1 old un2 hok2 os2 bare2 ea ed hd1
      refine ⟨_, _, _, ⟨G, g2, d2, t2, os'⟩, _, .ref C, some d, rfl, J, keepG, goneG, obj, ⟨rfl, rfl, ?_⟩, rfl, rfl, na, rfl, bare2, raises_own T.exC T.tyC, fin⟩
      intro ws ew
      have ew := PySem.Data.fields.inj ew
      subst ew
      rfl
end
/-- the class's __init__ as a raise sees it -/
structure IniOk (P : Program) (w : World) (K : PySem.W.Frag) (mg : Str → Option Value) (base : Heap) (C fI : Addr) (fd : FuncData) (ps : List Str) (sp : Sp) : Prop where
  ok : FnOk P w K mg base CX0 1 fI fd ps sp
  iC : PySem.W.findIn K (.ref C) "__init__" = some (some (.ref fI))
  tI : PySem.W.typeIn K (.ref fI) = some (.type "function")
  bd : L2.Binds K fd ps []
/-- a def that may raise, as a caller sees it -/
structure CalX (P : Program) (w : World) (K : PySem.W.Frag) (mg : Str → Option Value) (base : Heap) (x : Str) (k : Nat) (f : Addr) (fd : FuncData) (ps : List Str) (sp : Sp) : Prop where
  ok : FnOk P w K mg base (L2N.CX P w) k f fd ps sp
  gl : mg x = some (.ref f)
  kp : PySem.W.keepIn K (.ref f) = true
  bd : L2.Binds K fd ps []
/-- a def as a suite sees it -/
structure CalH (P : Program) (w : World) (K : PySem.W.Frag) (mg : Str → Option Value) (base : Heap) (x : Str) (k : Nat) (f : Addr) (fd : FuncData) (ps : List Str) (sp : Sp) : Prop where
  ok : L2H.FnH P w K mg base CX0 k f fd ps sp
  gl : mg x = some (.ref f)
  kp : PySem.W.keepIn K (.ref f) = true
  bd : L2.Binds K fd ps []
theorem passLN {X : Cx} : ∀ σ, PassesAt CX0 X σ (fun _ _ _ => False) := fun _ _ _ _ _ _ _ z => z.elim
theorem hot_of {X : Cx} {a : Addr} {oe : Obj} {cls : Value} {d : Option Addr} {pn : List (Addr × Obj)} (hz : L2N.Zn cls d oe) (hf : ∃ vs, oe.data = .fields vs) : L2H.HotC (X.suite a ((a, oe) :: pn)) := by
  obtain ⟨vs, e⟩ := hf
  exact ⟨(a, oe), ⟨rfl, vs, e, hz.2.2 vs e⟩, List.mem_cons_self ..⟩
theorem roomH_su {X : Cx} {k : Nat} {a : Addr} {pn : List (Addr × Obj)} (r : Room k X.A) : L2H.RoomH k (X.suite a pn).A := ⟨r.dp, r.un⟩
theorem k_eqH {X : Cx} (K : PySem.W.Frag) {j : Nat} (hr : L2H.RoomH j X.A) (h : X.K = K := by rfl) : OpR X (compareOp .Eq) (rEqP K) := by
  subst h
  intro pins s σ H x y v u Q I rx ry h
  obtain ⟨d, e, hd, he, hl, q⟩ := h
  obtain ⟨as, r1⟩ := Dp.reads I d x v hd rx
  obtain ⟨bs, r2⟩ := Dp.reads I e y u he ry
  have hu := hr.un
  exact PySem.SeqAt.eq_plain r1 r2 (Dp.plain hd) (Dp.plain he) (by omega) ⟨.bl _, H, I, rfl, q⟩
/-- f(e, ..) within a suite -/
theorem k_callH {X : Cx} {x : Str} {k j : Nat} {f : Addr} {fd : FuncData} {ps : List Str} {sp : Sp} {p pos : Pos} {e : Expr} {es : List Expr} {ta : TA} (C : CalH X.prog X.w X.K X.mg X.base x k f fd ps sp) (hr : L2H.RoomH j X.A) (hc : L2H.HotC X) (ha : PA X (e :: es) ta) (hj : k ≤ j := by decide) (hg : Gl X x := by rfl)
    (hdb : (x == ("__debug__" : Str)) = false := by decide) (he : starEach (e :: es) X.env = (false, eval e X.env) :: starEach es X.env := by rfl) (hpl : (backTo pos (starEach es X.env)).any (·.1) = false := by rfl) :
    PE X (.Call (.Name x p) (e :: es) [] pos) (tCallS sp (fun _ => E0) ta) := L2H.pe_callH C.ok (hr.mono hj) hc hg C.gl C.kp C.bd (fun σ _ _ _ _ _ _ z => z.elim) ha hdb he hpl
section
variable {F : Fm} {Y : XK} {ρ ρ' ρ1 ρ2 ρ3 ρ4 : List Sl} {ta tb tc te ti : TE} {k ka kb kc : Ek} {d d1 d2 : PyData} {ds es : List PyData} {b b' b1 b2 : B} {K : PySem.W.Frag} {t u : TS} {O : Out} {α β γ S S' R : Type} {e : α → PyData} {xs ys : List α} {P : Program} {w : World} {mg : Str → Option Value} {base : Heap}
/-- such a call is one like others -/
theorem e_callH {sp : Sp} {t : TA} {l : List (Ek × PyData)} {E : XK} (ha : EvA F ρ t l ρ1) (hs : ∀ vs H Q E, spF (.k b) (l.map (·.2)) d vs H Q E → sp vs H Q E) (hb : b.free = true := by rfl) : EvE F ρ (tCallS sp (fun _ => E) t) (.k b) d ρ1 := by
  have h := e_call (E := E) ha hs hb
  intro σ N H Q S q
  have := h σ N H Q S q
  unfold tCall at this
  simp only [List.append_nil] at this
  exact this
/-- THE RULE for a def within a suite -/
theorem fn_H {x qual : Str} {st : Stmt} {f : Addr} {fd : FuncData} {Nm ps : List Str} {k n : Nat} {rk : Rk} (Fn : Fun K x qual st f fd) (Sc : FnScope Nm ps (defScope st)) (hl : ds.length = ps.length := by rfl) (hn : Nm.length = ps.length + n := by rfl)
    (hb : ∀ (cdv : Value) (A : Around) (outer : List Env) (s : Shared) (H : Hp) (E : XK) (p : Addr × Obj), L2H.RoomH k (A.deeper (PyProof.Rows.envOfC qual (defScope st) s.heap.objs.size f cdv)) →
      ∃ t, PSs (L2H.cxH CX0 P w K mg base Nm qual (defScope st) f cdv A outer s H E p) (defBody st) t ∧ ∀ A0, EvS ⟨A0, e0, H, []⟩ E (sl0 ds n) t (OD rk d)) :
    L2H.FnH P w K mg base CX0 (k + 1) f fd ps (spF rk ds d) := by
  obtain ⟨oc, od, kV, doc, pm, an, cdv, ct, osl, rfl, lk, hcd⟩ := Fn.ex
  refine L2H.fn_ofH lk hcd Sc (fun vs H Q E h => ?_) (fun A outer s H vs Q E p hot hr h => ?_)
  · obtain ⟨A, hA, r, _⟩ := h
    rw [r.len]; exact hl
  · obtain ⟨A0, hA, r, q⟩ := h
    obtain ⟨t, ht, ev⟩ := hb cdv A outer s H E p hr
    refine ⟨t, ht, ?_⟩
    rw [start_eq (n := n) (by rw [r.len, hl]; exact hn)]
    have S0 := sr_start0 (n := n) hA r
    refine ev A0 _ e0 H _ S0 (fun ρ' σ' N' H' x m S' => ?_) (fun rk' d' ρ' σ' N' H' v x S' hv => ?_) (fun _ _ _ _ h => h.elim) (fun _ _ _ _ h => h.elim) (fun _ _ h => h.elim)
    · obtain ⟨e1, e2⟩ := x
      subst e1 e2
      exact q .non H' N' (fun a o e => S'.keep a o e (by simp)) S'.nH S'.nN Dv.non
    · obtain ⟨e1, e2⟩ := x
      subst e1 e2
      exact q v H' N' (fun a o e => S'.keep a o e (by simp)) S'.nH S'.nN hv
theorem FnH.all {D : α → Prop} {enA : α → List PyData} {rk : Rk} {enR : α → PyData} {CX : CXT} {k : Nat} {f : Addr} {fd : FuncData} {ps : List Str} (h : ∀ a, D a → L2H.FnH P w K mg base CX k f fd ps (spF rk (enA a) (enR a))) : L2H.FnH P w K mg base CX k f fd ps (spFn D enA rk enR) :=
  ⟨fun vs H Q E ⟨a, hd, x⟩ => (h a hd).len vs H Q E x, fun A outer s H args us vs Q E p hr h1 h2 e0 hb hv ⟨a, hd, x⟩ => (h a hd).run A outer s H args us vs Q E p hr h1 h2 e0 hb hv x⟩
/-- THE RULE for a def that may raise, its exception's context told -/
theorem fn_N {x qual : Str} {st : Stmt} {f : Addr} {fd : FuncData} {Nm ps : List Str} {k n : Nat} {rk : Rk} {cl : Nat → Addr} {en : γ → PyData} {m : Ex γ} (Fn : Fun K x qual st f fd) (Sc : FnScope Nm ps (defScope st)) (hk : ∀ C fs, rk ≠ .er C fs := by intro _ _ h; cases h) (hl : ds.length = ps.length := by rfl) (hn : Nm.length = ps.length + n := by rfl)
    (hb : ∀ (cdv : Value) (A : Around) (outer : List Env) (s : Shared) (H : Hp) (E : XK), Room k (A.deeper (PyProof.Rows.envOfC qual (defScope st) s.heap.objs.size f cdv)) →
      ∃ t, PSs (cxOf (L2N.CX P w) P w K mg base Nm qual (defScope st) f cdv A outer s H E) (defBody st) t ∧ ∀ A0, EvS ⟨A0, e0, H, []⟩ E (sl0 ds n) t (OTN (GX cl rk en) m)) :
    FnOk P w K mg base (L2N.CX P w) (k + 1) f fd ps (spXF cl rk en ds m) := by
  obtain ⟨oc, od, kV, doc, pm, an, cdv, ct, osl, rfl, lk, hcd⟩ := Fn.ex
  refine fn_of lk hcd Sc (fun vs H Q E h => ?_) (fun A outer s H vs Q E hr h => ?_)
  · obtain ⟨A, hA, r, _⟩ := h
    rw [r.len]; exact hl
  · obtain ⟨A0, hA, r, q, qe⟩ := h
    obtain ⟨t, ht, ev⟩ := hb cdv A outer s H E hr
    refine ⟨t, ht, ?_⟩
    rw [start_eq (n := n) (by rw [r.len, hl]; exact hn)]
    have S0 := sr_start0 (n := n) hA r
    refine ev A0 _ e0 H _ S0 (fun ρ' σ' N' H' x m S' => ?_) (fun rk' d' ρ' σ' N' H' v x S' hv => ?_) (fun _ _ _ _ h => h.elim) (fun _ _ _ _ h => h.elim) (fun C fs x H' d kp hd hx => ?_)
    · cases m' : (‹Ex γ›) with
      | ok r' =>
        subst m'
        obtain ⟨e1, e2⟩ := x
        refine q r' rfl .non H' N' (fun a o e => S'.keep a o e (by simp)) S'.nH S'.nN ?_
        rw [← e1, ← e2]
        exact Dv.non
      | er c fs =>
        subst m'
        have x : Rk.k .sc = .er (cl c) (exf fs) := x
        cases x
    · cases m' : (‹Ex γ›) with
      | ok r' =>
        subst m'
        obtain ⟨e1, e2⟩ := x
        subst e1 e2
        exact q r' rfl v H' N' (fun a o e => S'.keep a o e (by simp)) S'.nH S'.nN hv
      | er c fs =>
        subst m'
        have x : rk' = .er (cl c) (exf fs) := x
        subst x
        exact hv.elim
    · cases m' : (‹Ex γ›) with
      | ok r' =>
        subst m'
        exact (hk C fs x.1.symm).elim
      | er c fs' =>
        subst m'
        have x : Rk.er C fs = .er (cl c) (exf fs') := x
        cases x
        exact qe c fs' rfl H' d (fun a o e => kp a o e (by simp)) hd hx
theorem lookup1 (f : Str) (n : Int) : (exf [(f, n)]).lookup f = some (.int n) := by simp [exf, List.lookup]
def xn (fs : List (Str × Int)) : Int := match fs with
  | (_, n) :: _ => n
  | [] => 0
theorem xl_of {f : Str} {fs : List (Str × Int)} (h : ∃ n, fs = [(f, n)]) : (exf fs).lookup f = some (.int (xn fs)) := by
  obtain ⟨n, e⟩ := h
  subst e
  exact lookup1 f n
theorem takesN0 {X : Cx} : L2N.Takes X (fun _ _ _ _ => False) := fun _ _ x => by
  obtain ⟨_, _, _, _, _, _, _, _, _, _, _, _, _, _, _, _, z⟩ := x
  exact z.elim
/-- the arguments of a call, all out of what may be held, of which the list in slot i may change -/
def ArsV (i : Nat) : List (Ek × PyData) → List Ar → Prop
  | [], [] => True
  | (.k b, d) :: l, .d d' :: as => d' = d ∧ B.le b .val = true ∧ ArsV i l as
  | (.bor j _, .list es) :: l, .io es' :: as => j = i ∧ es' = es ∧ ArsV i l as
  | _, _ => False
theorem ArsV.ok {N H : Hp} {σ : L2.St} (S : SR F N ρ σ H) {i : Nat} {s : Sl} {p : Addr} {vs0 : List V} (hi : ρ[i]? = some s) (hc : s.cont = some (b, ds)) (hp : OwnAt ρ σ i p) (h0 : H p = some (.lst vs0)) (r0 : DvL (rg F N b) vs0 ds) :
    ∀ {l : List (Ek × PyData)} {as : List Ar} {vs : List V}, HoldL F N ρ σ l vs → ArsV i l as → ArL (rg F N .val) (rg F N b) H p vs as
  | [], [], [], _, _ => trivial
  | (.k b', d) :: l, .d d' :: as, v :: vs, h, a => by
    obtain ⟨e, lb, a⟩ := a
    subst e
    exact ⟨Dv.mono (S.sub lb) h.1, ArsV.ok S hi hc hp h0 r0 h.2 a⟩
  | (.bor j b', .list es) :: l, .io es' :: as, v :: vs, h, a => by
    obtain ⟨e, e', a⟩ := a
    subst e e'
    refine ⟨?_, ArsV.ok S hi hc hp h0 r0 h.2 a⟩
    obtain ⟨h1, ds', e2, h3⟩ := h.1
    cases e2
    have e4 := h1.symm.trans hp.2
    cases e4
    refine ⟨rfl, vs0, h0, ?_⟩
    have : s = .own b' es' ∨ ∃ q, s = .io q b' es' := by
      rcases h3 with h3 | ⟨q, h3⟩
      · exact .inl (Option.some.inj (hi.symm.trans h3))
      · exact .inr ⟨q, Option.some.inj (hi.symm.trans h3)⟩
    rcases this with e | ⟨q, e⟩ <;> (subst e; cases hc; exact r0)
  | [], _ :: _, _, _, a => a.elim
  | (.k _, _) :: _, [], _, _, a => a.elim
  | (.k _, _) :: _, .io _ :: _, _, _, a => a.elim
  | (.bor _ _, .list _) :: _, [], _, _, a => a.elim
  | (.bor _ _, .list _) :: _, .d _ :: _, _, _, a => a.elim
  | (.bor _ _, .none) :: _, _, _, _, a => by cases ‹List Ar› <;> exact a.elim
  | (.bor _ _, .bool _) :: _, _, _, _, a => by cases ‹List Ar› <;> exact a.elim
  | (.bor _ _, .int _) :: _, _, _, _, a => by cases ‹List Ar› <;> exact a.elim
  | (.bor _ _, .str _) :: _, _, _, _, a => by cases ‹List Ar› <;> exact a.elim
  | (.bor _ _, .tuple _) :: _, _, _, _, a => by cases ‹List Ar› <;> exact a.elim
  | (.bor _ _, .dict _) :: _, _, _, _, a => by cases ‹List Ar› <;> exact a.elim
  | [], [], _ :: _, h, _ => h.elim
  | (_, _) :: _, _, [], h, _ => h.elim
/-- a call whose new list may hold what was given, one list changed -/
theorem o_callJV {i : Nat} {s : Sl} {as : List Ar} {ess es' : List PyData} {bc b2 : B} {dsi : List PyData} {sp : Sp} {t : TA} {l : List (Ek × PyData)} {E : XK} (ha : EvA F ρ t l ρ1) (hi : ρ1[i]? = some s) (hc : s.cont = some (bc, dsi)) (hρ : ρ2 = ρ1.set i (s.put es')) (har : ArsV i l as) (hs : ∀ vs H Q E, spI (.own b2) as (.list ess) es' vs H Q E → sp vs H Q E) (hb : B.le b2 .val = true := by rfl) :
    EvO F ρ (tCall sp [] E t) .val ess ρ2 := fun σ N H Q S q => by
  subst hρ
  refine ha σ N H _ S fun vs N1 H1 s1 x1 => ?_
  rw [List.append_nil]
  obtain ⟨p, vs0, hσ, h0, r0, hp⟩ := s1.sr.cell hi hc
  refine hs _ _ _ _ ⟨rg F N1 .val, rg F N1 bc, p, s1.sr.rgH .val, s1.sr.rgH bc, s1.sr.ownRg hp .val, s1.sr.ownRg hp bc, ⟨_, h0⟩, ArsV.ok s1.sr hi hc hp h0 r0 x1 har, fun v H2 Nc h hn nw r hq => ?_⟩
  obtain ⟨ws, hq, rq⟩ := hq
  obtain ⟨p2, ws2, es2, e1, e2, e3, e4, e5, r⟩ := r
  cases e2
  subst e1
  have hp2 : H1 p2 = none := e5
  have s2 := Step.io s1.sr hi hc hp h hn nw hq rq
  refine q p2 ws2 _ H2 (s1.trans s2) (fresh_back s1 hp2) e3 ?_ ?_
  · unfold join; rw [s1.sr.freshN hp2]; exact e4
  · have g1 : Same (rg F N1 .val) (rg F (join N1 Nc) .val) := rg_mono s2.n .val
    have g2 : Same Nc (rg F (join N1 Nc) .val) := (more_r s1.sr nw).trans (same_join_r s2.sr.dis)
    have g3 : Same (join (rg F N1 .val) Nc) (rg F (join N1 Nc) .val) := fun a o e => by
      unfold join at e
      split at e
      · rename_i u hu; exact g1 a o (by rw [← e]; exact hu)
      · exact g2 a o e
    cases b2 with
    | sc => exact DvL.mono (same_e0 _) r
    | out => exact DvL.mono g1 r
    | new => exact DvL.mono g2 r
    | val => exact DvL.mono g3 r
    | iob => cases hb
/-! ### spoiling -/
def dn : Sl → Sl
  | .v .new _ => .no
  | .v .val _ => .no
  | .own .new _ => .no
  | .own .val _ => .no
  | .io _ _ _ => .no
  | .ex _ _ => .no
  | s => s
theorem dn_own {s : Sl} (h : (dn s).isOwn = true) : dn s = s := by
  cases s with
  | own b ds => cases b <;> first | rfl | cases h
  | v b d => cases b <;> first | rfl | cases h
  | no => rfl
  | io _ _ _ => cases h
  | ex _ _ => cases h
/-- xs.append(e), xs a part of what was made here: what was made is no more known -/
theorem s_spoil {G : R → Rk → PyData → List Sl → Prop} {i : Nat} {r : R} (hio : F.IO = []) (hx : ρ[i]? = some (.v .new (.list ds))) (h : EvE F ρ te k d ρ1) (hx1 : ρ1[i]? = some (.v .new (.list ds))) (hz : ds.length < sizeLine) (hρ : ρ2 = ρ1.map dn) (hu : EvS F Y ρ2 u (OT G r)) :
    EvS F Y ρ (tSeq (tDrop (tBM K "list" rAppend (tVar i) (tCons te tNil))) u) (OT G r) := fun σ N H D S q1 q2 q3 q4 q5 => by
  subst hρ
  obtain ⟨w0, e0', r0⟩ := S.ok i _ hx
  have r0' : Dv N w0 (.list ds) := r0
  obtain ⟨p, vs, rfl, hp, rv⟩ := Dv.lst_inv r0'
  have e0' := join_some e0'
  refine ⟨.ref p, e0', tyV_list (S.nH _ _ hp), h σ N H _ S fun v N1 H1 s1 x1 => ?_⟩
  have hp1 : H1 p = some (.lst vs) := s1.sr.nH _ _ (s1.n _ _ hp)
  refine ⟨p, vs, v, rfl, rfl, hp1, by rw [rv.len]; exact hz, ?_⟩
  have hNp : N1 p = some (.lst vs) := s1.n _ _ hp
  have h0p : F.H0 p = none := s1.sr.nN _ _ hNp
  have back : ∀ j q, OwnAt (ρ1.map dn) σ j q → OwnAt ρ1 σ j q := fun j q ⟨⟨t, e, o⟩, hq⟩ => by
    rw [List.getElem?_map] at e
    cases z : ρ1[j]? with
    | none => rw [z] at e; cases e
    | some s =>
      rw [z] at e
      have e : dn s = t := Option.some.inj e
      subst e
      exact ⟨⟨s, z, by rw [dn_own o] at o; exact o⟩, hq⟩
  have S2 : SR F TP.e0 (ρ1.map dn) σ (upd H1 p (.lst (vs ++ [v]))) := by
    refine ⟨s1.sr.aH, s1.sr.bH, s1.sr.ioA, same_e0 _, fun a o e => (by cases e), fun a o e i => ?_, fun q hq => ?_, by rw [List.length_map]; exact s1.sr.len, fun j t e => ?_, fun j1 j2 q h1 h2 => s1.sr.ap j1 j2 q (back _ _ h1) (back _ _ h2)⟩
    · rw [upd_ne fun z => by rw [z, h0p] at e; cases e]
      exact s1.sr.keep a o e i
    · rw [hio] at hq; cases hq
    · rw [List.getElem?_map] at e
      cases z : ρ1[j]? with
      | none => rw [z] at e; cases e
      | some s =>
        rw [z] at e
        have e : dn s = t := Option.some.inj e
        subst e
        have kk := s1.sr.ok j _ z
        cases s with
        | no => trivial
        | io _ _ _ => trivial
        | ex _ _ => trivial
        | v b d =>
          cases b with
          | sc => exact kk
          | out => exact kk
          | iob => exact kk
          | new => trivial
          | val => trivial
        | own b ds' =>
          have hne : ∀ q ws, σ[j]?.join = some (V.ref q) → N1 q = none → H1 q = some (.lst ws) → (upd H1 p (.lst (vs ++ [v]))) q = some (.lst ws) := fun q ws _ hn hq => by
            rw [upd_ne fun z => by rw [z, hNp] at hn; cases hn]
            exact hq
          cases b with
          | sc =>
            obtain ⟨q, ws, f1, f2, f3, f4, f5⟩ := kk
            exact ⟨q, ws, f1, hne q ws f1 f3 f2, rfl, f4, f5⟩
          | out =>
            obtain ⟨q, ws, f1, f2, f3, f4, f5⟩ := kk
            exact ⟨q, ws, f1, hne q ws f1 f3 f2, rfl, f4, f5⟩
          | iob =>
            obtain ⟨q, ws, f1, f2, f3, f4, f5⟩ := kk
            exact ⟨q, ws, f1, hne q ws f1 f3 f2, rfl, f4, f5⟩
          | new => trivial
          | val => trivial
  exact hu σ TP.e0 _ D S2 (fun _ _ _ _ x => x.elim) q2 (fun _ _ _ _ x => x.elim) (fun _ _ _ _ x => x.elim) q5

/-! ### the law's script -/
def spFeed (K : PySem.W.Frag) : Sp := fun vs H Q _ => ∃ (a : Addr) (ns : List Int), vs = [.ref a] ∧ SqL K H a (ns.map V.int) ∧ ns.length ≤ 63 ∧
  ∀ p q H', Same H H' → H p = none → H q = none → H' q = some (.lst (ns.map V.int)) → H' p = some (.lst [.ref q, .int 0, .int 0, .int 1]) → p ≠ q → Q (.ref p) H'
theorem feed_pure {K : PySem.W.Frag} {vs : List V} {H : Hp} {Q : VK} {E : XK} {N : List Str} (hN : N.length = 1) (h : spFeed K vs H Q E) :
    tRet (tLst (tCons (tCB (rListOf K) (tCons (tVar 0) tNil)) (tCons (tC (.int 0)) (tCons (tC (.int 0)) (tCons (tC (.int 1)) tNil))))) { nx := fun _ H' => Q .non H', rt := Q } (L2.start N vs) H := by
  obtain ⟨a, ns, rfl, hS, hl, k⟩ := h
  have e : L2.start N [V.ref a] = [some (V.ref a)] := by
    unfold L2.start
    rw [hN]
    rfl
  rw [e]
  refine ⟨.ref a, rfl, a, ns.map V.int, rfl, .inl hS, fun q hq => ⟨by show 4 ≤ sizeLine; rw [sizeLine_eq]; decide, fun p hp => ?_⟩⟩
  have hpq : p ≠ q := fun z => by rw [z, upd_same] at hp; cases hp
  have hp0 : H p = none := by rw [upd_ne hpq] at hp; exact hp
  exact k p q _ (fun b o e => by rw [upd_ne (ne_of_none e hp0), upd_ne (ne_of_none e hq)]; exact e) hp0 hq (by rw [upd_ne hpq.symm, upd_same]) upd_same hpq
theorem dvl_ints : ∀ ns : List Int, DvL TP.e0 (ns.map V.int) (ns.map eI)
  | [] => .nil
  | n :: r => .cons (.int n) (dvl_ints r)
theorem s_feed {γ' : Type} {O : γ' → Out} {Fx : Fd → γ'} {i j : Nat} {a : Addr} {ns : List Int} {feed : Fd} {sp : Sp} {E : XK} (hs : sp = spFeed K) (hio : F.IO = []) (hx : ρ[i]? = some (.ex (.ref a) [])) (hS : SqL K F.H0 a (ns.map V.int)) (hl : ns.length ≤ 63) (hf : feed.raw = (ns, 0, 0, 1)) (hj : Nat.blt j ρ.length = true)
    (hu : ∀ y, y = feed → EvS F Y (ρ.set j (.own .new (encF y))) u (O (Fx y))) : EvS F Y ρ (tSeq (tAsg (tCall sp [] E (tCons (tVar i) tNil)) (gName j)) u) (O (bnd feed Fx)) := fun σ N H D S q1 q2 q3 q4 q5 => by
  subst hs
  obtain ⟨e1, _⟩ := S.ok i _ hx
  have same0 : Same F.H0 H := fun b o e => S.keep b o e (by rw [hio]; simp)
  refine ⟨.ref a, join_some e1, a, ns, rfl, same0.seq hS, hl, fun p q H' hh hp hq h1 h2 hpq => ?_⟩
  have hqN : N q = none := S.freshN hq
  have nN : Same N (upd N q (.lst (ns.map V.int))) := same_upd' hqN
  have g := S.grow nN hh (fun b o e => by
    by_cases z : b = q
    · subst z; rw [upd_same] at e; rw [h1]; exact e
    · rw [upd_ne z] at e; exact hh _ _ (S.nH _ _ e)) (fun b o e n => by
    by_cases z : b = q
    · subst z; exact hq
    · rw [upd_ne z, n] at e; cases e)
  have r : DvL (rg F (upd N q (.lst (ns.map V.int))) .new) [.ref q, .int 0, .int 0, .int 1] (encF feed) := by
    show DvL _ _ (encR feed.raw)
    rw [hf]
    exact .cons (.lst upd_same (DvL.mono (same_e0 _) (dvl_ints ns))) (.cons (.int 0) (.cons (.int 0) (.cons (.int 1) .nil)))
  have hpN : (upd N q (.lst (ns.map V.int))) p = none := by rw [upd_ne hpq]; exact S.freshN hp
  have gs := g.storeO (i := j) (Nat.le_of_ble_eq_true hj) h2 hpN (S.freshH0 hp) (fun j' h => by
    obtain ⟨⟨ws, ew⟩, _⟩ := S.ownH h
    rw [hp] at ew; cases ew) r
  exact hu feed rfl _ _ H' D gs (fun ρ' σ' N' H' x m S' => q1 ρ' σ' N' H' x (nN.trans m) S') q2 (fun ρ' σ' N' H' x m S' => q3 ρ' σ' N' H' x (nN.trans m) S') (fun ρ' σ' N' H' x m S' => q4 ρ' σ' N' H' x (nN.trans m) S') q5
/-- the law's promise -/
def spLaw (K : PySem.W.Frag) : Sp := fun vs H Q _ => ∃ (a : Addr) (ns : List Int), vs = [.ref a] ∧ SqL K H a (ns.map V.int) ∧ ns.length ≤ 63 ∧ ∀ H', Q (.bl true) H'
theorem fn_L {qual : Str} {st : Stmt} {f : Addr} {fd : FuncData} {Nm : List Str} {x : Str} {k n : Nat} {m : List Int → Bool} (Fn : Fun K x qual st f fd) (Sc : FnScope Nm ["script"] (defScope st)) (hm : ∀ ns, ns.length ≤ 63 → m ns = true) (hn : Nm.length = 1 + n := by rfl)
    (hb : ∀ (ns : List Int) (a : Addr), ns.length ≤ 63 → ∀ (cdv : Value) (A : Around) (outer : List Env) (s : Shared) (H : Hp) (E : XK), SqL K H a (ns.map V.int) → Room k (A.deeper (PyProof.Rows.envOfC qual (defScope st) s.heap.objs.size f cdv)) →
      ∃ t, PSs (cxOf CX0 P w K mg base Nm qual (defScope st) f cdv A outer s H E).nox (defBody st) t ∧ EvS ⟨TP.e0, TP.e0, H, []⟩ E (.ex (.ref a) [] :: List.replicate n .no) t (OD (.k .sc) (.bool (m ns)))) :
    FnOk P w K mg base CX0 (k + 1) f fd ["script"] (spLaw K) := by
  refine Fn.ok Sc (fun vs H Q E h => ?_) (fun cdv A outer s H vs Q E hr h => ?_)
  · obtain ⟨a, ns, rfl, _⟩ := h
    rfl
  · obtain ⟨a, ns, rfl, hS, hl, q⟩ := h
    obtain ⟨t, ht, ev⟩ := hb ns a hl cdv A outer s H E hS hr
    refine ⟨t, ht, ?_⟩
    rw [start_eq (n := n) hn]
    have S0 : SR ⟨TP.e0, TP.e0, H, []⟩ TP.e0 (.ex (.ref a) [] :: List.replicate n .no) ([V.ref a].map some ++ List.replicate n none) H := by
      refine ⟨same_e0 H, same_e0 H, fun q hq => (nomatch hq), same_e0 H, fun a o e => (by cases e), fun a o e _ => e, fun q hq => (nomatch hq), by simp, fun i s e => ?_, fun i j q h _ => ?_⟩
      · cases i with
        | zero => cases e; exact ⟨rfl, fun c hc => nomatch hc⟩
        | succ i =>
          have e : (List.replicate n Sl.no)[i]? = some s := e
          rw [List.getElem?_replicate] at e
          split at e
          · cases e; trivial
          · cases e
      · exfalso
        obtain ⟨⟨s, e, o⟩, _⟩ := h
        cases i with
        | zero => cases e; cases o
        | succ i =>
          have e : (List.replicate n Sl.no)[i]? = some s := e
          rw [List.getElem?_replicate] at e
          split at e
          · cases e; cases o
          · cases e
    refine ev _ TP.e0 H _ S0 (fun ρ' σ' N' H' x m S' => ?_) (fun rk' d' ρ' σ' N' H' v x S' hv => ?_) (fun _ _ _ _ h => h.elim) (fun _ _ _ _ h => h.elim) (fun _ _ h => h.elim)
    · obtain ⟨_, e2⟩ := x
      cases e2
    · obtain ⟨e1, e2⟩ := x
      subst e1 e2
      have hv : Dv TP.e0 v (.bool (m ns)) := hv
      rw [hm ns hl] at hv
      rw [hv.bl_inv]
      exact q H'
end
end TP

/-! what comes out of flows -/
namespace TP
open PySem PySem.Spec
section
open L2
variable {F : Fm} {ρ ρ1 : List Sl} {b : B} {α : Type} {e : α → PyData} {xs : List α}
/-- a display, typed -/
theorem o_lstE {t : TA} {l : List (Ek × PyData)} (ha : EvA F ρ t l ρ1) (hl : AllIn b l) (he : l.map (·.2) = xs.map e) (hz : l.length ≤ sizeLine := by simp [sizeLine_eq]) : EvO F ρ (tLst t) b (xs.map e) ρ1 := by
  rw [← he]; exact o_lst ha hl hz
theorem e_tupE {t : TA} {l : List (Ek × PyData)} (ha : EvA F ρ t l ρ1) (hl : AllIn b l) (he : l.map (·.2) = xs.map e) (hb : b ≠ .iob := by decide) (hz : l.length ≤ sizeLine := by simp [sizeLine_eq]) : EvE F ρ (tTup t) (.k b.fz) (.tuple (xs.map e)) ρ1 := by
  rw [← he]; exact e_tup ha hl hb hz
end
section
variable {α β γ S S' R : Type}
def RtAll (P : R → Prop) (fl : Fl S R) : Prop := ∀ r, fl = .ret r → P r
theorem rt_go {P : R → Prop} {s : S} : RtAll P (Fl.go s) := fun _ e => nomatch e
theorem rt_brk {P : R → Prop} {s : S} : RtAll P (Fl.brk s) := fun _ e => nomatch e
theorem rt_ret {P : R → Prop} {r : R} (h : P r) : RtAll P (Fl.ret (S := S) r) := fun _ e => by cases e; exact h
theorem rt_ite {P : R → Prop} {c : Bool} {x y : Fl S R} (h : RtAll P x) (h' : RtAll P y) : RtAll P (iteB c x y) := by cases c <;> assumption
theorem rt_bnd {P : R → Prop} {t : α} {f : α → Fl S R} (h : ∀ x, RtAll P (f x)) : RtAll P (bnd t f) := h t
theorem rt_flF {P : R → Prop} {fl : Fl S' R} {k : S' → Fl S R} (h0 : RtAll P fl) (h : ∀ s, RtAll P (k s)) : RtAll P (flF fl k) := by
  cases fl with
  | go s => exact h s
  | brk s => exact h s
  | ret r => exact fun _ e => by cases e; exact h0 r rfl
theorem rt_loop {P : R → Prop} {f : α → S → Fl S R} (h : ∀ x s, RtAll P (f x s)) : ∀ (xs : List α) (s : S), RtAll P (loopL f xs s)
  | [], s => fun _ e => nomatch e
  | x :: xs, s => by
    rw [loopL_cons]
    cases hf : f x s with
    | go s' => exact rt_loop h xs s'
    | brk s' => exact fun _ e => nomatch e
    | ret r => exact fun _ e => by cases e; exact h x s r hf
def Er1 (f : Str) (m : Ex R) : Prop := ∀ c fs, m = .er c fs → ∃ n, fs = [(f, n)]
theorem er1_ok {f : Str} {r : R} : Er1 f (.ok r) := fun _ _ e => nomatch e
theorem er1_er {f : Str} {c : Nat} {n : Int} : Er1 (R := R) f (.er c [(f, n)]) := fun _ _ e => by cases e; exact ⟨n, rfl⟩
theorem er1_ite {f : Str} {c : Bool} {x y : Ex R} (h : Er1 f x) (h' : Er1 f y) : Er1 f (iteB c x y) := by cases c <;> assumption
theorem er1_bnd {f : Str} {t : α} {g : α → Ex R} (h : ∀ x, Er1 f (g x)) : Er1 f (bnd t g) := h t
theorem er1_flT {f : Str} {fl : Fl S (Ex R)} {k : S → Ex R} (h0 : RtAll (Er1 f) fl) (h : ∀ s, Er1 f (k s)) : Er1 f (flT fl k) := by
  cases fl with
  | go s => exact h s
  | brk s => exact h s
  | ret r => exact h0 r rfl
theorem enum_get {xs : List α} {i : Nat} {p : Int × α} (h : (enumL xs)[i]? = some p) : p.1 = i ∧ xs[i]? = some p.2 := by
  unfold enumL at h
  rw [List.getElem?_mapIdx] at h
  cases hx : xs[i]? with
  | none => rw [hx] at h; cases h
  | some x => rw [hx] at h; cases h; exact ⟨rfl, rfl⟩
theorem enum_mem {xs : List α} {i : Nat} {p : Int × α} (h : (enumL xs)[i]? = some p) : p.2 ∈ xs := List.mem_of_getElem? (enum_get h).2
theorem inb0 {xs : List α} {x : α} (h : x ∈ xs) : Inb xs 0 := by
  have := List.length_pos_of_mem h
  exact ⟨by omega, by omega⟩
theorem get_mem {xs : List α} {i : Nat} {x : α} (h : xs[i]? = some x) : x ∈ xs := List.mem_of_getElem? h
theorem rng_at {i j x : Int} {k : Nat} (h : (rng i j)[k]? = some x) : i ≤ x ∧ x < j := mem_rng.mp (get_mem h)
theorem inb_of {xs : List α} {i : Int} (h0 : 0 ≤ i) (h : i < xs.length) : Inb xs i := ⟨by omega, h⟩
theorem len_filter_map {p : α → Bool} {f : α → β} (xs : List α) : ((xs.filter p).map f).length ≤ xs.length := by
  rw [List.length_map]; exact List.length_filter_le p xs
theorem len_ite {c : Bool} {x y : List α} {n : Nat} (h : x.length = n) (h' : y.length = n) : (iteB c x y).length = n := by cases c <;> assumption
theorem loopN_len {f : β → List α → List α} {n : Nat} (h : ∀ x s, s.length = n → (f x s).length = n) : ∀ (xs : List β) (s : List α), s.length = n → (loopN f xs s).length = n
  | [], _, hs => hs
  | x :: xs, s, hs => loopN_len h xs (f x s) (h x s hs)
theorem repL_len (xs : List α) (n : Int) : (repL xs n).length = n.toNat * xs.length := by
  unfold repL
  simp
theorem cutL_len_le (xs : List α) (lo hi : Option Int) : (cutL xs lo hi).length ≤ xs.length := by
  unfold cutL
  rw [List.length_take, List.length_drop]
  omega
theorem mulT_len (t : Tx) (n : Int) : (mulT t n).length = n.toNat * t.length := by
  unfold mulT
  simp
theorem len_of_mem {xs : List Tx} {x : Tx} {n : Nat} (h : ∀ y ∈ xs, y.length ≤ n) (hx : x ∈ xs) : x.length ≤ n := h x hx
theorem get_lt {xs : List α} {i : Nat} {x : α} (h : xs[i]? = some x) : i < xs.length := (List.getElem?_eq_some_iff.mp h).1
/-- a loop that tells of the first item at which there is something to tell -/
theorem loopL_unit {g : α → Option R} : ∀ (xs : List α), loopL (fun x (_ : Unit) => match g x with | none => Fl.go () | some r => Fl.ret r) xs () = match xs.findSome? g with | none => .go () | some r => .ret r
  | [] => rfl
  | x :: xs => by
    rw [loopL_cons, List.findSome?_cons]
    cases g x with
    | none => exact loopL_unit xs
    | some r => rfl
theorem loopL_congr {f g : α → S → Fl S R} : ∀ (xs : List α) (s : S), (∀ x s, x ∈ xs → f x s = g x s) → loopL f xs s = loopL g xs s
  | [], _, _ => rfl
  | x :: xs, s, h => by
    rw [loopL_cons, loopL_cons, h x s (List.mem_cons_self ..)]
    cases g x s with
    | go s' => exact loopL_congr xs s' fun y t hy => h y t (List.mem_cons_of_mem _ hy)
    | brk s' => rfl
    | ret r => rfl
end
end TP

namespace LW
noncomputable section
open PySem PySem.Spec L2 TP
local macro_rules | `(tactic| walk_at "tp") => `(tactic| first | omega | (dsimp only at *; omega) | decide | (subst_vars; simp only [Bool.and_eq_true, decide_eq_true_eq, List.length_cons, List.length_nil, List.length_append, signs_len, rng_len] at *; omega))
local macro_rules | `(tactic| walk_at "tp_len") => `(tactic| first | omega | (simp only [List.length_map, rng_len, signs_len, List.length_append, List.length_cons, List.length_nil] at *; omega))
local macro_rules | `(tactic| walk_at "tp_mul") => `(tactic| (unfold L2.CMul; first | omega | (dsimp only at *; omega) | (subst_vars; dsimp only at *; omega)))
local macro_rules | `(tactic| walk_at "tp_pow") => `(tactic| (unfold L2.CPow; first | decide | omega))
local macro_rules | `(tactic| walk_at "tp_div") => `(tactic| (apply cdivW <;> omega))
local macro_rules | `(tactic| walk_at "tp_inb") => `(tactic| first | assumption | (unfold Inb; first | omega | (simp only [List.length_cons, List.length_nil, Bool.and_eq_true, decide_eq_true_eq] at *; omega)))
local macro_rules | `(tactic| walk_at "tp_pre") => `(tactic| first | (refine ⟨?_, ?_⟩ <;> omega) | (unfold D__law_draw; omega))
local macro_rules | `(tactic| walk_at "tp_rep") => `(tactic| first | omega | (simp only [List.length_cons, List.length_nil]; omega) | (simp only [List.length_cons, List.length_nil, Nat.zero_add, Nat.one_mul]; omega))
def topS (i : Nat) : Stmt := PySem.Challenge.pw_tablesplayed_k86_meetings_checked.main.body.getD i (.Pass ⟨0, 0, 0, 0⟩)
structure Cls where
  z : Unit := ()
  BadScores : Addr
  BadTable : Addr
  ClubError : Addr
structure Txt (K : PySem.W.Frag) (mg : Str → Option Value) (c : Cls) : Prop where
  zz : True
  ValueError : mg "ValueError" = none
  abs : mg "abs" = none
  all : mg "all" = none
  bool : mg "bool" = none
  c_MOST_IN_CLUB : ∃ tk, mg "MOST_IN_CLUB" = some (.int 8 tk)
  enumerate : mg "enumerate" = none
  exm_BadTable_ClubError : PySem.W.exmOne K (.ref c.BadTable) (.ref c.ClubError) = some true
  g_BadScores : mg "BadScores" = some (.ref c.BadScores)
  g_BadTable : mg "BadTable" = some (.ref c.BadTable)
  g_ClubError : mg "ClubError" = some (.ref c.ClubError)
  int : mg "int" = none
  isinstance : mg "isinstance" = none
  kit_BadTable_BadScores_false : PySem.W.kitOne K (.ref c.BadTable) (.ref c.BadScores) = some false
  kit_BadTable_BadTable_true : PySem.W.kitOne K (.ref c.BadTable) (.ref c.BadTable) = some true
  kit_BadTable_ValueError_true : PySem.W.kitOne K (.ref c.BadTable) (.type "ValueError") = some true
  len : mg "len" = none
  list : mg "list" = none
  no_BadTable_at : PySem.W.findIn K (.ref c.BadTable) "at" = some none
  range : mg "range" = none
  tuple : mg "tuple" = none
  x_BadTable : ExcT K mg "BadTable" c.BadTable
abbrev st_rdraw : Stmt := topS 11
theorem sc_rdraw : FnScope ["feed", "many", "cell", "told", "mixed"] ["feed", "many"] (defScope st_rdraw) := ⟨rfl, rfl, rfl, by decide +kernel, rfl, by decide +kernel, by decide +kernel⟩
def m_rdraw (feed : Raw) (many : Int) : (Int × Raw) := (bnd ((iteB (decide (feed.2.2.1 = (0 : Int)) && decide (feed.2.1 < ((feed.1).length : Int))) (bnd (if (gx feed.1 feed.2.1) < 0 then -(gx feed.1 feed.2.1) else (gx feed.1 feed.2.1)) fun (cell_3 : Int) => (bnd (feed.1, feed.2.1 + (1 : Int), feed.2.2.1, feed.2.2.2) fun (feed_4 : Raw) => (bnd ((iteB (decide (((10 : Int) ^ ((18 : Int)).toNat) ≤ cell_3)) (bnd (feed_4.1, feed_4.2.1, cell_3, feed_4.2.2.2) fun (feed_7 : Raw) => feed_7) (bnd (feed_4.1, feed_4.2.1, feed_4.2.2.1, ((((feed_4.2.2.2 * (48271 : Int)) + (cell_3 * (69621 : Int))) + feed_4.2.1) % (2147483647 : Int))) fun (feed_8 : Raw) => feed_8)) : (Raw)) fun (s_6 : (Raw)) => s_6))) feed) : (Raw)) fun (s_2 : (Raw)) => (iteB (decide ((0 : Int) < s_2.2.2.1)) (bnd (s_2.2.2.1 % many) fun (told_10 : Int) => (bnd (s_2.1, s_2.2.1, (s_2.2.2.1 / many), s_2.2.2.2) fun (feed_11 : Raw) => (told_10, feed_11))) (bnd (s_2.1, s_2.2.1, s_2.2.2.1, (((s_2.2.2.2 * (16807 : Int)) + (12345 : Int)) % (2147483647 : Int))) fun (feed_12 : Raw) => (bnd (((feed_12.2.2.2 * feed_12.2.2.2) + feed_12.2.2.2) % (2147483629 : Int)) fun (mixed_13 : Int) => (((mixed_13 / (11 : Int)) % many), feed_12)))))
def D_rdraw : Raw × Int → Prop := fun (feed, many) => RawOk feed ∧ 0 < many ∧ many < 2 ^ 64
def sp_rdraw : Sp := spIn D_rdraw (fun a => [.io (encR a.1), .d (eI a.2)]) (.k .sc) (fun a => eI (m_rdraw a.1 a.2).1) (fun a => encR (m_rdraw a.1 a.2).2)
theorem ok_rdraw {P : Program} {w : World} {K : PySem.W.Frag} {mg : Str → Option Value} {base : Heap} {f : Addr} {fd : FuncData} (Fn : Fun K "_law_draw" "_law_draw" st_rdraw f fd) {c : Cls} (T : Txt K mg c) : FnOk P w K mg base CX0 1 f fd ["feed", "many"] (sp_rdraw) := FnOk.allI (α := Raw × Int) fun a hD => by
  obtain ⟨feed, many⟩ := a
  have hs : sizeLine = 16777216 := sizeLine_eq
  obtain ⟨ho, h0, h1⟩ := hD
  obtain ⟨a1, a2, a3, a4, a5, a6⟩ := ho
  refine fn_I (n := 3) 0 Fn sc_rdraw rfl rfl rfl fun cdv A outer s H E hr => ⟨_, (pss_cons (ps_if (PW.pt (pw_and (pt_cmpR op_eq (pe_ix (k_ixL K) (pv 0) pe_int (fun _ _ => rfl)) pe_int (nomark _)) (pw_and1 (pt_cmpR op_lt (pe_ix (k_ixL K) (pv 0) pe_int (fun _ _ => rfl)) (pe_callB (k_len K) (by rfl) T.len PySem.boot_len (pa_cons (pe_ix (k_ixL K) (pv 0) pe_int (fun _ _ => rfl)) pa_nil)) (nomark _))))) (pss_cons (ps_set (i := 2) sc_rdraw.nd rfl (Or.inl rfl) (pe_callB call_absQ (by rfl) T.abs (by decide +kernel) (pa_cons (pe_callTy call_intQ (by rfl) T.int (by decide +kernel) (pa_cons (pe_ix (k_ixL K) (pe_ix (k_ixL K) (pv 0) pe_int (fun _ _ => rfl)) (pe_ix (k_ixL K) (pv 0) pe_int (fun _ _ => rfl)) (fun _ _ => rfl)) pa_nil)) pa_nil))) (pss_cons (ps_augS (pv 0) pe_int (k_get K) pe_int ip_add set_list) (pss_cons (ps_if (pt_cmpR op_ge (pv 2) (pe_op op_pow pe_int pe_int) (nomark _)) (pss_cons (ps_asg (pv 2) (pg_sub (pv 0) pe_int set_list (fun _ => rfl))) pss_nil) (pss_cons (ps_asg (pe_op op_mod (pe_callTy call_intQ (by rfl) T.int (by decide +kernel) (pa_cons (pe_op op_add (pe_op op_add (pe_op op_mul (pe_ix (k_ixL K) (pv 0) pe_int (fun _ _ => rfl)) pe_int) (pe_op op_mul (pv 2) pe_int)) (pe_ix (k_ixL K) (pv 0) pe_int (fun _ _ => rfl))) pa_nil)) pe_int) (pg_sub (pv 0) pe_int set_list (fun _ => rfl))) pss_nil)) pss_nil))) pss_nil) (pss_cons (ps_if (pt_cmpR op_gt (pe_ix (k_ixL K) (pv 0) pe_int (fun _ _ => rfl)) pe_int (nomark _)) (pss_cons (ps_set (i := 3) sc_rdraw.nd rfl (Or.inl rfl) (pe_op op_mod (pe_callTy call_intQ (by rfl) T.int (by decide +kernel) (pa_cons (pe_ix (k_ixL K) (pv 0) pe_int (fun _ _ => rfl)) pa_nil)) (pv 1))) (pss_cons (ps_asg (pe_op op_fdivW (pe_ix (k_ixL K) (pv 0) pe_int (fun _ _ => rfl)) (pv 1)) (pg_sub (pv 0) pe_int set_list (fun _ => rfl))) (pss_cons (ps_ret (pv 3)) pss_nil))) pss_nil) (pss_cons (ps_asg (pe_op op_mod (pe_callTy call_intQ (by rfl) T.int (by decide +kernel) (pa_cons (pe_op op_add (pe_op op_mul (pe_ix (k_ixL K) (pv 0) pe_int (fun _ _ => rfl)) pe_int) pe_int) pa_nil)) pe_int) (pg_sub (pv 0) pe_int set_list (fun _ => rfl))) (pss_cons (ps_set (i := 4) sc_rdraw.nd rfl (Or.inl rfl) (pe_op op_mod (pe_callTy call_intQ (by rfl) T.int (by decide +kernel) (pa_cons (pe_op op_add (pe_op op_mul (pe_ix (k_ixL K) (pv 0) pe_int (fun _ _ => rfl)) (pe_ix (k_ixL K) (pv 0) pe_int (fun _ _ => rfl))) (pe_ix (k_ixL K) (pv 0) pe_int (fun _ _ => rfl))) pa_nil)) pe_int)) (pss_cons (ps_ret (pe_op op_mod (pe_op op_fdivW (pv 4) pe_int) (pv 1))) pss_nil))))), fun A0 B0 p => ?_⟩
  refine s_topI (en := eI) (r := m_rdraw feed many) (es := encR) ?_
  unfold m_rdraw
  exact (s_join (f := (fun (s_2 : (Raw)) => [.io p .iob (encR s_2), .v .out (eI many), .no, .no, .no])) (s_if (t_and (t_val (e_eqI (e_sc (b := .sc) (e_ixL (K := K) (e_io rfl) e_int rfl rfl) (IsSc.int _)) e_int)) (fun h => (t_val (e_cmp (f := fun i j => decide (i < j)) (e_sc (b := .sc) (e_ixL (K := K) (e_io rfl) e_int rfl rfl) (IsSc.int _)) (e_lenE (xs := feed.1) (e := eI) (e_ixL (K := K) (e_io rfl) e_int rfl rfl)))))) (fun hc_1 => (s_asg (t := (if (gx feed.1 feed.2.1) < 0 then -(gx feed.1 feed.2.1) else (gx feed.1 feed.2.1))) (en := eI) (e_abs (e_intI (e_ixZ (K := K) (xs := feed.1) (e := eI) (fun _ => (IsSc.int _)) (e_ixL (K := K) (e_io rfl) e_int rfl rfl) (e_sc (b := .sc) (e_ixL (K := K) (e_io rfl) e_int rfl rfl) (IsSc.int _)) trivial (by walk_at "tp_inb")))) (fun cell_3 hcell_3 => (s_augR (K := K) (fo := (fun i j => i + j)) (j := 1) (r := feed) (r' := (feed.1, feed.2.1 + (1 : Int), feed.2.2.1, feed.2.2.2)) rfl rfl e_int rfl rfl (fun feed_4 hfeed_4 => (s_join (f := (fun (s_6 : (Raw)) => [.io p .iob (encR s_6), .v .out (eI many), .v .sc (eI cell_3), .no, .no])) (s_if (t_val (e_cmp (f := fun i j => decide (j ≤ i)) (e_var rfl) (e_pow e_int e_int (by walk_at "tp_pow")))) (fun hc_5 => (s_setR (j := 2) (r := feed_4) (r' := (feed_4.1, feed_4.2.1, cell_3, feed_4.2.2.2)) (e_var rfl) rfl (IsSc.int _) rfl rfl (fun feed_7 hfeed_7 => (s_end rfl (Wk.eq (Wk.eq (Wk.eq (Wk.eq (Wk.eq Wk.nil))))))))) (fun hc_5 => (s_setR (j := 3) (r := feed_4) (r' := (feed_4.1, feed_4.2.1, feed_4.2.2.1, ((((feed_4.2.2.2 * (48271 : Int)) + (cell_3 * (69621 : Int))) + feed_4.2.1) % (2147483647 : Int)))) (e_mod (e_intI (e_add (e_add (e_mul (e_sc (b := .sc) (e_ixL (K := K) (e_io rfl) e_int rfl rfl) (IsSc.int _)) e_int (by walk_at "tp_mul")) (e_mul (e_var rfl) e_int (by walk_at "tp_mul"))) (e_sc (b := .sc) (e_ixL (K := K) (e_io rfl) e_int rfl rfl) (IsSc.int _)))) e_int (by walk_at "tp")) rfl (IsSc.int _) rfl rfl (fun feed_8 hfeed_8 => (s_end rfl (Wk.eq (Wk.eq (Wk.eq (Wk.eq (Wk.eq Wk.nil)))))))))) (fun s_6 hs_6 => (s_end rfl (Wk.eq (Wk.eq (Wk.no (Wk.eq (Wk.eq Wk.nil))))))))))))) (fun hc_1 => (s_end rfl (Wk.eq (Wk.eq (Wk.eq (Wk.eq (Wk.eq Wk.nil)))))))) (fun s_2 hs_2 => (s_ifR (t_val (e_cmp (f := fun i j => decide (j < i)) (e_sc (b := .sc) (e_ixL (K := K) (e_io rfl) e_int rfl rfl) (IsSc.int _)) e_int)) (fun hc_9 => (s_asg (t := (s_2.2.2.1 % many)) (en := eI) (e_mod (e_intI (e_sc (b := .sc) (e_ixL (K := K) (e_io rfl) e_int rfl rfl) (IsSc.int _))) (e_sc (b := .sc) (e_var rfl) (IsSc.int _)) (by walk_at "tp")) (fun told_10 htold_10 => (s_setR (j := 2) (r := s_2) (r' := (s_2.1, s_2.2.1, (s_2.2.2.1 / many), s_2.2.2.2)) (e_fdivW (e_sc (b := .sc) (e_ixL (K := K) (e_io rfl) e_int rfl rfl) (IsSc.int _)) (e_sc (b := .sc) (e_var rfl) (IsSc.int _)) (by walk_at "tp_div")) rfl (IsSc.int _) rfl rfl (fun feed_11 hfeed_11 => (s_leave (s_ret (rk := .k .sc) (e_var rfl) ⟨rfl, rfl, rfl⟩))))))) (fun hc_9 => (s_setR (j := 3) (r := s_2) (r' := (s_2.1, s_2.2.1, s_2.2.2.1, (((s_2.2.2.2 * (16807 : Int)) + (12345 : Int)) % (2147483647 : Int)))) (e_mod (e_intI (e_add (e_mul (e_sc (b := .sc) (e_ixL (K := K) (e_io rfl) e_int rfl rfl) (IsSc.int _)) e_int (by walk_at "tp_mul")) e_int)) e_int (by walk_at "tp")) rfl (IsSc.int _) rfl rfl (fun feed_12 hfeed_12 => (s_asg (t := (((feed_12.2.2.2 * feed_12.2.2.2) + feed_12.2.2.2) % (2147483629 : Int))) (en := eI) (e_mod (e_intI (e_add (e_mul (e_sc (b := .sc) (e_ixL (K := K) (e_io rfl) e_int rfl rfl) (IsSc.int _)) (e_sc (b := .sc) (e_ixL (K := K) (e_io rfl) e_int rfl rfl) (IsSc.int _)) (by walk_at "tp_mul")) (e_sc (b := .sc) (e_ixL (K := K) (e_io rfl) e_int rfl rfl) (IsSc.int _)))) e_int (by walk_at "tp")) (fun mixed_13 hmixed_13 => (s_leave (s_ret (rk := .k .sc) (e_mod (e_fdivW (e_var rfl) e_int (by walk_at "tp_div")) (e_sc (b := .sc) (e_var rfl) (IsSc.int _)) (by walk_at "tp")) ⟨rfl, rfl, rfl⟩))))))))))
theorem rawok_draw (feed : Raw) (many : Int) (h : D_rdraw (feed, many)) : RawOk (m_rdraw feed many).2 := by
  obtain ⟨ho, h0, h1⟩ := h
  have hm0 : ∀ x : Int, 0 ≤ x % 2147483647 := fun x => Int.emod_nonneg _ (by omega)
  have hm1 : ∀ x : Int, x % 2147483647 < 2147483647 := fun x => Int.emod_lt_of_pos _ (by omega)
  have hd : ∀ x : Int, 0 ≤ x → 0 ≤ x / many := fun x hx => Int.ediv_nonneg hx (by omega)
  obtain ⟨a1, a2, a3, a4, a5, a6⟩ := ho
  obtain ⟨cells, at_, big, seed⟩ := feed
  dsimp only at a1 a2 a3 a4 a5 a6
  have fin : ∀ r : Raw, RawOk r → RawOk (iteB (decide ((0 : Int) < r.2.2.1)) (bnd (r.2.2.1 % many) fun told => bnd (r.1, r.2.1, r.2.2.1 / many, r.2.2.2) fun (y : Raw) => (told, y)) (bnd (r.1, r.2.1, r.2.2.1, (r.2.2.2 * 16807 + 12345) % 2147483647) fun (y : Raw) => bnd ((y.2.2.2 * y.2.2.2 + y.2.2.2) % 2147483629) fun mixed => (mixed / 11 % many, y))).2 := fun r hr => by
    cases decide ((0 : Int) < r.2.2.1) with
    | true => exact ⟨hr.len, hr.at0, hr.at1, hd _ hr.big, hr.s0, hr.s1⟩
    | false => exact ⟨hr.len, hr.at0, hr.at1, hr.big, hm0 _, hm1 _⟩
  refine fin _ ?_
  cases c1 : (decide (big = (0 : Int)) && decide (at_ < (cells.length : Int))) with
  | true =>
    rw [Bool.and_eq_true, decide_eq_true_eq, decide_eq_true_eq] at c1
    rw [iteB_true]
    unfold bnd
    dsimp only
    have hp : 0 ≤ (if gx cells at_ < 0 then -gx cells at_ else gx cells at_) := by split <;> omega
    generalize (if gx cells at_ < 0 then -gx cells at_ else gx cells at_) = c at *
    cases decide ((10 : Int) ^ ((18 : Int)).toNat ≤ c) with
    | true => exact ⟨a1, by show 0 ≤ at_ + 1; omega, by show at_ + 1 ≤ (cells.length : Int); omega, hp, a5, a6⟩
    | false => exact ⟨a1, by show 0 ≤ at_ + 1; omega, by show at_ + 1 ≤ (cells.length : Int); omega, a4, hm0 _, hm1 _⟩
  | false => exact ⟨a1, a2, a3, a4, a5, a6⟩
theorem range_draw (feed : Raw) (many : Int) (h : 0 < many) : 0 ≤ (m_rdraw feed many).1 ∧ (m_rdraw feed many).1 < many := by
  have hm : ∀ x : Int, 0 ≤ x % many ∧ x % many < many := fun x => ⟨Int.emod_nonneg _ (by omega), Int.emod_lt_of_pos _ h⟩
  unfold m_rdraw bnd
  generalize (iteB _ _ _ : Raw) = r
  dsimp only
  cases decide (0 < r.2.2.1) with
  | true => exact hm _
  | false => exact hm _
open Classical in
noncomputable def m__law_draw (feed : Fd) (many : Int) : Int × Fd := if h : RawOk (m_rdraw feed.raw many).2 then ((m_rdraw feed.raw many).1, ⟨_, h⟩) else ((m_rdraw feed.raw many).1, feed)
def D__law_draw : Fd × Int → Prop := fun (_, many) => 0 < many ∧ many < 2 ^ 64
noncomputable def sp__law_draw : Sp := spIn D__law_draw (fun a => [.io (encF a.1), .d (eI a.2)]) (.k .sc) (fun a => eI (m__law_draw a.1 a.2).1) (fun a => encF (m__law_draw a.1 a.2).2)
theorem draw_eq (feed : Fd) (many : Int) (h : D__law_draw (feed, many)) : (m__law_draw feed many).1 = (m_rdraw feed.raw many).1 ∧ (m__law_draw feed many).2.raw = (m_rdraw feed.raw many).2 := by
  have := rawok_draw feed.raw many ⟨feed.ok, h⟩
  unfold m__law_draw
  rw [dif_pos this]
  exact ⟨rfl, rfl⟩
theorem draw_in (feed : Fd) (many : Int) (h : 0 < many) : 0 ≤ (m__law_draw feed many).1 ∧ (m__law_draw feed many).1 < many := by
  have := range_draw feed.raw many h
  unfold m__law_draw
  split <;> exact this
theorem sp_draw_of : ∀ vs H Q E, sp__law_draw vs H Q E → sp_rdraw vs H Q E := by
  rintro vs H Q E ⟨⟨feed, many⟩, hd, x⟩
  obtain ⟨e1, e2⟩ := draw_eq feed many hd
  refine ⟨(feed.raw, many), ⟨feed.ok, hd⟩, ?_⟩
  have x' : spI (.k .sc) [.io (encF feed), .d (eI many)] (eI (m__law_draw feed many).1) (encR (m__law_draw feed many).2.raw) vs H Q E := x
  rw [e1, e2] at x'
  exact x'
abbrev st__law_feed : Stmt := topS 10
theorem sc__law_feed : FnScope ["script"] ["script"] (defScope st__law_feed) := ⟨rfl, rfl, rfl, by decide +kernel, rfl, by decide +kernel, by decide +kernel⟩

def m__law_feed (script : List Int) : Fd := if h : script.length ≤ 63 then ⟨(script, 0, 0, 1), ⟨h, Int.le_refl 0, Int.natCast_nonneg _, Int.le_refl 0, (by decide : (0 : Int) ≤ 1), (by decide : (1 : Int) < 2147483647)⟩⟩ else ⟨([], 0, 0, 1), ⟨by decide, by decide, by decide, by decide, by decide, by decide⟩⟩
theorem feed_raw {script : List Int} (h : script.length ≤ 63) : (m__law_feed script).raw = (script, 0, 0, 1) := by
  unfold m__law_feed
  rw [dif_pos h]
theorem ok__law_feed {P : Program} {w : World} {K : PySem.W.Frag} {mg : Str → Option Value} {base : Heap} {f : Addr} {fd : FuncData} (Fn : Fun K "_law_feed" "_law_feed" st__law_feed f fd) {c : Cls} (T : Txt K mg c) : FnOk P w K mg base CX0 1 f fd ["script"] (spFeed K) :=
  Fn.ok sc__law_feed (fun vs H Q E h => by obtain ⟨a, ns, rfl, _⟩ := h; rfl) fun cdv A outer s H vs Q E hr h =>
    ⟨_, pss_one (ps_ret (pe_lst (pa_cons (pe_callTy (k_list K) (by rfl) T.list (by decide +kernel) (pa_cons (pv 0) pa_nil)) (pa_cons pe_int (pa_cons pe_int (pa_cons pe_int pa_nil)))))), feed_pure rfl h⟩
abbrev st__law_meeting : Stmt := topS 13
theorem sc__law_meeting : FnScope ["feed", "a", "b", "share", "i", "k"] ["feed", "a", "b"] (defScope st__law_meeting) := ⟨rfl, rfl, rfl, by decide +kernel, rfl, by decide +kernel, by decide +kernel⟩
def m__law_meeting (feed : Fd) (a : Int) (b : Int) : ((List Tx) × Fd) := (bnd (m__law_draw feed (5 : Int)) fun (share_1 : Int × Fd) => ((compS (fun (i_2 : Int) (s_3 : Fd) => (true, s_3)) (fun (i_2 : Int) (s_3 : Fd) => ((joinT ([] : Tx) ((compS (fun (k_4 : Int) (s_5 : Fd) => (true, s_5)) (fun (k_4 : Int) (s_5 : Fd) => ((gx ([([108] : Tx), ([119] : Tx)] : List Tx) (if decide ((m__law_draw s_5 (4 : Int)).1 < share_1.1) then (1 : Int) else 0)), (m__law_draw s_5 (4 : Int)).2)) (rng 0 b) s_3).1)), (compS (fun (k_4 : Int) (s_5 : Fd) => (true, s_5)) (fun (k_4 : Int) (s_5 : Fd) => ((gx ([([108] : Tx), ([119] : Tx)] : List Tx) (if decide ((m__law_draw s_5 (4 : Int)).1 < share_1.1) then (1 : Int) else 0)), (m__law_draw s_5 (4 : Int)).2)) (rng 0 b) s_3).2)) (rng 0 a) share_1.2).1, (compS (fun (i_2 : Int) (s_3 : Fd) => (true, s_3)) (fun (i_2 : Int) (s_3 : Fd) => ((joinT ([] : Tx) ((compS (fun (k_4 : Int) (s_5 : Fd) => (true, s_5)) (fun (k_4 : Int) (s_5 : Fd) => ((gx ([([108] : Tx), ([119] : Tx)] : List Tx) (if decide ((m__law_draw s_5 (4 : Int)).1 < share_1.1) then (1 : Int) else 0)), (m__law_draw s_5 (4 : Int)).2)) (rng 0 b) s_3).1)), (compS (fun (k_4 : Int) (s_5 : Fd) => (true, s_5)) (fun (k_4 : Int) (s_5 : Fd) => ((gx ([([108] : Tx), ([119] : Tx)] : List Tx) (if decide ((m__law_draw s_5 (4 : Int)).1 < share_1.1) then (1 : Int) else 0)), (m__law_draw s_5 (4 : Int)).2)) (rng 0 b) s_3).2)) (rng 0 a) share_1.2).2))
def D__law_meeting : Fd × Int × Int → Prop := fun (feed, a, b) => 0 < a ∧ a ≤ 8 ∧ 0 < b ∧ b ≤ 8
def sp__law_meeting : Sp := spIn D__law_meeting (fun a => [.io (encF a.1), .d (eI a.2.1), .d (eI a.2.2)]) (.own .sc) (fun a => (eL eS) (m__law_meeting a.1 a.2.1 a.2.2).1) (fun a => encF (m__law_meeting a.1 a.2.1 a.2.2).2)
theorem pick1 (i : Int) : (gx ([([108] : Tx), ([119] : Tx)] : List Tx) i).length ≤ 1 := gx_all (P := fun (x : Tx) => x.length ≤ 1) (by decide) (by decide)
theorem ok__law_meeting {P : Program} {w : World} {K : PySem.W.Frag} {mg : Str → Option Value} {base : Heap} {f : Addr} {fd : FuncData} (Fn : Fun K "_law_meeting" "_law_meeting" st__law_meeting f fd) {c : Cls} (T : Txt K mg c) {f__law_draw : Addr} {fd__law_draw : FuncData} (C__law_draw : Cal P w K mg base "_law_draw" 1 f__law_draw fd__law_draw ["feed", "many"] sp__law_draw) : FnOk P w K mg base CX0 2 f fd ["feed", "a", "b"] (sp__law_meeting) := FnOk.allI (α := Fd × Int × Int) fun a hD => by
  obtain ⟨feed, a, b⟩ := a
  have hs : sizeLine = 16777216 := sizeLine_eq
  obtain ⟨ha0, ha1, hb0, hb1⟩ := hD
  refine fn_I (n := 3) 0 Fn sc__law_meeting rfl rfl rfl fun cdv A outer s H E hr => ⟨_, (pss_cons (ps_set (i := 3) sc__law_meeting.nd rfl (Or.inr rfl) (k_call C__law_draw hr (pa_cons (pv 0) (pa_cons pe_int pa_nil)))) (pss_cons (ps_ret (pe_lc (own := [("i", 4)]) (g := gName 4) (tt := tYes) rfl sc__law_meeting.nd (pi_range1 (by rfl) T.range (pa_cons (pv 1) pa_nil)) (blkOk_by (N := ["feed", "a", "b", "share", "i", "k"]) (sc := defScope st__law_meeting) (by decide +kernel)) (fun _ _ _ _ _ => (pg_name (i := 4) sc__law_meeting.nd rfl (Or.inl rfl))) (fun _ _ _ _ _ => pts_nil) (fun _ _ _ _ _ => (k_joinS K pe_str (pe_lc (own := [("k", 5)]) (g := gName 5) (tt := tYes) rfl sc__law_meeting.nd (pi_range1 (by rfl) T.range (pa_cons (pv 2) pa_nil)) (by exact blkOk_by (by first | kernel_rfl | rfl)) (fun _ _ _ _ _ => (pg_name (i := 5) sc__law_meeting.nd rfl (Or.inl rfl))) (fun _ _ _ _ _ => pts_nil) (fun _ _ _ _ _ => (pe_ix (k_ixL K) (pe_lst (pa_cons pe_str (pa_cons pe_str pa_nil))) (pe_callTy call_intQ (by rfl) T.int (by decide +kernel) (pa_cons (pe_cmpR op_lt (k_call C__law_draw hr (pa_cons (pv 0) (pa_cons pe_int pa_nil))) (pv 3) (nomark _)) pa_nil)) (fun _ _ => rfl)))))))) pss_nil)), fun A0 B0 p => ?_⟩
  refine s_topI (en := (eL eS)) (r := m__law_meeting feed a b) (es := encF) ?_
  unfold m__law_meeting
  exact (s_asgP (t := (m__law_draw feed (5 : Int))) (en := eI) (fρ := fun (share_1 : Int × Fd) => [.io p .iob (encF share_1.2), .v .out (eI a), .v .out (eI b), .no, .no, .no]) (e_callJ (b := .sc) (d := eI (m__law_draw feed (5 : Int)).1) (i := 0) (as := [.io (encF feed), .d (eI (5 : Int))]) (es' := encF (m__law_draw feed (5 : Int)).2) (a_cons (e_io rfl) (a_cons e_int a_nil trivial) rfl) rfl rfl rfl ⟨rfl, rfl, ⟨rfl, trivial⟩⟩ (fun vs H Q E hsp => ⟨(feed, (5 : Int)), (by walk_at "tp_pre"), hsp⟩)) (fun share_1 hshare_1 => (s_leave (s_retO (o_lcS (b := .sc) (rng 0 a) eI eS (fun (s_3 : Fd) => [.io p .iob (encF s_3), .v .out (eI a), .v .out (eI b), .v .sc (eI share_1.1), .no, .no]) (fun (i_2 : Int) (s_3 : Fd) => [.io p .iob (encF s_3), .v .out (eI a), .v .out (eI b), .v .sc (eI share_1.1), .v .sc (eI i_2), .no]) (fun _ => True) (fun (i_2 : Int) (s_3 : Fd) => (true, s_3)) (fun (i_2 : Int) (s_3 : Fd) => ((joinT ([] : Tx) ((compS (fun (k_4 : Int) (s_5 : Fd) => (true, s_5)) (fun (k_4 : Int) (s_5 : Fd) => ((gx ([([108] : Tx), ([119] : Tx)] : List Tx) (if decide ((m__law_draw s_5 (4 : Int)).1 < share_1.1) then (1 : Int) else 0)), (m__law_draw s_5 (4 : Int)).2)) (rng 0 b) s_3).1)), (compS (fun (k_4 : Int) (s_5 : Fd) => (true, s_5)) (fun (k_4 : Int) (s_5 : Fd) => ((gx ([([108] : Tx), ([119] : Tx)] : List Tx) (if decide ((m__law_draw s_5 (4 : Int)).1 < share_1.1) then (1 : Int) else 0)), (m__law_draw s_5 (4 : Int)).2)) (rng 0 b) s_3).2)) share_1.2 (i_range1 (e_var rfl) (by walk_at "tp") (by walk_at "tp")) (stb_cons rfl (fun _ => rfl) stb_nil) (fun _ => rfl) trivial (fun i_2 s_3 hmi_2 hJ => (g_nameS (b' := .sc) (IsSc.int _))) (fun i_2 s_3 hmi_2 hJ => ⟨t_yes, trivial⟩) (fun i_2 s_3 hmi_2 hJ _ => ⟨(e_join (xs := (compS (fun (k_4 : Int) (s_5 : Fd) => (true, s_5)) (fun (k_4 : Int) (s_5 : Fd) => ((gx ([([108] : Tx), ([119] : Tx)] : List Tx) (if decide ((m__law_draw s_5 (4 : Int)).1 < share_1.1) then (1 : Int) else 0)), (m__law_draw s_5 (4 : Int)).2)) (rng 0 b) s_3).1) (e_str (y := S [])) (e_fz (o_lcS (b := .sc) (rng 0 b) eI eS (fun (s_5 : Fd) => [.io p .iob (encF s_5), .v .out (eI a), .v .out (eI b), .v .sc (eI share_1.1), .v .sc (eI i_2), .no]) (fun (k_4 : Int) (s_5 : Fd) => [.io p .iob (encF s_5), .v .out (eI a), .v .out (eI b), .v .sc (eI share_1.1), .v .sc (eI i_2), .v .sc (eI k_4)]) (fun _ => True) (fun (k_4 : Int) (s_5 : Fd) => (true, s_5)) (fun (k_4 : Int) (s_5 : Fd) => ((gx ([([108] : Tx), ([119] : Tx)] : List Tx) (if decide ((m__law_draw s_5 (4 : Int)).1 < share_1.1) then (1 : Int) else 0)), (m__law_draw s_5 (4 : Int)).2)) s_3 (i_range1 (e_var rfl) (by walk_at "tp") (by walk_at "tp")) (stb_cons rfl (fun _ => rfl) stb_nil) (fun _ => rfl) trivial (fun k_4 s_5 hmk_4 hJ => (g_nameS (b' := .sc) (IsSc.int _))) (fun k_4 s_5 hmk_4 hJ => ⟨t_yes, trivial⟩) (fun k_4 s_5 hmk_4 hJ _ => ⟨(e_ixZ (K := K) (xs := ([([108] : Tx), ([119] : Tx)] : List Tx)) (e := eS) (fun _ => (IsSc.str _)) (e_fz (o_lstE (b := .sc) (xs := ([([108] : Tx), ([119] : Tx)] : List Tx)) (e := eS) (a_cons (e_str (y := S [108])) (a_cons (e_str (y := S [119])) a_nil trivial) trivial) ⟨rfl, rfl, trivial⟩ rfl)) (e_intB (e_cmp (f := fun i j => decide (i < j)) (e_callJ (b := .sc) (d := eI (m__law_draw s_5 (4 : Int)).1) (i := 0) (as := [.io (encF s_5), .d (eI (4 : Int))]) (es' := encF (m__law_draw s_5 (4 : Int)).2) (a_cons (e_io rfl) (a_cons e_int a_nil trivial) rfl) rfl rfl rfl ⟨rfl, rfl, ⟨rfl, trivial⟩⟩ (fun vs H Q E hsp => ⟨(s_5, (4 : Int)), (by walk_at "tp_pre"), hsp⟩)) (e_var rfl))) trivial (by walk_at "tp_inb")), trivial⟩) (fun _ _ => rfl) (by walk_at "tp_len"))) (.inl rfl) (Nat.le_trans (joinSize_le (m := 1) (compS_all _ _ fun _ _ _ => pick1 _)) (Nat.le_trans (Nat.mul_le_mul_right _ (compS_len _ _)) (by rw [rng_len]; simp only [List.length_nil]; omega)))), trivial⟩) (fun _ _ => rfl) (by walk_at "tp_len")) ⟨rfl, rfl, rfl⟩))))
abbrev st_is_meeting_row : Stmt := topS 6
theorem sc_is_meeting_row : FnScope ["row", "sign"] ["row"] (defScope st_is_meeting_row) := ⟨rfl, rfl, rfl, by decide +kernel, rfl, by decide +kernel, by decide +kernel⟩
def m_is_meeting_row (row : Tx) : Bool := ((decide ((1 : Int) ≤ ((row).length : Int)) && decide (((row).length : Int) ≤ (8 : Int))) && (((signs row).map (fun (sign_1 : Tx) => decide (sign_1 ∈ ([([119] : Tx), ([108] : Tx)] : List Tx))))).all id)
def D_is_meeting_row : Tx → Prop := fun row => row.length ≤ 1000
def sp_is_meeting_row : Sp := spFn D_is_meeting_row (fun a => [eS a]) (.k .sc) (fun a => eB (m_is_meeting_row a))
theorem ok_is_meeting_row {P : Program} {w : World} {K : PySem.W.Frag} {mg : Str → Option Value} {base : Heap} {f : Addr} {fd : FuncData} (Fn : Fun K "is_meeting_row" "is_meeting_row" st_is_meeting_row f fd) {c : Cls} (T : Txt K mg c) : FnOk P w K mg base CX0 1 f fd ["row"] (sp_is_meeting_row) := FnOk.all (α := Tx) fun a hD => by
  revert hD; revert a; intro row hD
  have hs : sizeLine = 16777216 := sizeLine_eq
  have hz : row.length ≤ 1000 := hD
  refine fn_F (n := 1) Fn sc_is_meeting_row rfl rfl fun cdv A outer s H E hr => ⟨_, (pss_cons (ps_ret (pe_and (pe_chain op_le op_le pe_int (pe_callB call_lenX (by rfl) T.len PySem.boot_len (pa_cons (pv 0) pa_nil)) (pe_glob (v := .int 8) (by rfl) (T.c_MOST_IN_CLUB).choose_spec ⟨_, rfl⟩)) (pe_one (pe_callB (k_all K) (by rfl) T.all (by decide +kernel) (pa_cons (pe_lc (own := [("sign", 1)]) (g := gName 1) (tt := tYes) rfl sc_is_meeting_row.nd (pi_str (pv 0)) (blkOk_by (N := ["row", "sign"]) (sc := defScope st_is_meeting_row) (by decide +kernel)) (fun _ _ _ _ _ => (pg_name (i := 1) sc_is_meeting_row.nd rfl (Or.inl rfl))) (fun _ _ _ _ _ => pts_nil) (fun _ _ _ _ _ => (pe_cmpR (k_in K) (pv 1) (pe_tup (pa_cons pe_str (pa_cons pe_str pa_nil))) (by rfl)))) pa_nil))))) pss_nil), fun A0 => ?_⟩
  refine s_top (en := eB) (r := m_is_meeting_row row) ?_
  unfold m_is_meeting_row
  exact (s_leave (s_ret (rk := .k .sc) (e_and (e_chain (f := fun i j => decide (i ≤ j)) (g := fun i j => decide (i ≤ j)) e_int (e_lenS (e_var rfl) (by walk_at "tp")) (fun h => e_int)) (fun h => (e_all (e_fz (o_lc0 (b := .sc) (signs row) eS eB (fun (sign_1 : Tx) => [.v .out (eS row), .v .sc (eS sign_1)]) (fun (sign_1 : Tx) => decide (sign_1 ∈ ([([119] : Tx), ([108] : Tx)] : List Tx))) (i_str (e_var rfl)) (stb_cons rfl (fun _ => rfl) stb_nil) (fun sign_1 hmsign_1 => (g_nameS (b' := .sc) (IsSc.str _))) (fun sign_1 hmsign_1 => (e_inE (xs := ([([119] : Tx), ([108] : Tx)] : List Tx)) (e_var rfl) (e_tupE (b := .sc) (xs := ([([119] : Tx), ([108] : Tx)] : List Tx)) (e := eS) (a_cons (e_str (y := S [119])) (a_cons (e_str (y := S [108])) a_nil trivial) trivial) ⟨rfl, rfl, trivial⟩ rfl) (.inr rfl))) (fun sign_1 => rfl) (by walk_at "tp_len")))))) ⟨rfl, rfl⟩))
end
end LW

namespace LW
noncomputable section
open PySem PySem.Spec L2 TP
local macro_rules | `(tactic| walk_at "tp") => `(tactic| first | omega | (dsimp only at *; omega) | decide | (subst_vars; simp only [Bool.and_eq_true, decide_eq_true_eq, List.length_cons, List.length_nil, List.length_append, signs_len, rng_len] at *; omega))
local macro_rules | `(tactic| walk_at "tp_len") => `(tactic| first | omega | (simp only [List.length_map, rng_len, signs_len, List.length_append, List.length_cons, List.length_nil] at *; omega))
local macro_rules | `(tactic| walk_at "tp_mul") => `(tactic| (unfold L2.CMul; first | omega | (dsimp only at *; omega) | (subst_vars; dsimp only at *; omega)))
local macro_rules | `(tactic| walk_at "tp_pow") => `(tactic| (unfold L2.CPow; first | decide | omega))
local macro_rules | `(tactic| walk_at "tp_div") => `(tactic| (apply cdivW <;> omega))
local macro_rules | `(tactic| walk_at "tp_inb") => `(tactic| first | assumption | (unfold Inb; first | omega | (simp only [List.length_cons, List.length_nil, Bool.and_eq_true, decide_eq_true_eq] at *; omega)))
local macro_rules | `(tactic| walk_at "tp_pre") => `(tactic| first | (refine ⟨?_, ?_⟩ <;> omega) | (unfold D__law_draw; omega))
local macro_rules | `(tactic| walk_at "tp_rep") => `(tactic| first | omega | (simp only [List.length_cons, List.length_nil]; omega) | (simp only [List.length_cons, List.length_nil, Nat.zero_add, Nat.one_mul]; omega))

def Small (rows : List Tx) : Prop := rows.length ≤ 1000 ∧ ∀ row ∈ rows, row.length ≤ 1000
structure Meet (rows : List Tx) : Prop where
  a1 : 1 ≤ rows.length
  a8 : rows.length ≤ 8
  b1 : 1 ≤ (gx rows 0).length
  b8 : (gx rows 0).length ≤ 8
  ln : ∀ row ∈ rows, row.length = (gx rows 0).length
  sg : ∀ row ∈ rows, ∀ s ∈ row, s = 119 ∨ s = 108
theorem Meet.in0 {rows : List Tx} (h : Meet rows) : Inb rows 0 := ⟨by have := h.a1; omega, by have := h.a1; omega⟩
theorem Meet.small {rows : List Tx} (h : Meet rows) : Small rows := ⟨by have := h.a8; omega, fun row hr => by have := h.ln row hr; have := h.b8; omega⟩
theorem Small.get {rows : List Tx} (h : Small rows) {i : Int} : (gx rows i).length ≤ 1000 := gx_all (P := fun (x : Tx) => x.length ≤ 1000) h.2 (by decide)
abbrev st__law_is_whole : Stmt := topS 12
theorem sc__law_is_whole : FnScope ["x"] ["x"] (defScope st__law_is_whole) := ⟨rfl, rfl, rfl, by decide +kernel, rfl, by decide +kernel, by decide +kernel⟩
def m__law_is_whole (x : PyData) : Bool := (isInt (eD x) && (!(isBool (eD x))))
def D__law_is_whole : PyData → Prop := fun x => True
def sp__law_is_whole : Sp := spFn D__law_is_whole (fun a => [eD a]) (.k .sc) (fun a => eB (m__law_is_whole a))
theorem ok__law_is_whole {P : Program} {w : World} {K : PySem.W.Frag} {mg : Str → Option Value} {base : Heap} {f : Addr} {fd : FuncData} (Fn : Fun K "_law_is_whole" "_law_is_whole" st__law_is_whole f fd) {c : Cls} (T : Txt K mg c) : FnOk P w K mg base CX0 1 f fd ["x"] (sp__law_is_whole) := FnOk.all (α := PyData) fun a hD => by
  revert hD; revert a; intro x hD
  have hs : sizeLine = 16777216 := sizeLine_eq
  refine fn_F (n := 0) Fn sc__law_is_whole rfl rfl fun cdv A outer s H E hr => ⟨_, (pss_cons (ps_ret (pe_and (pe_callB (k_isi K) (by rfl) T.isinstance (by decide +kernel) (pa_cons (pv 0) (pa_cons (pe_bltn (v := .ty "int") (by rfl) T.int (by decide +kernel) rfl) pa_nil))) (pe_one (pe_not (pe_callB (k_isi K) (by rfl) T.isinstance (by decide +kernel) (pa_cons (pv 0) (pa_cons (pe_bltn (v := .ty "bool") (by rfl) T.bool (by decide +kernel) rfl) pa_nil))))))) pss_nil), fun A0 => ?_⟩
  refine s_top (en := eB) (r := m__law_is_whole x) ?_
  unfold m__law_is_whole
  exact (s_leave (s_ret (rk := .k .sc) (e_and (e_isInt (d := eD x) (e_var rfl)) (fun h => (e_not (e_isBool (d := eD x) (e_var rfl))))) ⟨rfl, rfl⟩))
theorem okH__law_is_whole {P : Program} {w : World} {K : PySem.W.Frag} {mg : Str → Option Value} {base : Heap} {f : Addr} {fd : FuncData} (Fn : Fun K "_law_is_whole" "_law_is_whole" st__law_is_whole f fd) {c : Cls} (T : Txt K mg c) : L2H.FnH P w K mg base CX0 1 f fd ["x"] (sp__law_is_whole) := FnH.all (α := PyData) fun a hD => by
  revert hD; revert a; intro x hD
  have hs : sizeLine = 16777216 := sizeLine_eq
  refine fn_H (n := 0) Fn sc__law_is_whole rfl rfl fun cdv A outer s H E p hr => ⟨_, (pss_cons (ps_ret (pe_and (pe_callB (k_isi K) (by rfl) T.isinstance (by decide +kernel) (pa_cons (pv 0) (pa_cons (pe_bltn (v := .ty "int") (by rfl) T.int (by decide +kernel) rfl) pa_nil))) (pe_one (pe_not (pe_callB (k_isi K) (by rfl) T.isinstance (by decide +kernel) (pa_cons (pv 0) (pa_cons (pe_bltn (v := .ty "bool") (by rfl) T.bool (by decide +kernel) rfl) pa_nil))))))) pss_nil), fun A0 => ?_⟩
  refine s_top (en := eB) (r := m__law_is_whole x) ?_
  unfold m__law_is_whole
  exact (s_leave (s_ret (rk := .k .sc) (e_and (e_isInt (d := eD x) (e_var rfl)) (fun h => (e_not (e_isBool (d := eD x) (e_var rfl))))) ⟨rfl, rfl⟩))
end
end LW

namespace LW
noncomputable section
open PySem PySem.Spec L2 TP
local macro_rules | `(tactic| walk_at "tp") => `(tactic| first | omega | (dsimp only at *; omega) | decide | (subst_vars; simp only [Bool.and_eq_true, decide_eq_true_eq, List.length_cons, List.length_nil, List.length_append, signs_len, rng_len] at *; omega))
local macro_rules | `(tactic| walk_at "tp_len") => `(tactic| first | omega | (simp only [List.length_map, rng_len, signs_len, List.length_append, List.length_cons, List.length_nil] at *; omega))
local macro_rules | `(tactic| walk_at "tp_mul") => `(tactic| (unfold L2.CMul; first | omega | (dsimp only at *; omega) | (subst_vars; dsimp only at *; omega)))
local macro_rules | `(tactic| walk_at "tp_pow") => `(tactic| (unfold L2.CPow; first | decide | omega))
local macro_rules | `(tactic| walk_at "tp_div") => `(tactic| (apply cdivW <;> omega))
local macro_rules | `(tactic| walk_at "tp_inb") => `(tactic| first | assumption | (unfold Inb; first | omega | (simp only [List.length_cons, List.length_nil, Bool.and_eq_true, decide_eq_true_eq] at *; omega)))
local macro_rules | `(tactic| walk_at "tp_pre") => `(tactic| first | (refine ⟨?_, ?_⟩ <;> omega) | (unfold D__law_draw; omega))
local macro_rules | `(tactic| walk_at "tp_rep") => `(tactic| first | omega | (simp only [List.length_cons, List.length_nil]; omega) | (simp only [List.length_cons, List.length_nil, Nat.zero_add, Nat.one_mul]; omega))
abbrev st_check_meeting : Stmt := topS 7
theorem sc_check_meeting : FnScope ["rows", "at", "row"] ["rows"] (defScope st_check_meeting) := ⟨rfl, rfl, rfl, by decide +kernel, rfl, by decide +kernel, by decide +kernel⟩
def m_check_meeting (rows : (List Tx)) : (Ex Unit) := (iteB (!(decide ((1 : Int) ≤ ((rows).length : Int)) && decide (((rows).length : Int) ≤ (8 : Int)))) (Ex.er 0 [("at", (-(1 : Int)))]) (flT (loopL (fun (x_2 : (Int × Tx)) (s_3 : Unit) => ((iteB ((!(m_is_meeting_row x_2.2)) || (!(decide (((x_2.2).length : Int) = (((gx rows (0 : Int))).length : Int))))) (Fl.ret (Ex.er 0 [("at", x_2.1)])) (Fl.go ())) : Fl Unit (Ex Unit))) (enumL rows) ()) fun (s_5 : Unit) => (Ex.ok ())))
def D_check_meeting : (List Tx) → Prop := fun rows => Small rows
def sp_check_meeting (c : Cls) : Sp := spXn (fun _ => c.BadTable) D_check_meeting (fun a => [(eL eS) a]) (.k .sc) eN (fun a => m_check_meeting a)
theorem er_check_meeting {rows : List Tx} {c : Nat} {fs : List (Str × Int)} (h : m_check_meeting rows = .er c fs) : ∃ n, fs = [(("at" : Str), n)] := by
  have hh : Er1 "at" (m_check_meeting rows) := by
    unfold m_check_meeting
    repeat' (first | with_reducible exact er1_ok | with_reducible exact er1_er | with_reducible apply er1_ite | (with_reducible apply er1_bnd; intro _) | with_reducible apply er1_flT | with_reducible exact rt_go | with_reducible exact rt_brk | with_reducible apply rt_ret | with_reducible apply rt_ite | (with_reducible apply rt_bnd; intro _) | with_reducible apply rt_flF | with_reducible apply rt_loop | with_reducible intro _)
  exact hh c fs h
theorem ok_check_meeting {P : Program} {w : World} {K : PySem.W.Frag} {mg : Str → Option Value} {base : Heap} {f : Addr} {fd : FuncData} (Fn : Fun K "check_meeting" "check_meeting" st_check_meeting f fd) {c : Cls} (T : Txt K mg c) {f_is_meeting_row : Addr} {fd_is_meeting_row : FuncData} (C_is_meeting_row : Cal P w K mg base "is_meeting_row" 1 f_is_meeting_row fd_is_meeting_row ["row"] sp_is_meeting_row) {fI_BadTable : Addr} {fdI_BadTable : FuncData} (I_BadTable : IniOk P w K mg base c.BadTable fI_BadTable fdI_BadTable ["self", "at"] (spIni1 K "at")) : FnOk P w K mg base (L2N.CX P w) 3 f fd ["rows"] ((sp_check_meeting c)) := FnOk.allX (α := (List Tx)) fun a hD => by
  revert hD; revert a; intro rows hD
  have hs : sizeLine = 16777216 := sizeLine_eq
  have hS : Small rows := hD
  obtain ⟨z1, z2⟩ := id hS
  refine fn_N (n := 2) Fn sc_check_meeting (fun _ _ h => by cases h) rfl rfl fun cdv A outer s H E hr => ⟨_, (pss_cons (ps_if (pt_not (pt_chain op_le op_le pe_int (pe_callB (k_len K) (by rfl) T.len PySem.boot_len (pa_cons (pv 0) pa_nil)) (pe_glob (v := .int 8) (by rfl) (T.c_MOST_IN_CLUB).choose_spec ⟨_, rfl⟩))) (pss_cons (L2N.ps_raise rfl (L2N.takes_of rfl rfl rfl rfl) (pmk_ini T.x_BadTable.oc I_BadTable.iC I_BadTable.tI I_BadTable.ok (hr.mono (by decide)) I_BadTable.bd pass0 rfl T.x_BadTable.gl (pa_cons (pe_un un_neg pe_int) pa_nil))) pss_nil) pss_nil) (pss_cons (ps_for (passes_of rfl) rfl (k_enum K T.enumerate (pa_cons (pv 0) pa_nil)) (k_tup K (pgs_cons (pg_name (i := 1) sc_check_meeting.nd rfl (Or.inl rfl)) (pgs_cons (pg_name (i := 2) sc_check_meeting.nd rfl (Or.inl rfl)) pgs_nil))) (pss_cons (ps_if (PW.pt (pw_or (pt_not (pt_val (k_call C_is_meeting_row hr (pa_cons (pv 2) pa_nil)))) (pw_or1 (pt_cmpR op_ne (pe_callB call_lenX (by rfl) T.len PySem.boot_len (pa_cons (pv 2) pa_nil)) (pe_callB call_lenX (by rfl) T.len PySem.boot_len (pa_cons (pe_ix (k_ixL K) (pv 0) pe_int (fun _ _ => rfl)) pa_nil)) (nomark _))))) (pss_cons (L2N.ps_raise rfl (L2N.takes_of rfl rfl rfl rfl) (pmk_ini T.x_BadTable.oc I_BadTable.iC I_BadTable.tI I_BadTable.ok (hr.mono (by decide)) I_BadTable.bd pass0 rfl T.x_BadTable.gl (pa_cons (pv 1) pa_nil))) pss_nil) pss_nil) pss_nil)) pss_nil)), fun A0 => ?_⟩
  unfold m_check_meeting
  exact (s_ifN (t_not (t_val (e_chain (f := fun i j => decide (i ≤ j)) (g := fun i j => decide (i ≤ j)) e_int (e_lenE (xs := rows) (e := eS) (e_var rfl)) (fun h => e_int)))) (fun hc_1 => (s_leave (s_raise1 rfl rfl (a_cons (e_neg e_int) a_nil trivial) T.x_BadTable.oc T.no_BadTable_at rfl))) (fun hc_1 => (s_forNX (vs := [1, 2]) (enumL rows) (eP eI eS) (fun (s_3 : Unit) => [.v .out ((eL eS) rows), .no, .no]) (fun (x_2 : (Int × Tx)) (s_3 : Unit) => [.v .out ((eL eS) rows), .v .sc (eI x_2.1), .v .sc (eS x_2.2)]) _ (fun (x_2 : (Int × Tx)) (s_3 : Unit) => ((iteB ((!(m_is_meeting_row x_2.2)) || (!(decide (((x_2.2).length : Int) = (((gx rows (0 : Int))).length : Int))))) (Fl.ret (Ex.er 0 [("at", x_2.1)])) (Fl.go ())) : Fl Unit (Ex Unit))) (fun _ _ => True) (fun _ => True) () (i_enumE (e_var rfl)) (Wk.eq (Wk.eq (Wk.eq Wk.nil))) trivial (fun i_x_2 x_2 s_3 h_x_2 j_s_3 => (g_tup (gs_cons (g_nameS (b' := .sc) (IsSc.int _)) (gs_cons (g_nameS (b' := .sc) (IsSc.str _)) gs_nil)))) (fun i_x_2 x_2 s_3 h_x_2 j_s_3 => (s_ifR (t_or (t_not (t_valB (e_call (b := .sc) (d := eB (m_is_meeting_row x_2.2)) (a_cons (e_var rfl) a_nil trivial) (fun vs H Q E hsp => ⟨x_2.2, (z2 _ (enum_mem h_x_2)), hsp⟩)))) (fun h => (t_val (e_neI (e_lenS (e_var rfl) (by have := z2 _ (enum_mem h_x_2); omega)) (e_lenS (e_ixZ (K := K) (xs := rows) (e := eS) (fun _ => (IsSc.str _)) (e_var rfl) e_int trivial (inb0 (enum_mem h_x_2))) (by have := hS.get (i := 0); omega)))))) (fun hc_4 => (s_leave (s_raise1 rfl rfl (a_cons (e_var rfl) a_nil trivial) T.x_BadTable.oc T.no_BadTable_at ⟨_, rfl, rfl⟩) (ng_nx ng_ret))) (fun hc_4 => (s_end ⟨_, rfl, rfl⟩ (Wk.eq (Wk.no (Wk.no Wk.nil))))) (ng_nx ng_ret))) (fun i_x_2 x_2 s_3 s_3' h_x_2 j_s_3 q_s_3 => trivial) (fun i_x_2 x_2 s_3 s_3' h_x_2 j_s_3 q_s_3 => trivial) (fun s_3 j_s_3 => trivial) (fun s_5 hs_5 js_5 => (s_fall ⟨rfl, rfl⟩)))))
end
end LW

namespace LW
noncomputable section
open PySem PySem.Spec L2 TP
local macro_rules | `(tactic| walk_at "tp") => `(tactic| first | omega | (dsimp only at *; omega) | decide | (subst_vars; simp only [Bool.and_eq_true, decide_eq_true_eq, List.length_cons, List.length_nil, List.length_append, signs_len, rng_len] at *; omega))
local macro_rules | `(tactic| walk_at "tp_len") => `(tactic| first | omega | (simp only [List.length_map, rng_len, signs_len, List.length_append, List.length_cons, List.length_nil] at *; omega))
local macro_rules | `(tactic| walk_at "tp_mul") => `(tactic| (unfold L2.CMul; first | omega | (dsimp only at *; omega) | (subst_vars; dsimp only at *; omega)))
local macro_rules | `(tactic| walk_at "tp_pow") => `(tactic| (unfold L2.CPow; first | decide | omega))
local macro_rules | `(tactic| walk_at "tp_div") => `(tactic| (apply cdivW <;> omega))
local macro_rules | `(tactic| walk_at "tp_inb") => `(tactic| first | assumption | (unfold Inb; first | omega | (simp only [List.length_cons, List.length_nil, Bool.and_eq_true, decide_eq_true_eq] at *; omega)))
local macro_rules | `(tactic| walk_at "tp_pre") => `(tactic| first | (refine ⟨?_, ?_⟩ <;> omega) | (unfold D__law_draw; omega))
local macro_rules | `(tactic| walk_at "tp_rep") => `(tactic| first | omega | (simp only [List.length_cons, List.length_nil]; omega) | (simp only [List.length_cons, List.length_nil, Nat.zero_add, Nat.one_mul]; omega))
abbrev st_wins_of_both : Stmt := topS 8
theorem sc_wins_of_both : FnScope ["rows", "first", "second", "row", "k"] ["rows"] (defScope st_wins_of_both) := ⟨rfl, rfl, rfl, by decide +kernel, rfl, by decide +kernel, by decide +kernel⟩
def m_wins_of_both (rows : (List Tx)) : ((List Int) × (List Int)) := (bnd (rows.map (fun (row_1 : Tx) => ((row_1).count 119 : Int))) fun (first_3 : (List Int)) => (bnd ((rng 0 (((gx rows (0 : Int))).length : Int)).map (fun (k_4 : Int) => ((((rows.filter (fun (row_6 : Tx) => decide ([gx row_6 k_4] = ([108] : Tx)))).map (fun (row_6 : Tx) => row_6))).length : Int))) fun (second_8 : (List Int)) => (first_3, second_8)))
def D_wins_of_both : (List Tx) → Prop := fun rows => Meet rows
def sp_wins_of_both : Sp := spFn D_wins_of_both (fun a => [(eL eS) a]) (.k .new) (fun a => (eP (eL eI) (eL eI)) (m_wins_of_both a))
theorem wins_len (rows : List Tx) : (m_wins_of_both rows).1.length = rows.length ∧ (m_wins_of_both rows).2.length = (gx rows 0).length := by unfold m_wins_of_both bnd; simp [rng_len]
theorem ok_wins_of_both {P : Program} {w : World} {K : PySem.W.Frag} {mg : Str → Option Value} {base : Heap} {f : Addr} {fd : FuncData} (Fn : Fun K "wins_of_both" "wins_of_both" st_wins_of_both f fd) {c : Cls} (T : Txt K mg c) : FnOk P w K mg base CX0 1 f fd ["rows"] (sp_wins_of_both) := FnOk.all (α := (List Tx)) fun a hD => by
  revert hD; revert a; intro rows hD
  have hs : sizeLine = 16777216 := sizeLine_eq
  have hM : Meet rows := hD
  have l1 := hM.a1
  have l8 := hM.a8
  have lb := hM.b8
  have lc := hM.b1
  have hI := hM.in0
  refine fn_F (n := 4) Fn sc_wins_of_both rfl rfl fun cdv A outer s H E hr => ⟨_, (pss_cons (ps_setLc (i := 1) (own := [("row", 3)]) (g := gName 3) (tt := tYes) rfl sc_wins_of_both.nd rfl rfl (sw_true rfl rfl rfl (by decide +kernel)) (k_pilist K (pv 0)) (blkOk_by (N := ["rows", "first", "second", "row", "k"]) (sc := defScope st_wins_of_both) (by decide +kernel)) (fun _ _ _ _ _ => (pg_name (i := 3) sc_wins_of_both.nd rfl (Or.inl rfl))) (fun _ _ _ _ _ => pts_nil) (fun _ _ _ _ _ => (k_count (pv 3) pe_str))) (pss_cons (ps_setLc (i := 2) (own := [("k", 4)]) (g := gName 4) (tt := tYes) rfl sc_wins_of_both.nd rfl rfl (sw_true rfl rfl rfl (by decide +kernel)) (pi_range1 (by rfl) T.range (pa_cons (pe_callB call_lenX (by rfl) T.len PySem.boot_len (pa_cons (pe_ix (k_ixL K) (pv 0) pe_int (fun _ _ => rfl)) pa_nil)) pa_nil)) (blkOk_by (N := ["rows", "first", "second", "row", "k"]) (sc := defScope st_wins_of_both) (by decide +kernel)) (fun _ _ _ _ _ => (pg_name (i := 4) sc_wins_of_both.nd rfl (Or.inr rfl))) (fun _ _ _ _ _ => pts_nil) (fun _ _ _ _ _ => (pe_callB (k_len K) (by rfl) T.len PySem.boot_len (pa_cons (pe_lc (own := [("row", 3)]) (g := gName 3) rfl sc_wins_of_both.nd (k_pilist K (pv 0)) (by exact blkOk_by (by first | kernel_rfl | rfl)) (fun _ _ _ _ _ => (pg_name (i := 3) sc_wins_of_both.nd rfl (Or.inl rfl))) (fun _ _ _ _ _ => (pts_one (pt_cmpR op_eq (pe_ix ix_str (pv 3) (pv 4) (fun _ _ => rfl)) pe_str (nomark _)))) (fun _ _ _ _ _ => (pv 3))) pa_nil)))) (pss_cons (ps_ret (pe_tup (pa_cons (pv 1) (pa_cons (pv 2) pa_nil)))) pss_nil))), fun A0 => ?_⟩
  refine s_top (en := (eP (eL eI) (eL eI))) (r := m_wins_of_both rows) ?_
  unfold m_wins_of_both
  exact (s_asg (t := (rows.map (fun (row_1 : Tx) => ((row_1).count 119 : Int)))) (en := (eL eI)) (e_fz (o_lc0 (b := .sc) rows eS eI (fun (row_1 : Tx) => [.v .out ((eL eS) rows), .no, .no, .v .sc (eS row_1), .no]) (fun (row_1 : Tx) => ((row_1).count 119 : Int)) (i_listE (xs := rows) (e := eS) (e_var rfl)) (stb_cons rfl (fun _ => rfl) stb_nil) (fun row_1 hmrow_1 => (g_nameS (b' := .sc) (IsSc.str _))) (fun row_1 hmrow_1 => (e_count (c := 119) (e_var rfl) (e_str (y := S [119])))) (fun row_1 => rfl) (by walk_at "tp_len"))) (fun first_3 hfirst_3 => (s_asg (t := ((rng 0 (((gx rows (0 : Int))).length : Int)).map (fun (k_4 : Int) => ((((rows.filter (fun (row_6 : Tx) => decide ([gx row_6 k_4] = ([108] : Tx)))).map (fun (row_6 : Tx) => row_6))).length : Int)))) (en := (eL eI)) (e_fz (o_lc0 (b := .sc) (rng 0 (((gx rows (0 : Int))).length : Int)) eI eI (fun (k_4 : Int) => [.v .out ((eL eS) rows), .v .new ((eL eI) first_3), .no, .no, .v .sc (eI k_4)]) (fun (k_4 : Int) => ((((rows.filter (fun (row_6 : Tx) => decide ([gx row_6 k_4] = ([108] : Tx)))).map (fun (row_6 : Tx) => row_6))).length : Int)) (i_range1 (e_lenS (e_ixZ (K := K) (xs := rows) (e := eS) (fun _ => (IsSc.str _)) (e_var rfl) e_int trivial (by walk_at "tp_inb")) (by walk_at "tp")) (by walk_at "tp") (by walk_at "tp")) (stb_cons rfl (fun _ => rfl) stb_nil) (fun k_4 hmk_4 => (g_nameS (b' := .sc) (IsSc.int _))) (fun k_4 hmk_4 => (e_lenE (xs := ((rows.filter (fun (row_6 : Tx) => decide ([gx row_6 k_4] = ([108] : Tx)))).map (fun (row_6 : Tx) => row_6))) (e := eS) (e_fz (o_lc (b := .sc) rows eS eS (fun (row_6 : Tx) => [.v .out ((eL eS) rows), .v .new ((eL eI) first_3), .no, .v .sc (eS row_6), .v .sc (eI k_4)]) (fun (row_6 : Tx) => decide ([gx row_6 k_4] = ([108] : Tx))) (fun (row_6 : Tx) => row_6) (i_listE (xs := rows) (e := eS) (e_var rfl)) (stb_cons rfl (fun _ => rfl) stb_nil) (fun row_6 hmrow_6 => (g_nameS (b' := .sc) (IsSc.str _))) (fun row_6 hmrow_6 => (t_val (e_eqT (e_ixX (e_var rfl) (e_var rfl) (by have a := hM.ln _ hmrow_6; omega) (by have a := hM.ln _ hmrow_6; have b := mem_rng.mp hmk_4; exact ⟨by omega, by omega⟩)) (e_str (y := S [108]))))) (fun row_6 hmrow_6 hrow_6 => (e_var rfl)) (fun row_6 => rfl) (by walk_at "tp_len"))))) (fun k_4 => rfl) (by walk_at "tp_len"))) (fun second_8 hsecond_8 => (s_leave (s_ret (rk := .k .new) (e_tup (b := .new) (a_cons (e_var rfl) (a_cons (e_var rfl) a_nil trivial) trivial) ⟨rfl, rfl, trivial⟩) ⟨rfl, rfl⟩))))))
end
end LW

namespace LW
noncomputable section
open PySem PySem.Spec L2 TP
local macro_rules | `(tactic| walk_at "tp") => `(tactic| first | omega | (dsimp only at *; omega) | decide | (subst_vars; simp only [Bool.and_eq_true, decide_eq_true_eq, List.length_cons, List.length_nil, List.length_append, signs_len, rng_len] at *; omega))
local macro_rules | `(tactic| walk_at "tp_len") => `(tactic| first | omega | (simp only [List.length_map, rng_len, signs_len, List.length_append, List.length_cons, List.length_nil] at *; omega))
local macro_rules | `(tactic| walk_at "tp_mul") => `(tactic| (unfold L2.CMul; first | omega | (dsimp only at *; omega) | (subst_vars; dsimp only at *; omega)))
local macro_rules | `(tactic| walk_at "tp_pow") => `(tactic| (unfold L2.CPow; first | decide | omega))
local macro_rules | `(tactic| walk_at "tp_div") => `(tactic| (apply cdivW <;> omega))
local macro_rules | `(tactic| walk_at "tp_inb") => `(tactic| first | assumption | (unfold Inb; first | omega | (simp only [List.length_cons, List.length_nil, Bool.and_eq_true, decide_eq_true_eq] at *; omega)))
local macro_rules | `(tactic| walk_at "tp_pre") => `(tactic| first | (refine ⟨?_, ?_⟩ <;> omega) | (unfold D__law_draw; omega))
local macro_rules | `(tactic| walk_at "tp_rep") => `(tactic| first | omega | (simp only [List.length_cons, List.length_nil]; omega) | (simp only [List.length_cons, List.length_nil, Nat.zero_add, Nat.one_mul]; omega))
abbrev st__law_wins : Stmt := topS 15
theorem sc__law_wins : FnScope ["rows", "row", "first", "second", "k", "sign"] ["rows"] (defScope st__law_wins) := ⟨rfl, rfl, rfl, by decide +kernel, rfl, by decide +kernel, by decide +kernel⟩
def m__law_wins (rows : (List Tx)) : ((List Int) × (List Int)) := (bnd (rows.map (fun (row_1 : Tx) => (((((signs row_1).filter (fun (sign_3 : Tx) => decide (sign_3 = ([119] : Tx)))).map (fun (sign_3 : Tx) => sign_3))).length : Int))) fun (first_5 : (List Int)) => (bnd (repL ([(0 : Int)] : List Int) (((gx rows (0 : Int))).length : Int)) fun (second_6 : (List Int)) => (bnd (loopN (fun (row_7 : Tx) (s_8 : ((List Int))) => ((bnd (loopN (fun (k_9 : Int) (s_10 : ((List Int))) => ((bnd ((iteB (decide ([gx row_7 k_9] = ([108] : Tx))) (bnd (sx s_10 k_9 (gx s_10 k_9 + (1 : Int))) fun (second_13 : (List Int)) => second_13) s_10) : ((List Int))) fun (s_12 : ((List Int))) => s_12) : ((List Int)))) (rng 0 ((row_7).length : Int)) s_8) fun (s_14 : ((List Int))) => s_14) : ((List Int)))) rows second_6) fun (s_15 : ((List Int))) => (first_5, s_15))))
def D__law_wins : (List Tx) → Prop := fun rows => Meet rows
def sp__law_wins : Sp := spFn D__law_wins (fun a => [(eL eS) a]) (.k .new) (fun a => (eP (eL eI) (eL eI)) (m__law_wins a))
theorem ok__law_wins {P : Program} {w : World} {K : PySem.W.Frag} {mg : Str → Option Value} {base : Heap} {f : Addr} {fd : FuncData} (Fn : Fun K "_law_wins" "_law_wins" st__law_wins f fd) {c : Cls} (T : Txt K mg c) : FnOk P w K mg base CX0 1 f fd ["rows"] (sp__law_wins) := FnOk.all (α := (List Tx)) fun a hD => by
  revert hD; revert a; intro rows hD
  have hs : sizeLine = 16777216 := sizeLine_eq
  have hM : Meet rows := hD
  have l1 := hM.a1
  have l8 := hM.a8
  have lb := hM.b8
  have lc := hM.b1
  have hI := hM.in0
  refine fn_F (n := 5) Fn sc__law_wins rfl rfl fun cdv A outer s H E hr => ⟨_, (pss_cons (ps_setLc (i := 2) (own := [("row", 1)]) (g := gName 1) (tt := tYes) rfl sc__law_wins.nd rfl rfl (sw_true rfl rfl rfl (by decide +kernel)) (k_pilist K (pv 0)) (blkOk_by (N := ["rows", "row", "first", "second", "k", "sign"]) (sc := defScope st__law_wins) (by decide +kernel)) (fun _ _ _ _ _ => (pg_name (i := 1) sc__law_wins.nd rfl (Or.inl rfl))) (fun _ _ _ _ _ => pts_nil) (fun _ _ _ _ _ => (pe_callB (k_len K) (by rfl) T.len PySem.boot_len (pa_cons (pe_lc (own := [("sign", 5)]) (g := gName 5) rfl sc__law_wins.nd (pi_str (pv 1)) (by exact blkOk_by (by first | kernel_rfl | rfl)) (fun _ _ _ _ _ => (pg_name (i := 5) sc__law_wins.nd rfl (Or.inl rfl))) (fun _ _ _ _ _ => (pts_one (pt_cmpR op_eq (pv 5) pe_str (nomark _)))) (fun _ _ _ _ _ => (pv 5))) pa_nil)))) (pss_cons (ps_set (i := 3) sc__law_wins.nd rfl (Or.inl rfl) (pe_op op_rep (pe_lst (pa_cons pe_int pa_nil)) (pe_callB call_lenX (by rfl) T.len PySem.boot_len (pa_cons (pe_ix (k_ixL K) (pv 0) pe_int (fun _ _ => rfl)) pa_nil)))) (pss_cons (ps_for PassesOwn.never rfl (k_pilist K (pv 0)) (pg_name (i := 1) sc__law_wins.nd rfl (Or.inl rfl)) (pss_cons (ps_for PassesOwn.never rfl (pi_range1 (by rfl) T.range (pa_cons (pe_callB call_lenX (by rfl) T.len PySem.boot_len (pa_cons (pv 1) pa_nil)) pa_nil)) (pg_name (i := 4) sc__law_wins.nd rfl (Or.inl rfl)) (pss_cons (ps_if (pt_cmpR op_eq (pe_ix ix_str (pv 1) (pv 4) (fun _ _ => rfl)) pe_str (nomark _)) (pss_cons (ps_augS (pv 3) (pv 4) (k_get K) pe_int ip_add set_list) pss_nil) pss_nil) pss_nil)) pss_nil)) (pss_cons (ps_ret (pe_tup (pa_cons (pv 2) (pa_cons (pv 3) pa_nil)))) pss_nil)))), fun A0 => ?_⟩
  refine s_top (en := (eP (eL eI) (eL eI))) (r := m__law_wins rows) ?_
  unfold m__law_wins
  exact (s_asg (t := (rows.map (fun (row_1 : Tx) => (((((signs row_1).filter (fun (sign_3 : Tx) => decide (sign_3 = ([119] : Tx)))).map (fun (sign_3 : Tx) => sign_3))).length : Int)))) (en := (eL eI)) (e_fz (o_lc0 (b := .sc) rows eS eI (fun (row_1 : Tx) => [.v .out ((eL eS) rows), .v .sc (eS row_1), .no, .no, .no, .no]) (fun (row_1 : Tx) => (((((signs row_1).filter (fun (sign_3 : Tx) => decide (sign_3 = ([119] : Tx)))).map (fun (sign_3 : Tx) => sign_3))).length : Int)) (i_listE (xs := rows) (e := eS) (e_var rfl)) (stb_cons rfl (fun _ => rfl) stb_nil) (fun row_1 hmrow_1 => (g_nameS (b' := .sc) (IsSc.str _))) (fun row_1 hmrow_1 => (e_lenE (xs := (((signs row_1).filter (fun (sign_3 : Tx) => decide (sign_3 = ([119] : Tx)))).map (fun (sign_3 : Tx) => sign_3))) (e := eS) (e_fz (o_lc (b := .sc) (signs row_1) eS eS (fun (sign_3 : Tx) => [.v .out ((eL eS) rows), .v .sc (eS row_1), .no, .no, .no, .v .sc (eS sign_3)]) (fun (sign_3 : Tx) => decide (sign_3 = ([119] : Tx))) (fun (sign_3 : Tx) => sign_3) (i_str (e_var rfl)) (stb_cons rfl (fun _ => rfl) stb_nil) (fun sign_3 hmsign_3 => (g_nameS (b' := .sc) (IsSc.str _))) (fun sign_3 hmsign_3 => (t_val (e_eqT (e_var rfl) (e_str (y := S [119]))))) (fun sign_3 hmsign_3 hsign_3 => (e_var rfl)) (fun sign_3 => rfl) (by rw [signs_len]; have a := hM.ln _ hmrow_1; omega))))) (fun row_1 => rfl) (by walk_at "tp_len"))) (fun first_5 hfirst_5 => (s_asgO (t := (repL ([(0 : Int)] : List Int) (((gx rows (0 : Int))).length : Int))) (en := (fun (l : (List Int)) => l.map eI)) (o_repE (xs := ([(0 : Int)] : List Int)) (n := (((gx rows (0 : Int))).length : Int)) (e := eI) (e_fz (o_lstE (b := .sc) (xs := ([(0 : Int)] : List Int)) (e := eI) (a_cons e_int a_nil trivial) ⟨rfl, trivial⟩ rfl)) (e_lenS (e_ixZ (K := K) (xs := rows) (e := eS) (fun _ => (IsSc.str _)) (e_var rfl) e_int trivial (by walk_at "tp_inb")) (by walk_at "tp")) trivial (by walk_at "tp") (by walk_at "tp") (by walk_at "tp_rep")) (fun second_6 hsecond_6 => (s_forNJ (vs := [1]) rows eS (fun (s_8 : ((List Int))) => [.v .out ((eL eS) rows), .no, .v .new ((eL eI) first_5), .own .new (s_8.map eI), .no, .no]) (fun (row_7 : Tx) (s_8 : ((List Int))) => [.v .out ((eL eS) rows), .v .sc (eS row_7), .v .new ((eL eI) first_5), .own .new (s_8.map eI), .no, .no]) (fun (row_7 : Tx) (s_8 : ((List Int))) => ((bnd (loopN (fun (k_9 : Int) (s_10 : ((List Int))) => ((bnd ((iteB (decide ([gx row_7 k_9] = ([108] : Tx))) (bnd (sx s_10 k_9 (gx s_10 k_9 + (1 : Int))) fun (second_13 : (List Int)) => second_13) s_10) : ((List Int))) fun (s_12 : ((List Int))) => s_12) : ((List Int)))) (rng 0 ((row_7).length : Int)) s_8) fun (s_14 : ((List Int))) => s_14) : ((List Int)))) (fun _ (s : List Int) => s.length = (gx rows 0).length) second_6 (i_listE (xs := rows) (e := eS) (e_var rfl)) (Wk.eq (Wk.eq (Wk.eq (Wk.eq (Wk.eq (Wk.eq Wk.nil)))))) (by rw [hsecond_6, repL_len]; simp) (fun i_row_7 row_7 s_8 h_row_7 j_s_8 => (g_nameS (b' := .sc) (IsSc.str _))) (fun i_row_7 row_7 s_8 h_row_7 j_s_8 => (s_forNJ (vs := [4]) (rng 0 ((row_7).length : Int)) eI (fun (s_10 : ((List Int))) => [.v .out ((eL eS) rows), .v .sc (eS row_7), .v .new ((eL eI) first_5), .own .new (s_10.map eI), .no, .no]) (fun (k_9 : Int) (s_10 : ((List Int))) => [.v .out ((eL eS) rows), .v .sc (eS row_7), .v .new ((eL eI) first_5), .own .new (s_10.map eI), .v .sc (eI k_9), .no]) (fun (k_9 : Int) (s_10 : ((List Int))) => ((bnd ((iteB (decide ([gx row_7 k_9] = ([108] : Tx))) (bnd (sx s_10 k_9 (gx s_10 k_9 + (1 : Int))) fun (second_13 : (List Int)) => second_13) s_10) : ((List Int))) fun (s_12 : ((List Int))) => s_12) : ((List Int)))) (fun _ (s : List Int) => s.length = (gx rows 0).length) s_8 (i_range1 (e_lenS (e_var rfl) (by have a := hM.ln _ (get_mem h_row_7); omega)) (by have a := hM.ln _ (get_mem h_row_7); omega) (by have a := hM.ln _ (get_mem h_row_7); omega)) (Wk.eq (Wk.eq (Wk.eq (Wk.eq (Wk.eq (Wk.eq Wk.nil)))))) j_s_8 (fun i_k_9 k_9 s_10 h_k_9 j_s_10 => (g_nameS (b' := .sc) (IsSc.int _))) (fun i_k_9 k_9 s_10 h_k_9 j_s_10 => (s_join (f := (fun (s_12 : ((List Int))) => [.v .out ((eL eS) rows), .v .sc (eS row_7), .v .new ((eL eI) first_5), .own .new (s_12.map eI), .v .sc (eI k_9), .no])) (s_if (t_val (e_eqT (e_ixX (e_var rfl) (e_var rfl) (by have a := hM.ln _ (get_mem h_row_7); omega) (by have a := rng_at h_k_9; exact ⟨by omega, by omega⟩)) (e_str (y := S [108])))) (fun hc_11 => (s_augE (K := K) (fo := (fun i j => i + j)) (xs := s_10) (j := k_9) (y := (1 : Int)) rfl (e_var rfl) rfl ((rng_at h_k_9).1) (by have a := hM.ln _ (get_mem h_row_7); have b := rng_at h_k_9; omega) e_int rfl (fun second_13 hsecond_13 => (s_end rfl (Wk.eq (Wk.eq (Wk.eq (Wk.eq (Wk.eq (Wk.eq Wk.nil)))))))))) (fun hc_11 => (s_end rfl (Wk.eq (Wk.eq (Wk.eq (Wk.eq (Wk.eq (Wk.eq Wk.nil))))))))) (fun s_12 hs_12 => (s_end rfl (Wk.eq (Wk.eq (Wk.eq (Wk.eq (Wk.no (Wk.eq Wk.nil)))))))))) (fun i_k_9 k_9 s_10 h_k_9 j_s_10 => (len_ite ((sx_len _ _ _).trans j_s_10) j_s_10)) (fun s_14 hs_14 js_14 => (s_end rfl (Wk.eq (Wk.no (Wk.eq (Wk.eq (Wk.eq (Wk.eq Wk.nil)))))))))) (fun i_row_7 row_7 s_8 h_row_7 j_s_8 => (loopN_len (fun k t ht => len_ite ((sx_len _ _ _).trans ht) ht) _ _ j_s_8)) (fun s_15 hs_15 js_15 => (s_freeze (i := 3) rfl (s_leave (s_ret (rk := .k .new) (e_tup (b := .new) (a_cons (e_var rfl) (a_cons (e_var rfl) a_nil trivial) trivial) ⟨rfl, rfl, trivial⟩) ⟨rfl, rfl⟩)))))))))
end
end LW

namespace LW
noncomputable section
open PySem PySem.Spec L2 TP
local macro_rules | `(tactic| walk_at "tp") => `(tactic| first | omega | (dsimp only at *; omega) | decide | (subst_vars; simp only [Bool.and_eq_true, decide_eq_true_eq, List.length_cons, List.length_nil, List.length_append, signs_len, rng_len] at *; omega))
local macro_rules | `(tactic| walk_at "tp_len") => `(tactic| first | omega | (simp only [List.length_map, rng_len, signs_len, List.length_append, List.length_cons, List.length_nil] at *; omega))
local macro_rules | `(tactic| walk_at "tp_mul") => `(tactic| (unfold L2.CMul; first | omega | (dsimp only at *; omega) | (subst_vars; dsimp only at *; omega)))
local macro_rules | `(tactic| walk_at "tp_pow") => `(tactic| (unfold L2.CPow; first | decide | omega))
local macro_rules | `(tactic| walk_at "tp_div") => `(tactic| (apply cdivW <;> omega))
local macro_rules | `(tactic| walk_at "tp_inb") => `(tactic| first | assumption | (unfold Inb; first | omega | (simp only [List.length_cons, List.length_nil, Bool.and_eq_true, decide_eq_true_eq] at *; omega)))
local macro_rules | `(tactic| walk_at "tp_pre") => `(tactic| first | (refine ⟨?_, ?_⟩ <;> omega) | (unfold D__law_draw; omega))
local macro_rules | `(tactic| walk_at "tp_rep") => `(tactic| first | omega | (simp only [List.length_cons, List.length_nil]; omega) | (simp only [List.length_cons, List.length_nil, Nat.zero_add, Nat.one_mul]; omega))
abbrev st__law_fault : Stmt := topS 14
theorem sc__law_fault : FnScope ["rows", "at", "sign"] ["rows"] (defScope st__law_fault) := ⟨rfl, rfl, rfl, by decide +kernel, rfl, by decide +kernel, by decide +kernel⟩
def m__law_fault (rows : (List Tx)) : (Option Int) := (iteB (!(decide ((1 : Int) ≤ ((rows).length : Int)) && decide (((rows).length : Int) ≤ (8 : Int)))) (some (-(1 : Int))) (flT (loopL (fun (at_2 : Int) (s_3 : Unit) => ((iteB ((!(decide ((1 : Int) ≤ (((gx rows at_2)).length : Int)) && decide ((((gx rows at_2)).length : Int) ≤ (8 : Int)))) || (!(decide ((((gx rows at_2)).length : Int) = (((gx rows (0 : Int))).length : Int))))) (Fl.ret (some at_2)) (iteB (decide ((0 : Int) < (((((signs (gx rows at_2)).filter (fun (sign_5 : Tx) => (!decide (sign_5 ∈ ([([119] : Tx), ([108] : Tx)] : List Tx))))).map (fun (sign_5 : Tx) => sign_5))).length : Int))) (Fl.ret (some at_2)) (Fl.go ()))) : Fl Unit (Option Int))) (rng 0 ((rows).length : Int)) ()) fun (s_8 : Unit) => (none : Option Int)))
def D__law_fault : (List Tx) → Prop := fun rows => Small rows
def sp__law_fault : Sp := spFn D__law_fault (fun a => [(eL eS) a]) (.k .sc) (fun a => (eO eI) (m__law_fault a))
theorem ok__law_fault {P : Program} {w : World} {K : PySem.W.Frag} {mg : Str → Option Value} {base : Heap} {f : Addr} {fd : FuncData} (Fn : Fun K "_law_fault" "_law_fault" st__law_fault f fd) {c : Cls} (T : Txt K mg c) : FnOk P w K mg base CX0 1 f fd ["rows"] (sp__law_fault) := FnOk.all (α := (List Tx)) fun a hD => by
  revert hD; revert a; intro rows hD
  have hs : sizeLine = 16777216 := sizeLine_eq
  have hS : Small rows := hD
  obtain ⟨z1, z2⟩ := id hS
  refine fn_F (n := 2) Fn sc__law_fault rfl rfl fun cdv A outer s H E hr => ⟨_, (pss_cons (ps_if (pt_not (pt_chain op_le op_le pe_int (pe_callB (k_len K) (by rfl) T.len PySem.boot_len (pa_cons (pv 0) pa_nil)) pe_int)) (pss_cons (ps_ret (pe_un un_neg pe_int)) pss_nil) pss_nil) (pss_cons (ps_for PassesOwn.never rfl (pi_range1 (by rfl) T.range (pa_cons (pe_callB (k_len K) (by rfl) T.len PySem.boot_len (pa_cons (pv 0) pa_nil)) pa_nil)) (pg_name (i := 1) sc__law_fault.nd rfl (Or.inl rfl)) (pss_cons (ps_if (PW.pt (pw_or (pt_not (pt_chain op_le op_le pe_int (pe_callB call_lenX (by rfl) T.len PySem.boot_len (pa_cons (pe_ix (k_ixL K) (pv 0) (pv 1) (fun _ _ => rfl)) pa_nil)) pe_int)) (pw_or1 (pt_cmpR op_ne (pe_callB call_lenX (by rfl) T.len PySem.boot_len (pa_cons (pe_ix (k_ixL K) (pv 0) (pv 1) (fun _ _ => rfl)) pa_nil)) (pe_callB call_lenX (by rfl) T.len PySem.boot_len (pa_cons (pe_ix (k_ixL K) (pv 0) pe_int (fun _ _ => rfl)) pa_nil)) (nomark _))))) (pss_cons (ps_ret (pv 1)) pss_nil) pss_nil) (pss_cons (ps_if (pt_cmpR op_gt (pe_callB (k_len K) (by rfl) T.len PySem.boot_len (pa_cons (pe_lc (own := [("sign", 2)]) (g := gName 2) rfl sc__law_fault.nd (pi_str (pe_ix (k_ixL K) (pv 0) (pv 1) (fun _ _ => rfl))) (blkOk_by (N := ["rows", "at", "sign"]) (sc := defScope st__law_fault) (by decide +kernel)) (fun _ _ _ _ _ => (pg_name (i := 2) sc__law_fault.nd rfl (Or.inl rfl))) (fun _ _ _ _ _ => (pts_one (pt_cmpR (k_nin K) (pv 2) (pe_lst (pa_cons pe_str (pa_cons pe_str pa_nil))) (by rfl)))) (fun _ _ _ _ _ => (pv 2))) pa_nil)) pe_int (nomark _)) (pss_cons (ps_ret (pv 1)) pss_nil) pss_nil) pss_nil))) (pss_cons (ps_ret pe_non) pss_nil))), fun A0 => ?_⟩
  refine s_top (en := (eO eI)) (r := m__law_fault rows) ?_
  unfold m__law_fault
  exact (s_ifR (t_not (t_val (e_chain (f := fun i j => decide (i ≤ j)) (g := fun i j => decide (i ≤ j)) e_int (e_lenE (xs := rows) (e := eS) (e_var rfl)) (fun h => e_int)))) (fun hc_1 => (s_leave (s_ret (rk := .k .sc) (e_someO (e := eI) (e_neg e_int)) ⟨rfl, rfl⟩))) (fun hc_1 => (s_forT (vs := [1]) (rng 0 ((rows).length : Int)) eI (fun (s_3 : Unit) => [.v .out ((eL eS) rows), .no, .no]) (fun (at_2 : Int) (s_3 : Unit) => [.v .out ((eL eS) rows), .v .sc (eI at_2), .no]) _ (fun (at_2 : Int) (s_3 : Unit) => ((iteB ((!(decide ((1 : Int) ≤ (((gx rows at_2)).length : Int)) && decide ((((gx rows at_2)).length : Int) ≤ (8 : Int)))) || (!(decide ((((gx rows at_2)).length : Int) = (((gx rows (0 : Int))).length : Int))))) (Fl.ret (some at_2)) (iteB (decide ((0 : Int) < (((((signs (gx rows at_2)).filter (fun (sign_5 : Tx) => (!decide (sign_5 ∈ ([([119] : Tx), ([108] : Tx)] : List Tx))))).map (fun (sign_5 : Tx) => sign_5))).length : Int))) (Fl.ret (some at_2)) (Fl.go ()))) : Fl Unit (Option Int))) (fun _ _ => True) (fun _ => True) () (i_range1 (e_lenE (xs := rows) (e := eS) (e_var rfl)) (by walk_at "tp") (by walk_at "tp")) (Wk.eq (Wk.eq (Wk.eq Wk.nil))) trivial (fun i_at_2 at_2 s_3 h_at_2 j_s_3 => (g_nameS (b' := .sc) (IsSc.int _))) (fun i_at_2 at_2 s_3 h_at_2 j_s_3 => (s_ifR (t_or (t_not (t_val (e_chain (f := fun i j => decide (i ≤ j)) (g := fun i j => decide (i ≤ j)) e_int (e_lenS (e_ixZ (K := K) (xs := rows) (e := eS) (fun _ => (IsSc.str _)) (e_var rfl) (e_var rfl) trivial (by have a := rng_at h_at_2; exact ⟨by omega, by omega⟩)) (by have := hS.get (i := at_2); omega)) (fun h => e_int)))) (fun h => (t_val (e_neI (e_lenS (e_ixZ (K := K) (xs := rows) (e := eS) (fun _ => (IsSc.str _)) (e_var rfl) (e_var rfl) trivial (by have a := rng_at h_at_2; exact ⟨by omega, by omega⟩)) (by have := hS.get (i := at_2); omega)) (e_lenS (e_ixZ (K := K) (xs := rows) (e := eS) (fun _ => (IsSc.str _)) (e_var rfl) e_int trivial (by have a := rng_at h_at_2; exact ⟨by omega, by omega⟩)) (by have := hS.get (i := 0); omega)))))) (fun hc_4 => (s_leave (s_ret (rk := .k .sc) (e_someO (e := eI) (e_var rfl)) ⟨_, rfl, rfl, rfl⟩) (ng_nx ng_ret))) (fun hc_4 => (s_ifR (t_val (e_cmp (f := fun i j => decide (j < i)) (e_lenE (xs := (((signs (gx rows at_2)).filter (fun (sign_5 : Tx) => (!decide (sign_5 ∈ ([([119] : Tx), ([108] : Tx)] : List Tx))))).map (fun (sign_5 : Tx) => sign_5))) (e := eS) (e_fz (o_lc (b := .sc) (signs (gx rows at_2)) eS eS (fun (sign_5 : Tx) => [.v .out ((eL eS) rows), .v .sc (eI at_2), .v .sc (eS sign_5)]) (fun (sign_5 : Tx) => (!decide (sign_5 ∈ ([([119] : Tx), ([108] : Tx)] : List Tx)))) (fun (sign_5 : Tx) => sign_5) (i_str (e_ixZ (K := K) (xs := rows) (e := eS) (fun _ => (IsSc.str _)) (e_var rfl) (e_var rfl) trivial (by have a := rng_at h_at_2; exact ⟨by omega, by omega⟩))) (stb_cons rfl (fun _ => rfl) stb_nil) (fun sign_5 hmsign_5 => (g_nameS (b' := .sc) (IsSc.str _))) (fun sign_5 hmsign_5 => (t_val (e_ninE (xs := ([([119] : Tx), ([108] : Tx)] : List Tx)) (e_var rfl) (e_fz (o_lstE (b := .sc) (xs := ([([119] : Tx), ([108] : Tx)] : List Tx)) (e := eS) (a_cons (e_str (y := S [119])) (a_cons (e_str (y := S [108])) a_nil trivial) trivial) ⟨rfl, rfl, trivial⟩ rfl)) (.inl rfl)))) (fun sign_5 hmsign_5 hsign_5 => (e_var rfl)) (fun sign_5 => rfl) (by rw [signs_len]; have := hS.get (i := at_2); omega)))) e_int)) (fun hc_7 => (s_leave (s_ret (rk := .k .sc) (e_someO (e := eI) (e_var rfl)) ⟨_, rfl, rfl, rfl⟩) (ng_nx ng_ret))) (fun hc_7 => (s_end ⟨_, rfl, rfl⟩ (Wk.eq (Wk.no (Wk.eq Wk.nil))))) (ng_nx ng_ret))) (ng_nx ng_ret))) (fun i_at_2 at_2 s_3 s_3' h_at_2 j_s_3 q_s_3 => trivial) (fun i_at_2 at_2 s_3 s_3' h_at_2 j_s_3 q_s_3 => trivial) (fun s_3 j_s_3 => trivial) (fun s_8 hs_8 js_8 => (s_leave (s_ret (rk := .k .sc) (e_noneO (e := eI) e_non) ⟨rfl, rfl⟩))))))
end
end LW

namespace LW
noncomputable section
open PySem PySem.Spec L2 TP
local macro_rules | `(tactic| walk_at "tp") => `(tactic| first | omega | (dsimp only at *; omega) | decide | (subst_vars; simp only [Bool.and_eq_true, decide_eq_true_eq, List.length_cons, List.length_nil, List.length_append, signs_len, rng_len] at *; omega))
local macro_rules | `(tactic| walk_at "tp_len") => `(tactic| first | omega | (simp only [List.length_map, rng_len, signs_len, List.length_append, List.length_cons, List.length_nil] at *; omega))
local macro_rules | `(tactic| walk_at "tp_mul") => `(tactic| (unfold L2.CMul; first | omega | (dsimp only at *; omega) | (subst_vars; dsimp only at *; omega)))
local macro_rules | `(tactic| walk_at "tp_pow") => `(tactic| (unfold L2.CPow; first | decide | omega))
local macro_rules | `(tactic| walk_at "tp_div") => `(tactic| (apply cdivW <;> omega))
local macro_rules | `(tactic| walk_at "tp_inb") => `(tactic| first | assumption | (unfold Inb; first | omega | (simp only [List.length_cons, List.length_nil, Bool.and_eq_true, decide_eq_true_eq] at *; omega)))
local macro_rules | `(tactic| walk_at "tp_pre") => `(tactic| first | (refine ⟨?_, ?_⟩ <;> omega) | (unfold D__law_draw; omega))
local macro_rules | `(tactic| walk_at "tp_rep") => `(tactic| first | omega | (simp only [List.length_cons, List.length_nil]; omega) | (simp only [List.length_cons, List.length_nil, Nat.zero_add, Nat.one_mul]; omega))
abbrev st__law_checked : Stmt := topS 16
theorem sc__law_checked : FnScope ["rows", "mine", "due", "told", "e"] ["rows"] (defScope st__law_checked) := ⟨rfl, rfl, rfl, by decide +kernel, rfl, by decide +kernel, by decide +kernel⟩
def m__law_checked (rows : (List Tx)) : Bool := (bnd rows fun (mine_1 : (List Tx)) => (bnd (m__law_fault rows) fun (due_2 : (Option Int)) => (exC (m_check_meeting mine_1) (fun (told_3 : Unit) => (due_2.isNone && (true && decide (mine_1 = rows)))) (fun _ fs_x_4 => (iteB ((!true) || (false || (!true))) false ((!due_2.isNone) && ((m__law_is_whole (eI (xn fs_x_4))) && (decide ((some (xn fs_x_4)) = due_2) && decide (mine_1 = rows)))))))))
def D__law_checked : (List Tx) → Prop := fun rows => Small rows
def sp__law_checked : Sp := spFn D__law_checked (fun a => [(eL eS) a]) (.k .sc) (fun a => eB (m__law_checked a))
theorem ok__law_checked {P : Program} {w : World} {K : PySem.W.Frag} {mg : Str → Option Value} {base : Heap} {f : Addr} {fd : FuncData} (Fn : Fun K "_law_checked" "_law_checked" st__law_checked f fd) {c : Cls} (T : Txt K mg c) {f__law_fault : Addr} {fd__law_fault : FuncData} {f_check_meeting : Addr} {fd_check_meeting : FuncData} {f__law_is_whole : Addr} {fd__law_is_whole : FuncData} (C__law_fault : Cal P w K mg base "_law_fault" 1 f__law_fault fd__law_fault ["rows"] sp__law_fault) (CX_check_meeting : CalX P w K mg base "check_meeting" 3 f_check_meeting fd_check_meeting ["rows"] (sp_check_meeting c)) (CH__law_is_whole : CalH P w K mg base "_law_is_whole" 1 f__law_is_whole fd__law_is_whole ["x"] sp__law_is_whole) : FnOk P w K mg base CX0 4 f fd ["rows"] (sp__law_checked) := FnOk.all (α := (List Tx)) fun a hD => by
  revert hD; revert a; intro rows hD
  have hs : sizeLine = 16777216 := sizeLine_eq
  have hS : Small rows := hD
  refine fn_F (n := 4) Fn sc__law_checked rfl rfl fun cdv A outer s H E hr => ⟨_, (pss_cons (ps_set (i := 1) sc__law_checked.nd rfl (Or.inl rfl) (pe_callTy (k_list K) (by rfl) T.list (by decide +kernel) (pa_cons (pv 0) pa_nil))) (pss_cons (ps_set (i := 2) sc__law_checked.nd rfl (Or.inl rfl) (k_call C__law_fault hr (pa_cons (pv 0) pa_nil))) (pss_cons (L2N.ps_try_as (i := 4) (tb := fun W => tAsg (tCallS (sp_check_meeting c) (WE W) _) (gName 3)) (Wout := fun _ _ _ _ => False) rfl rfl sc__law_checked.nd rfl rfl ⟨rfl, by decide, Or.inl T.g_ClubError⟩ takesN0 (fun W pn xe tk _ => pss_one (ps_set (i := 3) sc__law_checked.nd rfl (Or.inl rfl) (by exact (pe_callS CX_check_meeting.ok (hr.mono (by decide)) rfl CX_check_meeting.gl CX_check_meeting.kp CX_check_meeting.bd (fun σ => L2N.passAt tk σ) (pa_cons (pv 1) pa_nil))))) (fun a oe cls d pn hz hf => (pss_cons (ps_if (PW.pt (pw_or (pt_not (pt_val (pe_callB (call_isX hz.zc hf) (by rfl) T.isinstance (by decide +kernel) (pa_cons (pv 4) (pa_cons (pe_glob (v := .ref c.BadTable) (by rfl) T.g_BadTable rfl) pa_nil))))) (pw_or (pt_val (pe_callB (call_isX hz.zc hf) (by rfl) T.isinstance (by decide +kernel) (pa_cons (pv 4) (pa_cons (pe_glob (v := .ref c.BadScores) (by rfl) T.g_BadScores rfl) pa_nil)))) (pw_or1 (pt_not (pt_val (pe_callB (call_isX hz.zc hf) (by rfl) T.isinstance (by decide +kernel) (pa_cons (pv 4) (pa_cons (pe_bltn (v := .ty "ValueError") (by rfl) T.ValueError (by decide +kernel) rfl) pa_nil))))))))) (pss_cons (ps_ret pe_bl) pss_nil) pss_nil) (pss_cons (ps_ret (pe_and (pe_cmpR op_notN (pv 2) pe_non (nomark _)) (pe_and (k_callH CH__law_is_whole (roomH_su hr) (hot_of hz hf) (pa_cons (pe_xf T.x_BadTable.xf T.no_BadTable_at hz.zc hf (pv 4)) pa_nil)) (pe_and (pe_cmpR (k_eqH K (roomH_su hr)) (pe_xf T.x_BadTable.xf T.no_BadTable_at hz.zc hf (pv 4)) (pv 2) (nomark _)) (pe_one (pe_cmpR (k_eqH K (roomH_su hr)) (pv 1) (pv 0) (nomark _))))))) pss_nil)))) (pss_cons (ps_ret (pe_and (pe_cmpR op_isN (pv 2) pe_non (nomark _)) (pe_and (pe_cmpR op_isN (pv 3) pe_non (nomark _)) (pe_one (pe_cmpR (k_eqP K hr) (pv 1) (pv 0) (nomark _)))))) pss_nil)))), fun A0 => ?_⟩
  refine s_top (en := eB) (r := m__law_checked rows) ?_
  unfold m__law_checked
  exact (s_asg (t := rows) (en := (eL eS)) (e_fz (o_sc (b' := .sc) (o_listE (e_var rfl)) (fun _ => (IsSc.str _)))) (fun mine_1 hmine_1 => (s_asg (t := (m__law_fault rows)) (en := (eO eI)) (e_call (b := .sc) (d := (eO eI) (m__law_fault rows)) (a_cons (e_var rfl) a_nil trivial) (fun vs H Q E hsp => ⟨rows, (hS), hsp⟩)) (fun due_2 hdue_2 => (s_try (K := K) (cl := fun _ => c.BadTable) (m := (m_check_meeting mine_1)) (en := eN) (b := .sc) (i := 4) (j := 3) (a_cons (e_var rfl) a_nil trivial) (fun vs H Q E hsp => ⟨mine_1, (hmine_1 ▸ hS), hsp⟩) rfl (fun _ _ _ => T.exm_BadTable_ClubError) rfl rfl (fun told_3 htold_3 => (s_leave (s_ret (rk := .k .sc) (e_and (e_isO (e := eI) (fun _ => rfl) (e_var rfl) e_non trivial) (fun h => (e_and (e_isN (e_var rfl) e_non trivial) (fun h => (e_eqE (e := (eL eS)) (x := mine_1) (y := rows) (eqL eqS) (e_var rfl) (e_var rfl) trivial))))) ⟨rfl, rfl⟩))) (fun c_x_4 fs_x_4 e_x_4 a_x_4 dd_x_4 => have q_x_4 := xl_of (er_check_meeting e_x_4); (s_ifR (t_or (t_not (t_valB (e_isX (D := c.BadTable) rfl T.x_BadTable.xc rel_ref T.kit_BadTable_BadTable_true))) (fun h => (t_or (t_valB (e_isX (D := c.BadTable) rfl T.x_BadTable.xc rel_ref T.kit_BadTable_BadScores_false)) (fun h => (t_not (t_valB (e_isX (D := c.BadTable) rfl T.x_BadTable.xc rel_ty T.kit_BadTable_ValueError_true))))))) (fun hc_5 => (s_leave (s_ret (rk := .k .sc) e_bl ⟨rfl, rfl⟩))) (fun hc_5 => (s_leave (s_ret (rk := .k .sc) (e_and (e_notO (e := eI) (fun _ => rfl) (e_var rfl) e_non trivial) (fun h => (e_and (e_callH (b := .sc) (d := eB (m__law_is_whole (eI (xn fs_x_4)))) (a_cons (e_xf rfl q_x_4) a_nil trivial) (fun vs H Q E hsp => ⟨(eI (xn fs_x_4)), trivial, hsp⟩)) (fun h => (e_and (e_eqE (e := (eO eI)) (x := (some (xn fs_x_4))) (y := due_2) (eqO eqI (fun _ => rfl)) (e_someO (e := eI) (e_xf rfl q_x_4)) (e_var rfl) trivial) (fun h => (e_eqE (e := (eL eS)) (x := mine_1) (y := rows) (eqL eqS) (e_var rfl) (e_var rfl) trivial))))))) ⟨rfl, rfl⟩))))))))))
end
end LW

namespace LW
noncomputable section
open PySem PySem.Spec L2 TP
local macro_rules | `(tactic| walk_at "tp") => `(tactic| first | omega | (dsimp only at *; omega) | decide | (subst_vars; simp only [Bool.and_eq_true, decide_eq_true_eq, List.length_cons, List.length_nil, List.length_append, signs_len, rng_len] at *; omega))
local macro_rules | `(tactic| walk_at "tp_len") => `(tactic| first | omega | (simp only [List.length_map, rng_len, signs_len, List.length_append, List.length_cons, List.length_nil] at *; omega))
local macro_rules | `(tactic| walk_at "tp_mul") => `(tactic| (unfold L2.CMul; first | omega | (dsimp only at *; omega) | (subst_vars; dsimp only at *; omega)))
local macro_rules | `(tactic| walk_at "tp_pow") => `(tactic| (unfold L2.CPow; first | decide | omega))
local macro_rules | `(tactic| walk_at "tp_div") => `(tactic| (apply cdivW <;> omega))
local macro_rules | `(tactic| walk_at "tp_inb") => `(tactic| first | assumption | (unfold Inb; first | omega | (simp only [List.length_cons, List.length_nil, Bool.and_eq_true, decide_eq_true_eq] at *; omega)))
local macro_rules | `(tactic| walk_at "tp_pre") => `(tactic| first | (refine ⟨?_, ?_⟩ <;> omega) | (unfold D__law_draw; omega))
local macro_rules | `(tactic| walk_at "tp_rep") => `(tactic| first | omega | (simp only [List.length_cons, List.length_nil]; omega) | (simp only [List.length_cons, List.length_nil, Nat.zero_add, Nat.one_mul]; omega))
abbrev st__law_counted : Stmt := topS 17
theorem sc__law_counted : FnScope ["rows", "mine", "told", "spoilt", "x"] ["rows"] (defScope st__law_counted) := ⟨rfl, rfl, rfl, by decide +kernel, rfl, by decide +kernel, by decide +kernel⟩
def m__law_counted (rows : (List Tx)) : Bool := (bnd rows fun (mine_1 : (List Tx)) => (bnd (m_wins_of_both mine_1) fun (told_2 : ((List Int) × (List Int))) => (iteB ((!(decide (mine_1 = rows))) || ((!true) || (!(decide (told_2 = (m__law_wins rows)))))) false (iteB (!(decide ((((((told_2.1 ++ told_2.2).filter (fun (x_4 : Int) => (m__law_is_whole (eI x_4)))).map (fun (x_4 : Int) => x_4))).length : Int) = (((rows).length : Int) + (((gx rows (0 : Int))).length : Int))))) false (bnd told_2.1 fun (spoilt_7 : (List Int)) => decide ((m_wins_of_both mine_1) = (m__law_wins rows)))))))
def D__law_counted : (List Tx) → Prop := fun rows => Meet rows
def sp__law_counted : Sp := spFn D__law_counted (fun a => [(eL eS) a]) (.k .sc) (fun a => eB (m__law_counted a))
theorem ok__law_counted {P : Program} {w : World} {K : PySem.W.Frag} {mg : Str → Option Value} {base : Heap} {f : Addr} {fd : FuncData} (Fn : Fun K "_law_counted" "_law_counted" st__law_counted f fd) {c : Cls} (T : Txt K mg c) {f_wins_of_both : Addr} {fd_wins_of_both : FuncData} {f__law_wins : Addr} {fd__law_wins : FuncData} {f__law_is_whole : Addr} {fd__law_is_whole : FuncData} (C_wins_of_both : Cal P w K mg base "wins_of_both" 1 f_wins_of_both fd_wins_of_both ["rows"] sp_wins_of_both) (C__law_wins : Cal P w K mg base "_law_wins" 1 f__law_wins fd__law_wins ["rows"] sp__law_wins) (C__law_is_whole : Cal P w K mg base "_law_is_whole" 1 f__law_is_whole fd__law_is_whole ["x"] sp__law_is_whole) : FnOk P w K mg base CX0 2 f fd ["rows"] (sp__law_counted) := FnOk.all (α := (List Tx)) fun a hD => by
  revert hD; revert a; intro rows hD
  have hs : sizeLine = 16777216 := sizeLine_eq
  have hM : Meet rows := hD
  have l1 := hM.a1
  have l8 := hM.a8
  have lb := hM.b8
  have lc := hM.b1
  have hI := hM.in0
  refine fn_F (n := 4) Fn sc__law_counted rfl rfl fun cdv A outer s H E hr => ⟨_, (pss_cons (ps_set (i := 1) sc__law_counted.nd rfl (Or.inl rfl) (pe_callTy (k_list K) (by rfl) T.list (by decide +kernel) (pa_cons (pv 0) pa_nil))) (pss_cons (ps_set (i := 2) sc__law_counted.nd rfl (Or.inl rfl) (k_call C_wins_of_both hr (pa_cons (pv 1) pa_nil))) (pss_cons (ps_if (PW.pt (pw_or (pt_cmpR (k_neP K hr) (pv 1) (pv 0) (nomark _)) (pw_or (pt_not (pt_val (pe_callB (k_isi K) (by rfl) T.isinstance (by decide +kernel) (pa_cons (pv 2) (pa_cons (pe_bltn (v := .ty "tuple") (by rfl) T.tuple (by decide +kernel) rfl) pa_nil))))) (pw_or1 (pt_cmpR (k_neP K hr) (pv 2) (k_call C__law_wins hr (pa_cons (pv 0) pa_nil)) (nomark _)))))) (pss_cons (ps_ret pe_bl) pss_nil) pss_nil) (pss_cons (ps_if (pt_cmpR op_ne (pe_callB (k_len K) (by rfl) T.len PySem.boot_len (pa_cons (pe_lc (own := [("x", 4)]) (g := gName 4) rfl sc__law_counted.nd (k_pilist K (pe_op op_cat (pe_ix (k_ixT K) (pv 2) pe_int (fun _ _ => rfl)) (pe_ix (k_ixT K) (pv 2) pe_int (fun _ _ => rfl)))) (blkOk_by (N := ["rows", "mine", "told", "spoilt", "x"]) (sc := defScope st__law_counted) (by decide +kernel)) (fun _ _ _ _ _ => (pg_name (i := 4) sc__law_counted.nd rfl (Or.inl rfl))) (fun _ _ _ _ _ => (pts_one (pt_val (k_call C__law_is_whole hr (pa_cons (pv 4) pa_nil))))) (fun _ _ _ _ _ => (pv 4))) pa_nil)) (pe_op op_add (pe_callB (k_len K) (by rfl) T.len PySem.boot_len (pa_cons (pv 0) pa_nil)) (pe_callB call_lenX (by rfl) T.len PySem.boot_len (pa_cons (pe_ix (k_ixL K) (pv 0) pe_int (fun _ _ => rfl)) pa_nil))) (nomark _)) (pss_cons (ps_ret pe_bl) pss_nil) pss_nil) (pss_cons (ps_set (i := 3) sc__law_counted.nd rfl (Or.inl rfl) (pe_ix (k_ixT K) (pv 2) pe_int (fun _ _ => rfl))) (pss_cons (ps_expr (k_append K (pv 3) (pa_cons pe_int pa_nil))) (pss_cons (ps_ret (pe_cmpR (k_eqP K hr) (k_call C_wins_of_both hr (pa_cons (pv 1) pa_nil)) (k_call C__law_wins hr (pa_cons (pv 0) pa_nil)) (nomark _))) pss_nil))))))), fun A0 => ?_⟩
  refine s_top (en := eB) (r := m__law_counted rows) ?_
  unfold m__law_counted
  exact (s_asgO (t := rows) (en := (fun (l : (List Tx)) => l.map eS)) (o_sc (b' := .sc) (o_listE (e_var rfl)) (fun _ => (IsSc.str _))) (fun mine_1 hmine_1 => (s_asg (t := (m_wins_of_both mine_1)) (en := (eP (eL eI) (eL eI))) (e_call (b := .new) (d := (eP (eL eI) (eL eI)) (m_wins_of_both mine_1)) (a_cons (e_own rfl) a_nil rfl) (fun vs H Q E hsp => ⟨mine_1, (hmine_1 ▸ hM), hsp⟩)) (fun told_2 htold_2 => (s_ifR (t_or (t_val (e_neE (e := (eL eS)) (x := mine_1) (y := rows) (eqL eqS) (e_own rfl) (e_var rfl) rfl)) (fun h => (t_or (t_not (t_valB (e_isTuple (d := (eP (eL eI) (eL eI)) told_2) (e_var rfl)))) (fun h => (t_val (e_neE (e := (eP (eL eI) (eL eI))) (x := told_2) (y := (m__law_wins rows)) (eqP (eqL eqI) (eqL eqI)) (e_var rfl) (e_call (b := .new) (d := (eP (eL eI) (eL eI)) (m__law_wins rows)) (a_cons (e_var rfl) a_nil trivial) (fun vs H Q E hsp => ⟨rows, (hM), hsp⟩)) trivial)))))) (fun hc_3 => (s_leave (s_ret (rk := .k .sc) e_bl ⟨rfl, rfl⟩))) (fun hc_3 => (s_ifR (t_val (e_neI (e_lenE (xs := (((told_2.1 ++ told_2.2).filter (fun (x_4 : Int) => (m__law_is_whole (eI x_4)))).map (fun (x_4 : Int) => x_4))) (e := eI) (e_fz (o_lc (b := .sc) (told_2.1 ++ told_2.2) eI eI (fun (x_4 : Int) => [.v .out ((eL eS) rows), .own .sc (mine_1.map eS), .v .new ((eP (eL eI) (eL eI)) told_2), .no, .v .sc (eI x_4)]) (fun (x_4 : Int) => (m__law_is_whole (eI x_4))) (fun (x_4 : Int) => x_4) (i_listE (xs := (told_2.1 ++ told_2.2)) (e := eI) (e_fz (o_catE (b := .new) (xs := told_2.1) (ys := told_2.2) (e := eI) (e_ixT (K := K) (e_var rfl) e_int trivial rfl) (e_ixT (K := K) (e_var rfl) e_int trivial rfl) trivial rfl rfl (by have := wins_len rows; rw [htold_2, hmine_1]; omega)))) (stb_cons rfl (fun _ => rfl) stb_nil) (fun x_4 hmx_4 => (g_nameS (b' := .sc) (IsSc.int _))) (fun x_4 hmx_4 => (t_valB (e_call (b := .sc) (d := eB (m__law_is_whole (eI x_4))) (a_cons (e_var rfl) a_nil trivial) (fun vs H Q E hsp => ⟨(eI x_4), trivial, hsp⟩)))) (fun x_4 hmx_4 hx_4 => (e_var rfl)) (fun x_4 => rfl) (by have := wins_len rows; rw [htold_2, hmine_1, List.length_append]; omega)))) (e_add (e_lenE (xs := rows) (e := eS) (e_var rfl)) (e_lenS (e_ixZ (K := K) (xs := rows) (e := eS) (fun _ => (IsSc.str _)) (e_var rfl) e_int trivial (by walk_at "tp_inb")) (by walk_at "tp"))))) (fun hc_6 => (s_leave (s_ret (rk := .k .sc) e_bl ⟨rfl, rfl⟩))) (fun hc_6 => (s_asg (t := told_2.1) (en := (eL eI)) (e_ixT (K := K) (e_var rfl) e_int trivial rfl) (fun spoilt_7 hspoilt_7 => (s_spoil (K := K) (ds := (spoilt_7).map eI) (ρ2 := [.v .out ((eL eS) rows), .own .sc (mine_1.map eS), .no, .no, .no]) rfl rfl e_int rfl (by rw [List.length_map]; exact (by have := wins_len rows; rw [hspoilt_7, htold_2, hmine_1]; omega)) rfl (s_leave (s_ret (rk := .k .sc) (e_eqE (e := (eP (eL eI) (eL eI))) (x := (m_wins_of_both mine_1)) (y := (m__law_wins rows)) (eqP (eqL eqI) (eqL eqI)) (e_call (b := .new) (d := (eP (eL eI) (eL eI)) (m_wins_of_both mine_1)) (a_cons (e_own rfl) a_nil rfl) (fun vs H Q E hsp => ⟨mine_1, (hmine_1 ▸ hM), hsp⟩)) (e_call (b := .new) (d := (eP (eL eI) (eL eI)) (m__law_wins rows)) (a_cons (e_var rfl) a_nil trivial) (fun vs H Q E hsp => ⟨rows, (hM), hsp⟩)) trivial) ⟨rfl, rfl⟩)))))))))))))
end
end LW

namespace LW
noncomputable section
open PySem PySem.Spec L2 TP
local macro_rules | `(tactic| walk_at "tp") => `(tactic| first | omega | (dsimp only at *; omega) | decide | (subst_vars; simp only [Bool.and_eq_true, decide_eq_true_eq, List.length_cons, List.length_nil, List.length_append, signs_len, rng_len] at *; omega))
local macro_rules | `(tactic| walk_at "tp_len") => `(tactic| first | omega | (simp only [List.length_map, rng_len, signs_len, List.length_append, List.length_cons, List.length_nil] at *; omega))
local macro_rules | `(tactic| walk_at "tp_mul") => `(tactic| (unfold L2.CMul; first | omega | (dsimp only at *; omega) | (subst_vars; dsimp only at *; omega)))
local macro_rules | `(tactic| walk_at "tp_pow") => `(tactic| (unfold L2.CPow; first | decide | omega))
local macro_rules | `(tactic| walk_at "tp_div") => `(tactic| (apply cdivW <;> omega))
local macro_rules | `(tactic| walk_at "tp_inb") => `(tactic| first | assumption | (unfold Inb; first | omega | (simp only [List.length_cons, List.length_nil, Bool.and_eq_true, decide_eq_true_eq] at *; omega)))
local macro_rules | `(tactic| walk_at "tp_pre") => `(tactic| first | (refine ⟨?_, ?_⟩ <;> omega) | (unfold D__law_draw; omega))
local macro_rules | `(tactic| walk_at "tp_rep") => `(tactic| first | omega | (simp only [List.length_cons, List.length_nil]; omega) | (simp only [List.length_cons, List.length_nil, Nat.zero_add, Nat.one_mul]; omega))
abbrev st__law_near : Stmt := topS 18
theorem sc__law_near : FnScope ["feed", "rows", "at", "row", "place", "found", "one", "sign"] ["feed", "rows"] (defScope st__law_near) := ⟨rfl, rfl, rfl, by decide +kernel, rfl, by decide +kernel, by decide +kernel⟩
def m__law_near (feed : Fd) (rows : (List Tx)) : ((List (List Tx)) × Fd) := (bnd (m__law_draw feed ((rows).length : Int)) fun (at_1 : Int × Fd) => (bnd (gx rows at_1.1) fun (row_2 : Tx) => (bnd (m__law_draw at_1.2 ((row_2).length : Int)) fun (place_3 : Int × Fd) => (bnd ([rows, ((cutL rows none (some at_1.1)) ++ (cutL rows (some (at_1.1 + (1 : Int))) none)), (rows ++ ([row_2] : List Tx)), (rows ++ (repL ([(mulT ([119] : Tx) ((row_2).length : Int))] : List Tx) ((9 : Int) - ((rows).length : Int)))), ([] : List Tx)] : List (List Tx)) fun (found_4 : (List (List Tx))) => (bnd (loopN (fun (one_5 : Tx) (s_6 : ((List (List Tx)))) => ((bnd (s_6 ++ [(((cutL rows none (some at_1.1)) ++ ([one_5] : List Tx)) ++ (cutL rows (some (at_1.1 + (1 : Int))) none))]) fun (found_7 : (List (List Tx))) => found_7) : ((List (List Tx))))) ([(row_2 ++ ([119] : Tx)), (cutL row_2 (some (1 : Int)) none), ([] : Tx), (mulT ([119] : Tx) (8 : Int)), (mulT ([108] : Tx) (9 : Int)), (upperT row_2), (row_2 ++ ([32] : Tx))] : List Tx) found_4) fun (s_8 : ((List (List Tx)))) => (bnd (loopN (fun (sign_9 : Tx) (s_10 : ((List (List Tx)))) => ((bnd (s_10 ++ [(((cutL rows none (some at_1.1)) ++ ([(((cutL row_2 none (some place_3.1)) ++ sign_9) ++ (cutL row_2 (some (place_3.1 + (1 : Int))) none))] : List Tx)) ++ (cutL rows (some (at_1.1 + (1 : Int))) none))]) fun (found_11 : (List (List Tx))) => found_11) : ((List (List Tx))))) ([([119] : Tx), ([108] : Tx), ([45] : Tx), ([63] : Tx), ([100] : Tx), ([87] : Tx), ([32] : Tx), ([49] : Tx)] : List Tx) s_8) fun (s_12 : ((List (List Tx)))) => (s_12, place_3.2)))))))
def D__law_near : Fd × (List Tx) → Prop := fun (feed, rows) => Meet rows
def sp__law_near : Sp := spIn D__law_near (fun a => [.io (encF a.1), .d ((eL eS) a.2)]) (.own .val) (fun a => (eL (eL eS)) (m__law_near a.1 a.2).1) (fun a => encF (m__law_near a.1 a.2).2)
theorem ok__law_near {P : Program} {w : World} {K : PySem.W.Frag} {mg : Str → Option Value} {base : Heap} {f : Addr} {fd : FuncData} (Fn : Fun K "_law_near" "_law_near" st__law_near f fd) {c : Cls} (T : Txt K mg c) {f__law_draw : Addr} {fd__law_draw : FuncData} (C__law_draw : Cal P w K mg base "_law_draw" 1 f__law_draw fd__law_draw ["feed", "many"] sp__law_draw) : FnOk P w K mg base CX0 2 f fd ["feed", "rows"] (sp__law_near) := FnOk.allI (α := Fd × (List Tx)) fun a hD => by
  obtain ⟨feed, rows⟩ := a
  have hs : sizeLine = 16777216 := sizeLine_eq
  have hM : Meet rows := hD
  have l1 := hM.a1
  have l8 := hM.a8
  have lb := hM.b8
  have lc := hM.b1
  have hI := hM.in0
  refine fn_I (n := 6) 0 Fn sc__law_near rfl rfl rfl fun cdv A outer s H E hr => ⟨_, (pss_cons (ps_set (i := 2) sc__law_near.nd rfl (Or.inl rfl) (k_call C__law_draw hr (pa_cons (pv 0) (pa_cons (pe_callB (k_len K) (by rfl) T.len PySem.boot_len (pa_cons (pv 1) pa_nil)) pa_nil)))) (pss_cons (ps_set (i := 3) sc__law_near.nd rfl (Or.inl rfl) (pe_ix (k_ixL K) (pv 1) (pv 2) (fun _ _ => rfl))) (pss_cons (ps_set (i := 4) sc__law_near.nd rfl (Or.inl rfl) (k_call C__law_draw hr (pa_cons (pv 0) (pa_cons (pe_callB call_lenX (by rfl) T.len PySem.boot_len (pa_cons (pv 3) pa_nil)) pa_nil)))) (pss_cons (ps_set (i := 5) sc__law_near.nd rfl (Or.inl rfl) (pe_lst (pa_cons (pv 1) (pa_cons (pe_op op_cat (pe_slice (k_slL K) (pv 1) po_none (po_some (pv 2))) (pe_slice (k_slL K) (pv 1) (po_some (pe_op op_add (pv 2) pe_int)) po_none)) (pa_cons (pe_op op_cat (pv 1) (pe_lst (pa_cons (pv 3) pa_nil))) (pa_cons (pe_op op_cat (pv 1) (pe_op op_rep (pe_lst (pa_cons (pe_op op_mul_str pe_str (pe_callB call_lenX (by rfl) T.len PySem.boot_len (pa_cons (pv 3) pa_nil))) pa_nil)) (pe_op op_sub pe_int (pe_callB (k_len K) (by rfl) T.len PySem.boot_len (pa_cons (pv 1) pa_nil))))) (pa_cons (pe_lst pa_nil) pa_nil))))))) (pss_cons (ps_for PassesOwn.never rfl (k_pilist K (pe_lst (pa_cons (pe_op op_add_str (pv 3) pe_str) (pa_cons (pe_slice sl_str (pv 3) (po_some pe_int) po_none) (pa_cons pe_str (pa_cons (pe_op op_mul_str pe_str pe_int) (pa_cons (pe_op op_mul_str pe_str pe_int) (pa_cons (k_upper (pv 3)) (pa_cons (pe_op op_add_str (pv 3) pe_str) pa_nil))))))))) (pg_name (i := 6) sc__law_near.nd rfl (Or.inl rfl)) (pss_cons (ps_expr (k_append K (pv 5) (pa_cons (pe_op op_cat (pe_op op_cat (pe_slice (k_slL K) (pv 1) po_none (po_some (pv 2))) (pe_lst (pa_cons (pv 6) pa_nil))) (pe_slice (k_slL K) (pv 1) (po_some (pe_op op_add (pv 2) pe_int)) po_none)) pa_nil))) pss_nil)) (pss_cons (ps_for PassesOwn.never rfl (k_pilist K (pe_lst (pa_cons pe_str (pa_cons pe_str (pa_cons pe_str (pa_cons pe_str (pa_cons pe_str (pa_cons pe_str (pa_cons pe_str (pa_cons pe_str pa_nil)))))))))) (pg_name (i := 7) sc__law_near.nd rfl (Or.inl rfl)) (pss_cons (ps_expr (k_append K (pv 5) (pa_cons (pe_op op_cat (pe_op op_cat (pe_slice (k_slL K) (pv 1) po_none (po_some (pv 2))) (pe_lst (pa_cons (pe_op op_add_str (pe_op op_add_str (pe_slice sl_str (pv 3) po_none (po_some (pv 4))) (pv 7)) (pe_slice sl_str (pv 3) (po_some (pe_op op_add (pv 4) pe_int)) po_none)) pa_nil))) (pe_slice (k_slL K) (pv 1) (po_some (pe_op op_add (pv 2) pe_int)) po_none)) pa_nil))) pss_nil)) (pss_cons (ps_ret (pv 5)) pss_nil))))))), fun A0 B0 p => ?_⟩
  refine s_topI (en := (eL (eL eS))) (r := m__law_near feed rows) (es := encF) ?_
  unfold m__law_near
  exact (s_asgP (t := (m__law_draw feed ((rows).length : Int))) (en := eI) (fρ := fun (at_1 : Int × Fd) => [.io p .iob (encF at_1.2), .v .out ((eL eS) rows), .no, .no, .no, .no, .no, .no]) (e_callJ (b := .sc) (d := eI (m__law_draw feed ((rows).length : Int)).1) (i := 0) (as := [.io (encF feed), .d (eI ((rows).length : Int))]) (es' := encF (m__law_draw feed ((rows).length : Int)).2) (a_cons (e_io rfl) (a_cons (e_lenE (xs := rows) (e := eS) (e_var rfl)) a_nil trivial) rfl) rfl rfl rfl ⟨rfl, rfl, ⟨rfl, trivial⟩⟩ (fun vs H Q E hsp => ⟨(feed, ((rows).length : Int)), (by walk_at "tp_pre"), hsp⟩)) (fun at_1 hat_1 => (s_asg (t := (gx rows at_1.1)) (en := eS) (e_ixZ (K := K) (xs := rows) (e := eS) (fun _ => (IsSc.str _)) (e_var rfl) (e_var rfl) trivial (by have a1 := draw_in feed (rows.length : Int) (by omega); rw [← hat_1] at a1; exact ⟨by omega, by omega⟩)) (fun row_2 hrow_2 => (s_asgP (t := (m__law_draw at_1.2 ((row_2).length : Int))) (en := eI) (fρ := fun (place_3 : Int × Fd) => [.io p .iob (encF place_3.2), .v .out ((eL eS) rows), .v .sc (eI at_1.1), .v .sc (eS row_2), .no, .no, .no, .no]) (e_callJ (b := .sc) (d := eI (m__law_draw at_1.2 ((row_2).length : Int)).1) (i := 0) (as := [.io (encF at_1.2), .d (eI ((row_2).length : Int))]) (es' := encF (m__law_draw at_1.2 ((row_2).length : Int)).2) (a_cons (e_io rfl) (a_cons (e_lenS (e_var rfl) (by have a1 := draw_in feed (rows.length : Int) (by omega); rw [← hat_1] at a1; have r1 : row_2 ∈ rows := (by rw [hrow_2]; exact gx_mem ⟨by omega, by omega⟩); have r2 := hM.ln _ r1; have b1 := cutL_len_le rows none (some at_1.1); have b2 := cutL_len_le rows (some (at_1.1 + 1)) none; first | omega | (simp only [List.length_append, List.length_cons, List.length_nil, repL_len, mulT_len] at *; omega))) a_nil trivial) rfl) rfl rfl rfl ⟨rfl, rfl, ⟨rfl, trivial⟩⟩ (fun vs H Q E hsp => ⟨(at_1.2, ((row_2).length : Int)), (by have a1 := draw_in feed (rows.length : Int) (by omega); rw [← hat_1] at a1; have r1 : row_2 ∈ rows := (by rw [hrow_2]; exact gx_mem ⟨by omega, by omega⟩); have r2 := hM.ln _ r1; have b1 := cutL_len_le rows none (some at_1.1); have b2 := cutL_len_le rows (some (at_1.1 + 1)) none; exact ⟨by omega, by omega⟩), hsp⟩)) (fun place_3 hplace_3 => (s_asgO (t := ([rows, ((cutL rows none (some at_1.1)) ++ (cutL rows (some (at_1.1 + (1 : Int))) none)), (rows ++ ([row_2] : List Tx)), (rows ++ (repL ([(mulT ([119] : Tx) ((row_2).length : Int))] : List Tx) ((9 : Int) - ((rows).length : Int)))), ([] : List Tx)] : List (List Tx))) (en := (fun (l : (List (List Tx))) => l.map (eL eS))) (o_lstE (b := .val) (xs := ([rows, ((cutL rows none (some at_1.1)) ++ (cutL rows (some (at_1.1 + (1 : Int))) none)), (rows ++ ([row_2] : List Tx)), (rows ++ (repL ([(mulT ([119] : Tx) ((row_2).length : Int))] : List Tx) ((9 : Int) - ((rows).length : Int)))), ([] : List Tx)] : List (List Tx))) (e := (eL eS)) (a_cons (e_var rfl) (a_cons (e_fz (o_catE (b := .new) (xs := (cutL rows none (some at_1.1))) (ys := (cutL rows (some (at_1.1 + (1 : Int))) none)) (e := eS) (e_fz (o_sc (b' := .sc) (e := eS) (o_slE (xs := rows) (e := eS) (e_var rfl) p_none (p_some (e_var rfl)) trivial) (fun _ => (IsSc.str _)))) (e_fz (o_sc (b' := .sc) (e := eS) (o_slE (xs := rows) (e := eS) (e_var rfl) (p_some (e_add (e_var rfl) e_int)) p_none trivial) (fun _ => (IsSc.str _)))) trivial rfl rfl (by have a1 := draw_in feed (rows.length : Int) (by omega); rw [← hat_1] at a1; have r1 : row_2 ∈ rows := (by rw [hrow_2]; exact gx_mem ⟨by omega, by omega⟩); have r2 := hM.ln _ r1; have b1 := cutL_len_le rows none (some at_1.1); have b2 := cutL_len_le rows (some (at_1.1 + 1)) none; first | omega | (simp only [List.length_append, List.length_cons, List.length_nil, repL_len, mulT_len] at *; omega)))) (a_cons (e_fz (o_catE (b := .val) (xs := rows) (ys := ([row_2] : List Tx)) (e := eS) (e_var rfl) (e_fz (o_lstE (b := .sc) (xs := ([row_2] : List Tx)) (e := eS) (a_cons (e_var rfl) a_nil trivial) ⟨rfl, trivial⟩ rfl)) trivial rfl rfl (by have a1 := draw_in feed (rows.length : Int) (by omega); rw [← hat_1] at a1; have r1 : row_2 ∈ rows := (by rw [hrow_2]; exact gx_mem ⟨by omega, by omega⟩); have r2 := hM.ln _ r1; have b1 := cutL_len_le rows none (some at_1.1); have b2 := cutL_len_le rows (some (at_1.1 + 1)) none; first | omega | (simp only [List.length_append, List.length_cons, List.length_nil, repL_len, mulT_len] at *; omega)))) (a_cons (e_fz (o_catE (b := .val) (xs := rows) (ys := (repL ([(mulT ([119] : Tx) ((row_2).length : Int))] : List Tx) ((9 : Int) - ((rows).length : Int)))) (e := eS) (e_var rfl) (e_fz (o_repE (xs := ([(mulT ([119] : Tx) ((row_2).length : Int))] : List Tx)) (n := ((9 : Int) - ((rows).length : Int))) (e := eS) (e_fz (o_lstE (b := .sc) (xs := ([(mulT ([119] : Tx) ((row_2).length : Int))] : List Tx)) (e := eS) (a_cons (e_mulS (e_str (y := S [119])) (e_lenS (e_var rfl) (by have a1 := draw_in feed (rows.length : Int) (by omega); rw [← hat_1] at a1; have r1 : row_2 ∈ rows := (by rw [hrow_2]; exact gx_mem ⟨by omega, by omega⟩); have r2 := hM.ln _ r1; have b1 := cutL_len_le rows none (some at_1.1); have b2 := cutL_len_le rows (some (at_1.1 + 1)) none; first | omega | (simp only [List.length_append, List.length_cons, List.length_nil, repL_len, mulT_len] at *; omega))) (by have a1 := draw_in feed (rows.length : Int) (by omega); rw [← hat_1] at a1; have r1 : row_2 ∈ rows := (by rw [hrow_2]; exact gx_mem ⟨by omega, by omega⟩); have r2 := hM.ln _ r1; have b1 := cutL_len_le rows none (some at_1.1); have b2 := cutL_len_le rows (some (at_1.1 + 1)) none; first | omega | (simp only [List.length_append, List.length_cons, List.length_nil, repL_len, mulT_len] at *; omega)) (by have a1 := draw_in feed (rows.length : Int) (by omega); rw [← hat_1] at a1; have r1 : row_2 ∈ rows := (by rw [hrow_2]; exact gx_mem ⟨by omega, by omega⟩); have r2 := hM.ln _ r1; have b1 := cutL_len_le rows none (some at_1.1); have b2 := cutL_len_le rows (some (at_1.1 + 1)) none; first | omega | (simp only [List.length_append, List.length_cons, List.length_nil, repL_len, mulT_len] at *; omega)) (by have a1 := draw_in feed (rows.length : Int) (by omega); rw [← hat_1] at a1; have r1 : row_2 ∈ rows := (by rw [hrow_2]; exact gx_mem ⟨by omega, by omega⟩); have r2 := hM.ln _ r1; have b1 := cutL_len_le rows none (some at_1.1); have b2 := cutL_len_le rows (some (at_1.1 + 1)) none; first | omega | (simp only [List.length_append, List.length_cons, List.length_nil, repL_len, mulT_len] at *; omega))) a_nil trivial) ⟨rfl, trivial⟩ rfl)) (e_sub e_int (e_lenE (xs := rows) (e := eS) (e_var rfl))) trivial (by have a1 := draw_in feed (rows.length : Int) (by omega); rw [← hat_1] at a1; have r1 : row_2 ∈ rows := (by rw [hrow_2]; exact gx_mem ⟨by omega, by omega⟩); have r2 := hM.ln _ r1; have b1 := cutL_len_le rows none (some at_1.1); have b2 := cutL_len_le rows (some (at_1.1 + 1)) none; first | omega | (simp only [List.length_append, List.length_cons, List.length_nil, repL_len, mulT_len] at *; omega)) (by have a1 := draw_in feed (rows.length : Int) (by omega); rw [← hat_1] at a1; have r1 : row_2 ∈ rows := (by rw [hrow_2]; exact gx_mem ⟨by omega, by omega⟩); have r2 := hM.ln _ r1; have b1 := cutL_len_le rows none (some at_1.1); have b2 := cutL_len_le rows (some (at_1.1 + 1)) none; first | omega | (simp only [List.length_append, List.length_cons, List.length_nil, repL_len, mulT_len] at *; omega)) (by have a1 := draw_in feed (rows.length : Int) (by omega); rw [← hat_1] at a1; have r1 : row_2 ∈ rows := (by rw [hrow_2]; exact gx_mem ⟨by omega, by omega⟩); have r2 := hM.ln _ r1; have b1 := cutL_len_le rows none (some at_1.1); have b2 := cutL_len_le rows (some (at_1.1 + 1)) none; first | omega | (simp only [List.length_append, List.length_cons, List.length_nil, repL_len, mulT_len] at *; omega)))) trivial rfl rfl (by have a1 := draw_in feed (rows.length : Int) (by omega); rw [← hat_1] at a1; have r1 : row_2 ∈ rows := (by rw [hrow_2]; exact gx_mem ⟨by omega, by omega⟩); have r2 := hM.ln _ r1; have b1 := cutL_len_le rows none (some at_1.1); have b2 := cutL_len_le rows (some (at_1.1 + 1)) none; first | omega | (simp only [List.length_append, List.length_cons, List.length_nil, repL_len, mulT_len] at *; omega)))) (a_cons (e_fz (o_lstE (b := .sc) (xs := ([] : List Tx)) (e := eS) a_nil trivial rfl)) a_nil trivial) trivial) trivial) trivial) trivial) ⟨rfl, rfl, rfl, rfl, rfl, trivial⟩ rfl) (fun found_4 hfound_4 => (s_forNJ (vs := [6]) ([(row_2 ++ ([119] : Tx)), (cutL row_2 (some (1 : Int)) none), ([] : Tx), (mulT ([119] : Tx) (8 : Int)), (mulT ([108] : Tx) (9 : Int)), (upperT row_2), (row_2 ++ ([32] : Tx))] : List Tx) eS (fun (s_6 : ((List (List Tx)))) => [.io p .iob (encF place_3.2), .v .out ((eL eS) rows), .v .sc (eI at_1.1), .v .sc (eS row_2), .v .sc (eI place_3.1), .own .val (s_6.map (eL eS)), .no, .no]) (fun (one_5 : Tx) (s_6 : ((List (List Tx)))) => [.io p .iob (encF place_3.2), .v .out ((eL eS) rows), .v .sc (eI at_1.1), .v .sc (eS row_2), .v .sc (eI place_3.1), .own .val (s_6.map (eL eS)), .v .sc (eS one_5), .no]) (fun (one_5 : Tx) (s_6 : ((List (List Tx)))) => ((bnd (s_6 ++ [(((cutL rows none (some at_1.1)) ++ ([one_5] : List Tx)) ++ (cutL rows (some (at_1.1 + (1 : Int))) none))]) fun (found_7 : (List (List Tx))) => found_7) : ((List (List Tx))))) (fun i (s : List (List Tx)) => s.length ≤ 5 + i) found_4 (i_listE (xs := ([(row_2 ++ ([119] : Tx)), (cutL row_2 (some (1 : Int)) none), ([] : Tx), (mulT ([119] : Tx) (8 : Int)), (mulT ([108] : Tx) (9 : Int)), (upperT row_2), (row_2 ++ ([32] : Tx))] : List Tx)) (e := eS) (e_fz (o_lstE (b := .sc) (xs := ([(row_2 ++ ([119] : Tx)), (cutL row_2 (some (1 : Int)) none), ([] : Tx), (mulT ([119] : Tx) (8 : Int)), (mulT ([108] : Tx) (9 : Int)), (upperT row_2), (row_2 ++ ([32] : Tx))] : List Tx)) (e := eS) (a_cons (e_addS (e_var rfl) (e_str (y := S [119])) (by have a1 := draw_in feed (rows.length : Int) (by omega); rw [← hat_1] at a1; have r1 : row_2 ∈ rows := (by rw [hrow_2]; exact gx_mem ⟨by omega, by omega⟩); have r2 := hM.ln _ r1; have b1 := cutL_len_le rows none (some at_1.1); have b2 := cutL_len_le rows (some (at_1.1 + 1)) none; first | omega | (simp only [List.length_append, List.length_cons, List.length_nil, repL_len, mulT_len] at *; omega))) (a_cons (e_slS (e_var rfl) (p_some e_int) p_none (by have a1 := draw_in feed (rows.length : Int) (by omega); rw [← hat_1] at a1; have r1 : row_2 ∈ rows := (by rw [hrow_2]; exact gx_mem ⟨by omega, by omega⟩); have r2 := hM.ln _ r1; have b1 := cutL_len_le rows none (some at_1.1); have b2 := cutL_len_le rows (some (at_1.1 + 1)) none; first | omega | (simp only [List.length_append, List.length_cons, List.length_nil, repL_len, mulT_len] at *; omega))) (a_cons (e_str (y := S [])) (a_cons (e_mulS (e_str (y := S [119])) e_int (by walk_at "tp") (by walk_at "tp") (by walk_at "tp_rep")) (a_cons (e_mulS (e_str (y := S [108])) e_int (by walk_at "tp") (by walk_at "tp") (by walk_at "tp_rep")) (a_cons (e_upper (e_var rfl) (by have a1 := draw_in feed (rows.length : Int) (by omega); rw [← hat_1] at a1; have r1 : row_2 ∈ rows := (by rw [hrow_2]; exact gx_mem ⟨by omega, by omega⟩); have r2 := hM.ln _ r1; have b1 := cutL_len_le rows none (some at_1.1); have b2 := cutL_len_le rows (some (at_1.1 + 1)) none; first | omega | (simp only [List.length_append, List.length_cons, List.length_nil, repL_len, mulT_len] at *; omega))) (a_cons (e_addS (e_var rfl) (e_str (y := S [32])) (by have a1 := draw_in feed (rows.length : Int) (by omega); rw [← hat_1] at a1; have r1 : row_2 ∈ rows := (by rw [hrow_2]; exact gx_mem ⟨by omega, by omega⟩); have r2 := hM.ln _ r1; have b1 := cutL_len_le rows none (some at_1.1); have b2 := cutL_len_le rows (some (at_1.1 + 1)) none; first | omega | (simp only [List.length_append, List.length_cons, List.length_nil, repL_len, mulT_len] at *; omega))) a_nil trivial) trivial) trivial) trivial) trivial) trivial) trivial) ⟨rfl, rfl, rfl, rfl, rfl, rfl, rfl, trivial⟩ rfl))) (Wk.eq (Wk.eq (Wk.eq (Wk.eq (Wk.eq (Wk.eq (Wk.eq (Wk.eq Wk.nil)))))))) (by rw [hfound_4]; simp) (fun i_one_5 one_5 s_6 h_one_5 j_s_6 => (g_nameS (b' := .sc) (IsSc.str _))) (fun i_one_5 one_5 s_6 h_one_5 j_s_6 => (s_appE (xs := s_6) (x := (((cutL rows none (some at_1.1)) ++ ([one_5] : List Tx)) ++ (cutL rows (some (at_1.1 + (1 : Int))) none))) (e := (eL eS)) rfl (e_fz (o_catE (b := .new) (xs := ((cutL rows none (some at_1.1)) ++ ([one_5] : List Tx))) (ys := (cutL rows (some (at_1.1 + (1 : Int))) none)) (e := eS) (e_fz (o_catE (b := .new) (xs := (cutL rows none (some at_1.1))) (ys := ([one_5] : List Tx)) (e := eS) (e_fz (o_sc (b' := .sc) (e := eS) (o_slE (xs := rows) (e := eS) (e_var rfl) p_none (p_some (e_var rfl)) trivial) (fun _ => (IsSc.str _)))) (e_fz (o_lstE (b := .sc) (xs := ([one_5] : List Tx)) (e := eS) (a_cons (e_var rfl) a_nil trivial) ⟨rfl, trivial⟩ rfl)) trivial rfl rfl (by have a1 := draw_in feed (rows.length : Int) (by omega); rw [← hat_1] at a1; have r1 : row_2 ∈ rows := (by rw [hrow_2]; exact gx_mem ⟨by omega, by omega⟩); have r2 := hM.ln _ r1; have b1 := cutL_len_le rows none (some at_1.1); have b2 := cutL_len_le rows (some (at_1.1 + 1)) none; first | omega | (simp only [List.length_append, List.length_cons, List.length_nil, repL_len, mulT_len] at *; omega)))) (e_fz (o_sc (b' := .sc) (e := eS) (o_slE (xs := rows) (e := eS) (e_var rfl) (p_some (e_add (e_var rfl) e_int)) p_none trivial) (fun _ => (IsSc.str _)))) trivial rfl rfl (by have a1 := draw_in feed (rows.length : Int) (by omega); rw [← hat_1] at a1; have r1 : row_2 ∈ rows := (by rw [hrow_2]; exact gx_mem ⟨by omega, by omega⟩); have r2 := hM.ln _ r1; have b1 := cutL_len_le rows none (some at_1.1); have b2 := cutL_len_le rows (some (at_1.1 + 1)) none; first | omega | (simp only [List.length_append, List.length_cons, List.length_nil, repL_len, mulT_len] at *; omega)))) rfl (fits_le rfl) (by have := get_lt h_one_5; simp only [List.length_cons, List.length_nil] at this; omega) (fun found_7 hfound_7 => (s_end rfl (Wk.eq (Wk.eq (Wk.eq (Wk.eq (Wk.eq (Wk.eq (Wk.no (Wk.eq Wk.nil)))))))))))) (fun i_one_5 one_5 s_6 h_one_5 j_s_6 => (by show (_ ++ [_]).length ≤ _; rw [List.length_append, List.length_cons, List.length_nil]; omega)) (fun s_8 hs_8 js_8 => (s_forNJ (vs := [7]) ([([119] : Tx), ([108] : Tx), ([45] : Tx), ([63] : Tx), ([100] : Tx), ([87] : Tx), ([32] : Tx), ([49] : Tx)] : List Tx) eS (fun (s_10 : ((List (List Tx)))) => [.io p .iob (encF place_3.2), .v .out ((eL eS) rows), .v .sc (eI at_1.1), .v .sc (eS row_2), .v .sc (eI place_3.1), .own .val (s_10.map (eL eS)), .no, .no]) (fun (sign_9 : Tx) (s_10 : ((List (List Tx)))) => [.io p .iob (encF place_3.2), .v .out ((eL eS) rows), .v .sc (eI at_1.1), .v .sc (eS row_2), .v .sc (eI place_3.1), .own .val (s_10.map (eL eS)), .no, .v .sc (eS sign_9)]) (fun (sign_9 : Tx) (s_10 : ((List (List Tx)))) => ((bnd (s_10 ++ [(((cutL rows none (some at_1.1)) ++ ([(((cutL row_2 none (some place_3.1)) ++ sign_9) ++ (cutL row_2 (some (place_3.1 + (1 : Int))) none))] : List Tx)) ++ (cutL rows (some (at_1.1 + (1 : Int))) none))]) fun (found_11 : (List (List Tx))) => found_11) : ((List (List Tx))))) (fun i (s : List (List Tx)) => s.length ≤ 12 + i) s_8 (i_listE (xs := ([([119] : Tx), ([108] : Tx), ([45] : Tx), ([63] : Tx), ([100] : Tx), ([87] : Tx), ([32] : Tx), ([49] : Tx)] : List Tx)) (e := eS) (e_fz (o_lstE (b := .sc) (xs := ([([119] : Tx), ([108] : Tx), ([45] : Tx), ([63] : Tx), ([100] : Tx), ([87] : Tx), ([32] : Tx), ([49] : Tx)] : List Tx)) (e := eS) (a_cons (e_str (y := S [119])) (a_cons (e_str (y := S [108])) (a_cons (e_str (y := S [45])) (a_cons (e_str (y := S [63])) (a_cons (e_str (y := S [100])) (a_cons (e_str (y := S [87])) (a_cons (e_str (y := S [32])) (a_cons (e_str (y := S [49])) a_nil trivial) trivial) trivial) trivial) trivial) trivial) trivial) trivial) ⟨rfl, rfl, rfl, rfl, rfl, rfl, rfl, rfl, trivial⟩ rfl))) (Wk.eq (Wk.eq (Wk.eq (Wk.eq (Wk.eq (Wk.eq (Wk.eq (Wk.eq Wk.nil)))))))) js_8 (fun i_sign_9 sign_9 s_10 h_sign_9 j_s_10 => (g_nameS (b' := .sc) (IsSc.str _))) (fun i_sign_9 sign_9 s_10 h_sign_9 j_s_10 => (s_appE (xs := s_10) (x := (((cutL rows none (some at_1.1)) ++ ([(((cutL row_2 none (some place_3.1)) ++ sign_9) ++ (cutL row_2 (some (place_3.1 + (1 : Int))) none))] : List Tx)) ++ (cutL rows (some (at_1.1 + (1 : Int))) none))) (e := (eL eS)) rfl (e_fz (o_catE (b := .new) (xs := ((cutL rows none (some at_1.1)) ++ ([(((cutL row_2 none (some place_3.1)) ++ sign_9) ++ (cutL row_2 (some (place_3.1 + (1 : Int))) none))] : List Tx))) (ys := (cutL rows (some (at_1.1 + (1 : Int))) none)) (e := eS) (e_fz (o_catE (b := .new) (xs := (cutL rows none (some at_1.1))) (ys := ([(((cutL row_2 none (some place_3.1)) ++ sign_9) ++ (cutL row_2 (some (place_3.1 + (1 : Int))) none))] : List Tx)) (e := eS) (e_fz (o_sc (b' := .sc) (e := eS) (o_slE (xs := rows) (e := eS) (e_var rfl) p_none (p_some (e_var rfl)) trivial) (fun _ => (IsSc.str _)))) (e_fz (o_lstE (b := .sc) (xs := ([(((cutL row_2 none (some place_3.1)) ++ sign_9) ++ (cutL row_2 (some (place_3.1 + (1 : Int))) none))] : List Tx)) (e := eS) (a_cons (e_addS (e_addS (e_slS (e_var rfl) p_none (p_some (e_var rfl)) (by have a1 := draw_in feed (rows.length : Int) (by omega); rw [← hat_1] at a1; have r1 : row_2 ∈ rows := (by rw [hrow_2]; exact gx_mem ⟨by omega, by omega⟩); have r2 := hM.ln _ r1; have b1 := cutL_len_le rows none (some at_1.1); have b2 := cutL_len_le rows (some (at_1.1 + 1)) none; first | omega | (simp only [List.length_append, List.length_cons, List.length_nil, repL_len, mulT_len] at *; omega))) (e_var rfl) (by have a1 := draw_in feed (rows.length : Int) (by omega); rw [← hat_1] at a1; have r1 : row_2 ∈ rows := (by rw [hrow_2]; exact gx_mem ⟨by omega, by omega⟩); have r2 := hM.ln _ r1; have b1 := cutL_len_le rows none (some at_1.1); have b2 := cutL_len_le rows (some (at_1.1 + 1)) none; have g := len_of_mem (n := 1) (by decide) (get_mem h_sign_9); have b3 := cutL_len_le row_2 none (some place_3.1); have b4 := cutL_len_le row_2 (some (place_3.1 + 1)) none; first | omega | (simp only [List.length_append, List.length_cons, List.length_nil, repL_len, mulT_len] at *; omega))) (e_slS (e_var rfl) (p_some (e_add (e_var rfl) e_int)) p_none (by have a1 := draw_in feed (rows.length : Int) (by omega); rw [← hat_1] at a1; have r1 : row_2 ∈ rows := (by rw [hrow_2]; exact gx_mem ⟨by omega, by omega⟩); have r2 := hM.ln _ r1; have b1 := cutL_len_le rows none (some at_1.1); have b2 := cutL_len_le rows (some (at_1.1 + 1)) none; first | omega | (simp only [List.length_append, List.length_cons, List.length_nil, repL_len, mulT_len] at *; omega))) (by have a1 := draw_in feed (rows.length : Int) (by omega); rw [← hat_1] at a1; have r1 : row_2 ∈ rows := (by rw [hrow_2]; exact gx_mem ⟨by omega, by omega⟩); have r2 := hM.ln _ r1; have b1 := cutL_len_le rows none (some at_1.1); have b2 := cutL_len_le rows (some (at_1.1 + 1)) none; have g := len_of_mem (n := 1) (by decide) (get_mem h_sign_9); have b3 := cutL_len_le row_2 none (some place_3.1); have b4 := cutL_len_le row_2 (some (place_3.1 + 1)) none; first | omega | (simp only [List.length_append, List.length_cons, List.length_nil, repL_len, mulT_len] at *; omega))) a_nil trivial) ⟨rfl, trivial⟩ rfl)) trivial rfl rfl (by have a1 := draw_in feed (rows.length : Int) (by omega); rw [← hat_1] at a1; have r1 : row_2 ∈ rows := (by rw [hrow_2]; exact gx_mem ⟨by omega, by omega⟩); have r2 := hM.ln _ r1; have b1 := cutL_len_le rows none (some at_1.1); have b2 := cutL_len_le rows (some (at_1.1 + 1)) none; have g := len_of_mem (n := 1) (by decide) (get_mem h_sign_9); have b3 := cutL_len_le row_2 none (some place_3.1); have b4 := cutL_len_le row_2 (some (place_3.1 + 1)) none; first | omega | (simp only [List.length_append, List.length_cons, List.length_nil, repL_len, mulT_len] at *; omega)))) (e_fz (o_sc (b' := .sc) (e := eS) (o_slE (xs := rows) (e := eS) (e_var rfl) (p_some (e_add (e_var rfl) e_int)) p_none trivial) (fun _ => (IsSc.str _)))) trivial rfl rfl (by have a1 := draw_in feed (rows.length : Int) (by omega); rw [← hat_1] at a1; have r1 : row_2 ∈ rows := (by rw [hrow_2]; exact gx_mem ⟨by omega, by omega⟩); have r2 := hM.ln _ r1; have b1 := cutL_len_le rows none (some at_1.1); have b2 := cutL_len_le rows (some (at_1.1 + 1)) none; have g := len_of_mem (n := 1) (by decide) (get_mem h_sign_9); have b3 := cutL_len_le row_2 none (some place_3.1); have b4 := cutL_len_le row_2 (some (place_3.1 + 1)) none; first | omega | (simp only [List.length_append, List.length_cons, List.length_nil, repL_len, mulT_len] at *; omega)))) rfl (fits_le rfl) (by have := get_lt h_sign_9; simp only [List.length_cons, List.length_nil] at this; omega) (fun found_11 hfound_11 => (s_end rfl (Wk.eq (Wk.eq (Wk.eq (Wk.eq (Wk.eq (Wk.eq (Wk.eq (Wk.no Wk.nil)))))))))))) (fun i_sign_9 sign_9 s_10 h_sign_9 j_s_10 => (by show (_ ++ [_]).length ≤ _; rw [List.length_append, List.length_cons, List.length_nil]; omega)) (fun s_12 hs_12 js_12 => (s_leave (s_retV (i := 5) rfl ⟨rfl, rfl, rfl⟩))))))))))))))
end
end LW

namespace LW
open PySem PySem.Spec L2 TP
theorem iteB_or {α : Type} (c : Bool) (a b : α) : iteB c a b = a ∨ iteB c a b = b := by cases c <;> simp [iteB]
theorem loopL_map {α β S R : Type} {f : β → S → Fl S R} {g : α → β} : ∀ (xs : List α) (s : S), loopL f (xs.map g) s = loopL (fun x => f (g x)) xs s
  | [], _ => rfl
  | x :: xs, s => by
    rw [List.map_cons, loopL_cons, loopL_cons]
    cases f (g x) s with
    | go s' => exact loopL_map xs s'
    | brk s' => rfl
    | ret r => rfl
theorem loop_find {α R : Type} {c : α → Bool} {r : α → R} : ∀ xs : List α, loopL (fun x (_ : Unit) => iteB (c x) (Fl.ret (r x)) (Fl.go ())) xs () = match xs.find? c with | none => .go () | some x => .ret (r x)
  | [] => rfl
  | x :: xs => by
    rw [loopL_cons, List.find?_cons]
    cases c x with
    | true => rfl
    | false => exact loop_find xs
theorem enumL_rng {α : Type} [Inhabited α] (xs : List α) : enumL xs = (rng 0 (xs.length : Int)).map fun i => (i, gx xs i) := by
  apply List.ext_getElem?
  intro k
  unfold enumL
  rw [List.getElem?_mapIdx, List.getElem?_map]
  by_cases h : k < xs.length
  · rw [rng_get (by omega), List.getElem?_eq_getElem h]
    simp only [Option.map_some, Int.zero_add]
    rw [gx_nat, List.getD_eq_getElem?_getD, List.getElem?_eq_getElem h]
    rfl
  · rw [List.getElem?_eq_none (by omega), List.getElem?_eq_none (by rw [rng_len]; omega)]
    rfl
theorem mem_gx {α : Type} [Inhabited α] {xs : List α} {x : α} (h : x ∈ xs) : ∃ i, i ∈ rng 0 (xs.length : Int) ∧ gx xs i = x := by
  obtain ⟨k, hk, e⟩ := List.mem_iff_getElem.mp h
  refine ⟨k, mem_rng.mpr (by omega), ?_⟩
  rw [gx_nat, List.getD_eq_getElem?_getD, List.getElem?_eq_getElem hk, e]
  rfl
def good (c : Nat) : Bool := c == 119 || c == 108
theorem in_wl (c : Nat) : decide ([c] ∈ ([([119] : Tx), ([108] : Tx)] : List Tx)) = good c := by
  unfold good
  rw [Bool.eq_iff_iff]
  simp
theorem all_signs (row : Tx) : ((signs row).map (fun (s : Tx) => decide (s ∈ ([([119] : Tx), ([108] : Tx)] : List Tx)))).all id = row.all good := by
  unfold signs
  induction row with
  | nil => rfl
  | cons c r ih =>
    rw [List.map_cons, List.map_cons, List.all_cons, List.all_cons, ih, in_wl]
    rfl
theorem none_signs (row : Tx) : decide ((0 : Int) < (((((signs row).filter (fun (s : Tx) => (!decide (s ∈ ([([119] : Tx), ([108] : Tx)] : List Tx))))).map (fun (s : Tx) => s))).length : Int)) = !row.all good := by
  rw [List.length_map]
  unfold signs
  induction row with
  | nil => rfl
  | cons c r ih =>
    rw [List.map_cons, List.filter_cons, in_wl, List.all_cons]
    cases good c with
    | true => simpa using ih
    | false => simp
def badR (rows : List Tx) (i : Int) : Bool := ((!(decide ((1 : Int) ≤ (((gx rows i)).length : Int)) && decide ((((gx rows i)).length : Int) ≤ (8 : Int)))) || (!(decide ((((gx rows i)).length : Int) = (((gx rows (0 : Int))).length : Int))))) || !(gx rows i).all good
theorem fault_eq (rows : List Tx) : m__law_fault rows = iteB (!(decide ((1 : Int) ≤ ((rows).length : Int)) && decide (((rows).length : Int) ≤ (8 : Int)))) (some (-1)) ((rng 0 (rows.length : Int)).find? (badR rows)) := by
  unfold m__law_fault
  congr 1
  rw [loopL_congr (g := fun at_ (_ : Unit) => iteB (badR rows at_) (Fl.ret (some at_)) (Fl.go ())) _ _ fun x s _ => ?_, loop_find]
  · cases (rng 0 (rows.length : Int)).find? (badR rows) <;> rfl
  · rw [none_signs]
    unfold badR
    cases ((!(decide ((1 : Int) ≤ (((gx rows x)).length : Int)) && decide ((((gx rows x)).length : Int) ≤ (8 : Int)))) || (!(decide ((((gx rows x)).length : Int) = (((gx rows (0 : Int))).length : Int))))) <;> cases (gx rows x).all good <;> rfl
theorem check_eq (rows : List Tx) : m_check_meeting rows = match m__law_fault rows with | none => .ok () | some n => .er 0 [("at", n)] := by
  rw [fault_eq]
  unfold m_check_meeting
  cases (!(decide ((1 : Int) ≤ ((rows).length : Int)) && decide (((rows).length : Int) ≤ (8 : Int)))) with
  | true => rfl
  | false =>
    rw [iteB_false, iteB_false, enumL_rng, loopL_map]
    rw [loopL_congr (g := fun at_ (_ : Unit) => iteB (badR rows at_) (Fl.ret (Ex.er 0 [(("at" : Str), at_)])) (Fl.go ())) _ _ fun x s _ => ?_, loop_find]
    · cases (rng 0 (rows.length : Int)).find? (badR rows) <;> rfl
    · unfold badR m_is_meeting_row
      dsimp only
      rw [all_signs]
      cases (decide ((1 : Int) ≤ (((gx rows x)).length : Int)) && decide ((((gx rows x)).length : Int) ≤ (8 : Int))) <;> cases (decide ((((gx rows x)).length : Int) = (((gx rows (0 : Int))).length : Int))) <;> cases (gx rows x).all good <;> rfl
theorem checked_true (rows : List Tx) : m__law_checked rows = true := by
  unfold m__law_checked bnd
  dsimp only
  rw [check_eq]
  cases m__law_fault rows with
  | none => simp [exC]
  | some n =>
    show iteB _ false _ = true
    have e : xn [(("at" : Str), n)] = n := rfl
    rw [e]
    simp [iteB, m__law_is_whole, isInt, isBool]
theorem fault_meet {rows : List Tx} (h : (m__law_fault rows).isNone = true) : Meet rows := by
  rw [fault_eq] at h
  cases c : (!(decide ((1 : Int) ≤ ((rows).length : Int)) && decide (((rows).length : Int) ≤ (8 : Int)))) with
  | true => rw [c] at h; cases h
  | false =>
    rw [c, iteB_false, Option.isNone_iff_eq_none, List.find?_eq_none] at h
    simp only [Bool.not_eq_false', Bool.and_eq_true, decide_eq_true_eq] at c
    have hr : ∀ row ∈ rows, (1 ≤ row.length ∧ row.length ≤ 8) ∧ row.length = (gx rows 0).length ∧ row.all good = true := fun row hm => by
      obtain ⟨i, hi, e⟩ := mem_gx hm
      have := h i hi
      unfold badR at this
      rw [e] at this
      simp only [Bool.or_eq_true, Bool.not_eq_true', not_or, Bool.and_eq_false_iff, decide_eq_false_iff_not, Bool.not_eq_false] at this
      obtain ⟨⟨⟨a1, a2⟩, a3⟩, a4⟩ := this
      exact ⟨⟨by omega, by omega⟩, by omega, a4⟩
    have h0 : gx rows 0 ∈ rows := gx_mem ⟨by omega, by omega⟩
    refine ⟨by omega, by omega, (hr _ h0).1.1, (hr _ h0).1.2, fun row hm => (hr row hm).2.1, fun row hm s hs => ?_⟩
    have := List.all_eq_true.mp (hr row hm).2.2 s hs
    unfold good at this
    simpa using this
theorem count_signs (c : Nat) (row : Tx) : ((((signs row).filter (fun (s : Tx) => decide (s = ([c] : Tx)))).map (fun (s : Tx) => s)).length : Int) = (row.count c : Int) := by
  rw [List.length_map]
  unfold signs
  induction row with
  | nil => rfl
  | cons x r ih =>
    rw [List.map_cons, List.filter_cons, List.count_cons]
    by_cases h : x = c
    · subst h; simp at ih ⊢; omega
    · have : ¬ ([x] : Tx) = [c] := fun e => h (by simpa using e)
      simp [h] at ih ⊢; omega
/-- counting up at the places where c holds -/
theorem bump {m : Nat} {c : Int → Bool} (s : List Int) (hs : s.length = m) : loopN (fun (k : Int) (t : List Int) => iteB (c k) (sx t k (gx t k + 1)) t) (rng 0 (m : Int)) s = (rng 0 (m : Int)).map fun k => gx s k + iteB (c k) 1 0 := by
  have inv := loopN_inv (f := fun (k : Int) (t : List Int) => iteB (c k) (sx t k (gx t k + 1)) t) (J := fun i t => t.length = m ∧ ∀ j : Nat, j < m → gx t (j : Int) = gx s (j : Int) + iteB (decide (j < i) && c j) 1 0) (rng 0 (m : Int)) 0 s
    (fun i x t hx ⟨h1, h2⟩ => by
      rw [Nat.zero_add] at *
      have hi : i < m := by have := get_lt hx; rw [rng_len] at this; omega
      have ex : x = (i : Int) := by
        rw [rng_get (by omega)] at hx
        have := Option.some.inj hx
        omega
      subst ex
      refine ⟨len_ite ((sx_len _ _ _).trans h1) h1, fun j hj => ?_⟩
      cases hc : c (i : Int) with
      | false =>
        rw [iteB_false, h2 j hj]
        by_cases e : j = i
        · subst e; simp [hc]
        · have : decide (j < i + 1) = decide (j < i) := decide_eq_decide.mpr (by omega)
          rw [this]
      | true =>
        rw [iteB_true, gx_nat, sx_nat, List.getD_eq_getElem?_getD]
        by_cases e : j = i
        · subst e
          rw [List.getElem?_set_self (by omega), h2 j hj]
          simp [hc, iteB]
        · rw [List.getElem?_set_ne (Ne.symm e), ← List.getD_eq_getElem?_getD, ← gx_nat, h2 j hj]
          have : decide (j < i + 1) = decide (j < i) := decide_eq_decide.mpr (by omega)
          rw [this])
    ⟨hs, fun j hj => by simp [iteB]⟩
  obtain ⟨l1, l2⟩ := inv
  rw [rng_len] at l2
  apply List.ext_getElem?
  intro k
  rw [List.getElem?_map]
  by_cases h : k < m
  · have e1 := l2 k h
    rw [rng_get (by omega), Option.map_some, Int.zero_add]
    rw [gx_nat, List.getD_eq_getElem?_getD, List.getElem?_eq_getElem (by rw [l1]; exact h)] at e1
    rw [List.getElem?_eq_getElem (by rw [l1]; exact h)]
    have e1 : (loopN (fun (k : Int) (t : List Int) => iteB (c k) (sx t k (gx t k + 1)) t) (rng 0 (m : Int)) s)[k]'(by rw [l1]; exact h) = _ := e1
    rw [e1]
    congr 2
    have : decide (k < 0 + ((m : Int) - 0).toNat) = true := decide_eq_true (by omega)
    rw [this]; rfl
  · rw [List.getElem?_eq_none (by rw [l1]; omega), List.getElem?_eq_none (by rw [rng_len]; omega)]
    rfl
theorem gx_map_rng {m : Nat} {f : Int → Int} {k : Int} (h : k ∈ rng 0 (m : Int)) : gx ((rng 0 (m : Int)).map f) k = f k := by
  obtain ⟨h0, h1⟩ := mem_rng.mp h
  rw [gx_nonneg _ h0, List.getD_eq_getElem?_getD, List.getElem?_map, rng_get (by omega)]
  simp only [Option.map_some, Option.getD_some]
  congr 1
  omega
theorem bumps {m : Nat} : ∀ (rows : List Tx) (s : List Int), s.length = m → (∀ row ∈ rows, row.length = m) →
    loopN (fun (row : Tx) (t : List Int) => loopN (fun (k : Int) (t : List Int) => iteB (decide ([gx row k] = ([108] : Tx))) (sx t k (gx t k + 1)) t) (rng 0 (row.length : Int)) t) rows s
      = (rng 0 (m : Int)).map fun k => gx s k + ((((rows.filter (fun (row : Tx) => decide ([gx row k] = ([108] : Tx)))).map (fun (row : Tx) => row))).length : Int)
  | [], s, hs, _ => by
    have := bump (m := m) (c := fun _ => false) s hs
    have e0 : ∀ xs : List Int, loopN (fun (k : Int) (t : List Int) => iteB false (sx t k (gx t k + 1)) t) xs s = s := fun xs => by
      unfold loopN
      induction xs with
      | nil => rfl
      | cons x xs ih => exact ih
    rw [e0] at this
    exact this
  | row :: rows, s, hs, hl => by
    have hr := hl row (List.mem_cons_self ..)
    show loopN _ rows (loopN _ (rng 0 (row.length : Int)) s) = _
    rw [hr, bump s hs, bumps rows _ (by rw [List.length_map, rng_len]; omega) fun r h => hl r (List.mem_cons_of_mem _ h)]
    apply List.map_congr_left
    intro k hk
    rw [gx_map_rng hk, List.filter_cons]
    cases decide ([gx row k] = ([108] : Tx)) <;> simp [iteB] <;> omega
theorem wins_eq {rows : List Tx} (h : Meet rows) : m_wins_of_both rows = m__law_wins rows := by
  unfold m_wins_of_both m__law_wins bnd
  dsimp only
  rw [Prod.mk.injEq]
  refine ⟨List.map_congr_left fun row _ => (count_signs 119 row).symm, ?_⟩
  have hb := bumps (m := (gx rows 0).length) rows (repL [0] ((gx rows 0).length : Int)) (by rw [repL_len]; simp) h.ln
  rw [hb]
  apply List.map_congr_left
  intro k hk
  obtain ⟨h0, h1⟩ := mem_rng.mp hk
  have e : gx (repL ([0] : List Int) ((gx rows 0).length : Int)) k = 0 := by
    have := gx_all (xs := repL ([0] : List Int) ((gx rows 0).length : Int)) (i := k) (P := fun x => x = 0) (fun x hx => by
      unfold repL at hx
      simp at hx
      exact hx.2) rfl
    exact this
  rw [e, Int.zero_add]
theorem counted_true {rows : List Tx} (h : Meet rows) : m__law_counted rows = true := by
  unfold m__law_counted bnd
  dsimp only
  have hl := wins_len rows
  rw [wins_eq h] at hl ⊢
  have hf : ∀ xs : List Int, xs.filter (fun (x : Int) => m__law_is_whole (eI x)) = xs := fun xs => List.filter_eq_self.mpr fun x _ => rfl
  rw [hf, List.length_map, List.length_append, hl.1, hl.2]
  simp [iteB]
end LW

namespace LW
open PySem PySem.Spec L2 TP
theorem sign_pick (i : Int) (h : i = 0 ∨ i = 1) : ∃ s, gx ([([108] : Tx), ([119] : Tx)] : List Tx) i = [s] ∧ (s = 119 ∨ s = 108) := by
  rcases h with h | h
  · subst h; exact ⟨108, by decide, .inr rfl⟩
  · subst h; exact ⟨119, by decide, .inl rfl⟩
theorem meeting_meet (feed : Fd) {a b : Int} (h : D__law_meeting (feed, a, b)) : Meet (m__law_meeting feed a b).1 := by
  obtain ⟨ha0, ha1, hb0, hb1⟩ := h
  unfold m__law_meeting bnd
  dsimp only
  generalize (m__law_draw feed 5) = share
  have len : (compS (fun (i_2 : Int) (s_3 : Fd) => (true, s_3)) (fun (i_2 : Int) (s_3 : Fd) => ((joinT ([] : Tx) ((compS (fun (k_4 : Int) (s_5 : Fd) => (true, s_5)) (fun (k_4 : Int) (s_5 : Fd) => ((gx ([([108] : Tx), ([119] : Tx)] : List Tx) (if decide ((m__law_draw s_5 (4 : Int)).1 < share.1) then (1 : Int) else 0)), (m__law_draw s_5 (4 : Int)).2)) (rng 0 b) s_3).1)), (compS (fun (k_4 : Int) (s_5 : Fd) => (true, s_5)) (fun (k_4 : Int) (s_5 : Fd) => ((gx ([([108] : Tx), ([119] : Tx)] : List Tx) (if decide ((m__law_draw s_5 (4 : Int)).1 < share.1) then (1 : Int) else 0)), (m__law_draw s_5 (4 : Int)).2)) (rng 0 b) s_3).2)) (rng 0 a) share.2).1.length = a.toNat := by
    rw [compS_len0 (u := fun _ s => s), rng_len]; omega
  have all : ∀ row ∈ (compS (fun (i_2 : Int) (s_3 : Fd) => (true, s_3)) (fun (i_2 : Int) (s_3 : Fd) => ((joinT ([] : Tx) ((compS (fun (k_4 : Int) (s_5 : Fd) => (true, s_5)) (fun (k_4 : Int) (s_5 : Fd) => ((gx ([([108] : Tx), ([119] : Tx)] : List Tx) (if decide ((m__law_draw s_5 (4 : Int)).1 < share.1) then (1 : Int) else 0)), (m__law_draw s_5 (4 : Int)).2)) (rng 0 b) s_3).1)), (compS (fun (k_4 : Int) (s_5 : Fd) => (true, s_5)) (fun (k_4 : Int) (s_5 : Fd) => ((gx ([([108] : Tx), ([119] : Tx)] : List Tx) (if decide ((m__law_draw s_5 (4 : Int)).1 < share.1) then (1 : Int) else 0)), (m__law_draw s_5 (4 : Int)).2)) (rng 0 b) s_3).2)) (rng 0 a) share.2).1, row.length = b.toNat ∧ ∀ s ∈ row, s = 119 ∨ s = 108 := by
    refine compS_all (P := fun (row : Tx) => row.length = b.toNat ∧ ∀ s ∈ row, s = 119 ∨ s = 108) _ _ fun i s _ => ?_
    have one : ∀ x ∈ (compS (fun (k_4 : Int) (s_5 : Fd) => (true, s_5)) (fun (k_4 : Int) (s_5 : Fd) => ((gx ([([108] : Tx), ([119] : Tx)] : List Tx) (if decide ((m__law_draw s_5 (4 : Int)).1 < share.1) then (1 : Int) else 0)), (m__law_draw s_5 (4 : Int)).2)) (rng 0 b) s).1, ∃ s, x = [s] ∧ (s = 119 ∨ s = 108) :=
      compS_all (P := fun (x : Tx) => ∃ s, x = [s] ∧ (s = 119 ∨ s = 108)) _ _ fun k t _ => sign_pick _ (by split <;> simp)
    refine ⟨?_, fun c hc => ?_⟩
    · show (joinT ([] : Tx) _).length = _
      rw [joinT1 _ fun x hx => by obtain ⟨s, e, _⟩ := one x hx; rw [e]; rfl, compS_len0 (u := fun _ s => s), rng_len]; omega
    · have hc : c ∈ joinT ([] : Tx) _ := hc
      rw [joinT_nil, List.mem_flatten] at hc
      obtain ⟨x, hx, hcx⟩ := hc
      obtain ⟨s, e, hs⟩ := one x hx
      subst e
      have := List.mem_singleton.mp hcx
      subst this
      exact hs
  generalize (compS (fun (i_2 : Int) (s_3 : Fd) => (true, s_3)) _ (rng 0 a) share.2).1 = rows at len all
  have h0 : gx rows 0 ∈ rows := gx_mem ⟨by omega, by omega⟩
  have h1 := (all _ h0).1
  exact ⟨by omega, by omega, by omega, by omega, fun row hr => by rw [(all row hr).1, h1], fun row hr => (all row hr).2⟩
theorem loopN_app {α β : Type} {g : α → β} : ∀ (xs : List α) (s : List β), loopN (fun x s => s ++ [g x]) xs s = s ++ xs.map g
  | [], s => (List.append_nil s).symm
  | x :: xs, s => by
    show loopN _ xs (s ++ [g x]) = _
    rw [loopN_app xs, List.append_assoc]; rfl
theorem mem_cutL {α : Type} {xs : List α} {lo hi : Option Int} {x : α} (h : x ∈ cutL xs lo hi) : x ∈ xs := by
  unfold cutL at h
  exact List.mem_of_mem_drop (List.mem_of_mem_take h)
theorem small_put {rows : List Tx} (h : Small rows) (h8 : rows.length ≤ 8) {lo hi lo' hi' : Option Int} {one : Tx} (h1 : one.length ≤ 1000) : Small ((cutL rows lo hi ++ [one]) ++ cutL rows lo' hi') := by
  have c1 := cutL_len_le rows lo hi
  have c2 := cutL_len_le rows lo' hi'
  refine ⟨by simp only [List.length_append, List.length_cons, List.length_nil]; omega, fun row hr => ?_⟩
  simp only [List.mem_append, List.mem_singleton] at hr
  rcases hr with (hr | hr) | hr
  · exact h.2 _ (mem_cutL hr)
  · rw [hr]; exact h1
  · exact h.2 _ (mem_cutL hr)
theorem upper_len (t : Tx) (h : t.length ≤ 300) : (upperT t).length ≤ 1000 := by
  have l := PyProof.Rows.len_upper (S t)
  rw [S_len] at l
  have e : (upperT t).length = (Txt.upper (S t)).length := by
    unfold upperT
    exact Array.length_toList
  omega
theorem near_small {feed : Fd} {rows : List Tx} (hM : Meet rows) : ∀ p ∈ (m__law_near feed rows).1, Small p := by
  have l1 := hM.a1
  have l8 := hM.a8
  have lb := hM.b8
  have hS := hM.small
  unfold m__law_near bnd
  dsimp only
  have a1 := draw_in feed (rows.length : Int) (by omega)
  generalize m__law_draw feed (rows.length : Int) = at_ at a1
  have r1 : gx rows at_.1 ∈ rows := gx_mem ⟨by omega, by omega⟩
  have r2 := hM.ln _ r1
  generalize gx rows at_.1 = row at r1 r2
  generalize m__law_draw at_.2 (row.length : Int) = place
  rw [loopN_app, loopN_app]
  intro p hp
  simp only [List.mem_append, List.mem_cons, List.mem_map, List.not_mem_nil, or_false] at hp
  have b1 := cutL_len_le rows none (some at_.1)
  have b2 := cutL_len_le rows (some (at_.1 + 1)) none
  have put : ∀ one : Tx, one.length ≤ 1000 → Small ((cutL rows none (some at_.1) ++ [one]) ++ cutL rows (some (at_.1 + 1)) none) := fun one h1 => small_put hS l8 h1
  rcases hp with ((hp | hp | hp | hp | hp) | ⟨one, ho, hp⟩) | ⟨sign, ho, hp⟩
  · subst hp; exact hS
  · subst hp
    refine ⟨by simp only [List.length_append]; omega, fun r hr => ?_⟩
    rcases List.mem_append.mp hr with hr | hr <;> exact hS.2 _ (mem_cutL hr)
  · subst hp
    refine ⟨by simp only [List.length_append, List.length_cons, List.length_nil]; omega, fun r hr => ?_⟩
    rcases List.mem_append.mp hr with hr | hr
    · exact hS.2 _ hr
    · rw [List.mem_singleton.mp hr]; omega
  · subst hp
    refine ⟨by simp only [List.length_append, repL_len, List.length_cons, List.length_nil]; omega, fun r hr => ?_⟩
    rcases List.mem_append.mp hr with hr | hr
    · exact hS.2 _ hr
    · unfold repL at hr
      simp at hr
      rw [hr.2, mulT_len]; simp only [List.length_cons, List.length_nil]; omega
  · subst hp; exact ⟨by simp, fun r hr => nomatch hr⟩
  · subst hp
    refine put one ?_
    rcases ho with ho | ho | ho | ho | ho | ho | ho
    · subst ho; simp only [List.length_append, List.length_cons, List.length_nil]; omega
    · subst ho; have := cutL_len_le row (some 1) none; omega
    · subst ho; simp
    · subst ho; rw [mulT_len]; decide
    · subst ho; rw [mulT_len]; decide
    · subst ho; exact upper_len _ (by omega)
    · subst ho; simp only [List.length_append, List.length_cons, List.length_nil]; omega
  · subst hp
    refine put _ ?_
    have c1 := cutL_len_le row none (some place.1)
    have c2 := cutL_len_le row (some (place.1 + 1)) none
    have : sign.length ≤ 1 := by rcases ho with ho | ho | ho | ho | ho | ho | ho | ho <;> (subst ho; simp)
    simp only [List.length_append]; omega
theorem ite4 {x m : Int} {c : Bool} (h : x = iteB c 8 m) (hm : m = 4) : x = 8 ∨ x = 4 := by
  subst hm
  cases c
  · exact .inr h
  · exact .inl h
theorem small_rep {one : Tx} {n : Int} (h : one.length ≤ 1000) (hn : n ≤ 1000) : Small (repL [one] n) := by
  refine ⟨by rw [repL_len]; simp only [List.length_cons, List.length_nil]; omega, fun r hr => ?_⟩
  unfold repL at hr
  simp at hr
  rw [hr.2]; exact h
theorem meet_c : Meet [[119, 119, 108], [108, 108, 108]] := ⟨by decide, by decide, by decide, by decide, by decide, by decide⟩
theorem flT_goes {α S : Type} {f : α → S → Fl S Bool} {k : S → Bool} (h : ∀ x s, ∃ s', f x s = .go s') (hk : ∀ s, k s = true) : ∀ (xs : List α) (s : S), flT (loopL f xs s) k = true
  | [], s => hk s
  | x :: xs, s => by
    obtain ⟨s', e⟩ := h x s
    rw [loopL_cons, e]
    exact flT_goes h hk xs s'
theorem loop_goes {α R : Type} {f : α → Unit → Fl Unit R} : ∀ (xs : List α), (∀ x ∈ xs, f x () = .go ()) → loopL f xs () = .go ()
  | [], _ => rfl
  | x :: xs, h => by
    rw [loopL_cons, h x (List.mem_cons_self ..)]
    exact loop_goes xs fun y hy => h y (List.mem_cons_of_mem _ hy)
end LW

namespace LW
noncomputable section
open PySem PySem.Spec L2 TP
local macro_rules | `(tactic| walk_at "tp") => `(tactic| first | omega | (dsimp only at *; omega) | decide | (subst_vars; simp only [Bool.and_eq_true, decide_eq_true_eq, List.length_cons, List.length_nil, List.length_append, signs_len, rng_len] at *; omega))
local macro_rules | `(tactic| walk_at "tp_len") => `(tactic| first | omega | (simp only [List.length_map, rng_len, signs_len, List.length_append, List.length_cons, List.length_nil] at *; omega))
local macro_rules | `(tactic| walk_at "tp_mul") => `(tactic| (unfold L2.CMul; first | omega | (dsimp only at *; omega) | (subst_vars; dsimp only at *; omega)))
local macro_rules | `(tactic| walk_at "tp_pow") => `(tactic| (unfold L2.CPow; first | decide | omega))
local macro_rules | `(tactic| walk_at "tp_div") => `(tactic| (apply cdivW <;> omega))
local macro_rules | `(tactic| walk_at "tp_inb") => `(tactic| first | assumption | (unfold Inb; first | omega | (simp only [List.length_cons, List.length_nil, Bool.and_eq_true, decide_eq_true_eq] at *; omega)))
local macro_rules | `(tactic| walk_at "tp_pre") => `(tactic| first | (refine ⟨?_, ?_⟩ <;> omega) | (unfold D__law_draw; omega))
local macro_rules | `(tactic| walk_at "tp_rep") => `(tactic| first | omega | (simp only [List.length_cons, List.length_nil]; omega) | (simp only [List.length_cons, List.length_nil, Nat.zero_add, Nat.one_mul]; omega))
abbrev st_law : Stmt := topS 19
theorem sc_law : FnScope ["script", "feed", "most", "turn", "rows", "paper", "other", "size", "k"] ["script"] (defScope st_law) := ⟨rfl, rfl, rfl, by decide +kernel, rfl, by decide +kernel, by decide +kernel⟩
def m_law (script : (List Int)) : Bool := (bnd (m__law_feed script) fun (feed_1 : Fd) => (bnd (4 : Int) fun (most_2 : Int) => (bnd ((iteB (decide ((m__law_draw feed_1 (5 : Int)).1 = (0 : Int))) (bnd (8 : Int) fun (most_5 : Int) => most_5) most_2) : (Int)) fun (s_4 : (Int)) => (flT (loopL (fun (turn_6 : Int) (s_7 : (Fd)) => ((bnd (m__law_meeting ((m__law_draw ((m__law_draw s_7 s_4).2) s_4).2) ((1 : Int) + (m__law_draw s_7 s_4).1) ((1 : Int) + (m__law_draw ((m__law_draw s_7 s_4).2) s_4).1)) fun (rows_8 : (List Tx) × Fd) => (iteB ((!(m__law_checked rows_8.1)) || (!(m__law_counted rows_8.1))) (Fl.ret false) (flF (loopL (fun (paper_10 : (List Tx)) (s_11 : Unit) => ((iteB (!(m__law_checked paper_10)) (Fl.ret false) (iteB ((m__law_fault paper_10).isNone && (!(m__law_counted paper_10))) (Fl.ret false) (Fl.go ()))) : Fl Unit Bool)) ((m__law_near rows_8.2 rows_8.1).1) ()) fun (s_14 : Unit) => (bnd (compS (fun (k_15 : Int) (s_16 : Fd) => (true, s_16)) (fun (k_15 : Int) (s_16 : Fd) => ((mulT ([119] : Tx) ((1 : Int) + (m__law_draw s_16 (9 : Int)).1)), (m__law_draw s_16 (9 : Int)).2)) (rng 0 ((m__law_draw ((m__law_near rows_8.2 rows_8.1).2) (11 : Int)).1)) ((m__law_draw ((m__law_near rows_8.2 rows_8.1).2) (11 : Int)).2)) fun (other_17 : (List Tx) × Fd) => (iteB (!(m__law_checked other_17.1)) (Fl.ret false) (bnd (((1 : Int) + (m__law_draw other_17.2 (9 : Int)).1), (m__law_draw other_17.2 (9 : Int)).2) fun (size_19 : Int × Fd) => (iteB (!(m__law_checked (repL ([(cutL (mulT ([119, 108] : Tx) (5 : Int)) none (some size_19.1))] : List Tx) ((1 : Int) + (m__law_draw size_19.2 (9 : Int)).1)))) (Fl.ret false) (Fl.go ((m__law_draw size_19.2 (9 : Int)).2))))))))) : Fl (Fd) Bool)) (rng 0 (3 : Int)) ((m__law_draw feed_1 (5 : Int)).2)) fun (s_21 : (Fd)) => (decide ((m_wins_of_both ([([119, 119, 108] : Tx), ([108, 108, 108] : Tx)] : List Tx)) = (([(2 : Int), (0 : Int)] : List Int), ([(1 : Int), (1 : Int), (2 : Int)] : List Int))) && (m__law_checked (repL ([(mulT ([119] : Tx) (8 : Int))] : List Tx) (8 : Int))))))))
theorem law_true (script : List Int) (hl : script.length ≤ 63) : m_law script = true := by
  unfold m_law bnd
  dsimp only
  generalize h4 : (iteB (decide ((m__law_draw (m__law_feed script) (5 : Int)).1 = (0 : Int))) (8 : Int) (4 : Int)) = v
  have a4 := ite4 h4.symm rfl
  refine flT_goes (fun turn s => ?_) (fun s => ?_) _ _
  · have d1 := draw_in s v (by omega)
    have d2 := draw_in (m__law_draw s v).2 v (by omega)
    have mm := meeting_meet ((m__law_draw ((m__law_draw s v).2) v).2) (a := 1 + (m__law_draw s v).1) (b := 1 + (m__law_draw ((m__law_draw s v).2) v).1) ⟨by omega, by omega, by omega, by omega⟩
    rw [checked_true, counted_true mm]
    show ∃ s', flF (loopL _ _ ()) _ = _
    rw [loop_goes _ fun paper hp => ?_]
    · dsimp only [flF]
      rw [checked_true]
      show ∃ s', iteB (!_) _ _ = _
      rw [checked_true]
      exact ⟨_, rfl⟩
    · rw [checked_true]
      show iteB _ _ _ = _
      cases hf : (m__law_fault paper).isNone with
      | false => rfl
      | true => rw [counted_true (fault_meet hf)]; rfl
  · rw [checked_true]
    decide
theorem ok_law {P : Program} {w : World} {K : PySem.W.Frag} {mg : Str → Option Value} {base : Heap} {f : Addr} {fd : FuncData} (Fn : Fun K "law" "law" st_law f fd) {c : Cls} (T : Txt K mg c) {f__law_feed : Addr} {fd__law_feed : FuncData} {f__law_draw : Addr} {fd__law_draw : FuncData} {f__law_meeting : Addr} {fd__law_meeting : FuncData} {f__law_near : Addr} {fd__law_near : FuncData} {f__law_checked : Addr} {fd__law_checked : FuncData} {f_wins_of_both : Addr} {fd_wins_of_both : FuncData} {f__law_counted : Addr} {fd__law_counted : FuncData} {f__law_fault : Addr} {fd__law_fault : FuncData} (C__law_feed : Cal P w K mg base "_law_feed" 1 f__law_feed fd__law_feed ["script"] (spFeed K)) (C__law_draw : Cal P w K mg base "_law_draw" 1 f__law_draw fd__law_draw ["feed", "many"] sp__law_draw) (C__law_meeting : Cal P w K mg base "_law_meeting" 2 f__law_meeting fd__law_meeting ["feed", "a", "b"] sp__law_meeting) (C__law_near : Cal P w K mg base "_law_near" 2 f__law_near fd__law_near ["feed", "rows"] sp__law_near) (C__law_checked : Cal P w K mg base "_law_checked" 4 f__law_checked fd__law_checked ["rows"] sp__law_checked) (C_wins_of_both : Cal P w K mg base "wins_of_both" 1 f_wins_of_both fd_wins_of_both ["rows"] sp_wins_of_both) (C__law_counted : Cal P w K mg base "_law_counted" 2 f__law_counted fd__law_counted ["rows"] sp__law_counted) (C__law_fault : Cal P w K mg base "_law_fault" 1 f__law_fault fd__law_fault ["rows"] sp__law_fault) (plain : ∀ script, script.length ≤ 63 → m_law script = true) : FnOk P w K mg base CX0 5 f fd ["script"] (spLaw K) := by
  have hs : sizeLine = 16777216 := sizeLine_eq
  refine fn_L (n := 8) Fn sc_law plain rfl fun script a hl cdv A outer s H E hS hr => ⟨_, (pss_cons (ps_set (i := 1) sc_law.nd rfl (Or.inr rfl) (k_call C__law_feed hr (pa_cons (pv 0) pa_nil))) (pss_cons (ps_set (i := 2) sc_law.nd rfl (Or.inl rfl) pe_int) (pss_cons (ps_if (pt_cmpR op_eq (k_call C__law_draw hr (pa_cons (pv 1) (pa_cons pe_int pa_nil))) pe_int (nomark _)) (pss_cons (ps_set (i := 2) sc_law.nd rfl (Or.inl rfl) pe_int) pss_nil) pss_nil) (pss_cons (ps_for PassesOwn.never rfl (pi_range1 (by rfl) T.range (pa_cons pe_int pa_nil)) (pg_name (i := 3) sc_law.nd rfl (Or.inl rfl)) (pss_cons (ps_set (i := 4) sc_law.nd rfl (Or.inl rfl) (k_call C__law_meeting hr (pa_cons (pv 1) (pa_cons (pe_op op_add pe_int (k_call C__law_draw hr (pa_cons (pv 1) (pa_cons (pv 2) pa_nil)))) (pa_cons (pe_op op_add pe_int (k_call C__law_draw hr (pa_cons (pv 1) (pa_cons (pv 2) pa_nil)))) pa_nil))))) (pss_cons (ps_if (PW.pt (pw_or (pt_not (pt_val (k_call C__law_checked hr (pa_cons (pv 4) pa_nil)))) (pw_or1 (pt_not (pt_val (k_call C__law_counted hr (pa_cons (pv 4) pa_nil))))))) (pss_cons (ps_ret pe_bl) pss_nil) pss_nil) (pss_cons (ps_for PassesOwn.never rfl (k_pilist K (k_call C__law_near hr (pa_cons (pv 1) (pa_cons (pv 4) pa_nil)))) (pg_name (i := 5) sc_law.nd rfl (Or.inl rfl)) (pss_cons (ps_if (pt_not (pt_val (k_call C__law_checked hr (pa_cons (pv 5) pa_nil)))) (pss_cons (ps_ret pe_bl) pss_nil) pss_nil) (pss_cons (ps_if (PW.pt (pw_and (pt_cmpR op_isN (k_call C__law_fault hr (pa_cons (pv 5) pa_nil)) pe_non (nomark _)) (pw_and1 (pt_not (pt_val (k_call C__law_counted hr (pa_cons (pv 5) pa_nil))))))) (pss_cons (ps_ret pe_bl) pss_nil) pss_nil) pss_nil))) (pss_cons (ps_setLc (i := 6) (own := [("k", 8)]) (g := gName 8) (tt := tYes) rfl sc_law.nd rfl rfl (sw_true rfl rfl rfl (by decide +kernel)) (pi_range1 (by rfl) T.range (pa_cons (k_call C__law_draw hr (pa_cons (pv 1) (pa_cons pe_int pa_nil))) pa_nil)) (blkOk_by (N := ["script", "feed", "most", "turn", "rows", "paper", "other", "size", "k"]) (sc := defScope st_law) (by decide +kernel)) (fun _ _ _ _ _ => (pg_name (i := 8) sc_law.nd rfl (Or.inl rfl))) (fun _ _ _ _ _ => pts_nil) (fun _ _ _ _ _ => (pe_op op_mul_str pe_str (pe_op op_add pe_int (k_call C__law_draw hr (pa_cons (pv 1) (pa_cons pe_int pa_nil))))))) (pss_cons (ps_if (pt_not (pt_val (k_call C__law_checked hr (pa_cons (pv 6) pa_nil)))) (pss_cons (ps_ret pe_bl) pss_nil) pss_nil) (pss_cons (ps_set (i := 7) sc_law.nd rfl (Or.inl rfl) (pe_op op_add pe_int (k_call C__law_draw hr (pa_cons (pv 1) (pa_cons pe_int pa_nil))))) (pss_cons (ps_if (pt_not (pt_val (k_call C__law_checked hr (pa_cons (pe_op op_rep (pe_lst (pa_cons (pe_slice sl_str (pe_op op_mul_str pe_str pe_int) po_none (po_some (pv 7))) pa_nil)) (pe_op op_add pe_int (k_call C__law_draw hr (pa_cons (pv 1) (pa_cons pe_int pa_nil))))) pa_nil)))) (pss_cons (ps_ret pe_bl) pss_nil) pss_nil) pss_nil)))))))) (pss_cons (ps_ret (pe_and (pe_cmpR (k_eqP K hr) (k_call C_wins_of_both hr (pa_cons (pe_lst (pa_cons pe_str (pa_cons pe_str pa_nil))) pa_nil)) (pe_tup (pa_cons (pe_lst (pa_cons pe_int (pa_cons pe_int pa_nil))) (pa_cons (pe_lst (pa_cons pe_int (pa_cons pe_int (pa_cons pe_int pa_nil)))) pa_nil))) (nomark _)) (pe_one (k_call C__law_checked hr (pa_cons (pe_op op_rep (pe_lst (pa_cons (pe_op op_mul_str pe_str pe_int) pa_nil)) pe_int) pa_nil))))) pss_nil))))), ?_⟩
  refine s_top (en := eB) (r := m_law script) ?_
  unfold m_law
  exact (s_feed (i := 0) (feed := m__law_feed script) rfl rfl rfl hS hl (feed_raw hl) rfl (fun feed_1 hfeed_1 => (s_asg (t := (4 : Int)) (en := eI) e_int (fun most_2 hmost_2 => (s_join (f := (fun (s_4 : (Int)) => [.ex (.ref a) [], .own .new (encF (m__law_draw feed_1 (5 : Int)).2), .v .sc (eI s_4), .no, .no, .no, .no, .no, .no])) (s_if (t_val (e_eqI (e_callJ (b := .sc) (d := eI (m__law_draw feed_1 (5 : Int)).1) (i := 1) (as := [.io (encF feed_1), .d (eI (5 : Int))]) (es' := encF (m__law_draw feed_1 (5 : Int)).2) (a_cons (e_own rfl) (a_cons e_int a_nil trivial) rfl) rfl rfl rfl ⟨rfl, rfl, ⟨rfl, trivial⟩⟩ (fun vs H Q E hsp => ⟨(feed_1, (5 : Int)), (by walk_at "tp_pre"), hsp⟩)) e_int)) (fun hc_3 => (s_asg (t := (8 : Int)) (en := eI) e_int (fun most_5 hmost_5 => (s_end rfl (Wk.eq (Wk.eq (Wk.eq (Wk.eq (Wk.eq (Wk.eq (Wk.eq (Wk.eq (Wk.eq Wk.nil))))))))))))) (fun hc_3 => (s_end rfl (Wk.eq (Wk.eq (Wk.eq (Wk.eq (Wk.eq (Wk.eq (Wk.eq (Wk.eq (Wk.eq Wk.nil)))))))))))) (fun s_4 hs_4 => (s_forT (vs := [3]) (rng 0 (3 : Int)) eI (fun (s_7 : (Fd)) => [.ex (.ref a) [], .own .new (encF s_7), .v .sc (eI s_4), .no, .no, .no, .no, .no, .no]) (fun (turn_6 : Int) (s_7 : (Fd)) => [.ex (.ref a) [], .own .new (encF s_7), .v .sc (eI s_4), .v .sc (eI turn_6), .no, .no, .no, .no, .no]) _ (fun (turn_6 : Int) (s_7 : (Fd)) => ((bnd (m__law_meeting ((m__law_draw ((m__law_draw s_7 s_4).2) s_4).2) ((1 : Int) + (m__law_draw s_7 s_4).1) ((1 : Int) + (m__law_draw ((m__law_draw s_7 s_4).2) s_4).1)) fun (rows_8 : (List Tx) × Fd) => (iteB ((!(m__law_checked rows_8.1)) || (!(m__law_counted rows_8.1))) (Fl.ret false) (flF (loopL (fun (paper_10 : (List Tx)) (s_11 : Unit) => ((iteB (!(m__law_checked paper_10)) (Fl.ret false) (iteB ((m__law_fault paper_10).isNone && (!(m__law_counted paper_10))) (Fl.ret false) (Fl.go ()))) : Fl Unit Bool)) ((m__law_near rows_8.2 rows_8.1).1) ()) fun (s_14 : Unit) => (bnd (compS (fun (k_15 : Int) (s_16 : Fd) => (true, s_16)) (fun (k_15 : Int) (s_16 : Fd) => ((mulT ([119] : Tx) ((1 : Int) + (m__law_draw s_16 (9 : Int)).1)), (m__law_draw s_16 (9 : Int)).2)) (rng 0 ((m__law_draw ((m__law_near rows_8.2 rows_8.1).2) (11 : Int)).1)) ((m__law_draw ((m__law_near rows_8.2 rows_8.1).2) (11 : Int)).2)) fun (other_17 : (List Tx) × Fd) => (iteB (!(m__law_checked other_17.1)) (Fl.ret false) (bnd (((1 : Int) + (m__law_draw other_17.2 (9 : Int)).1), (m__law_draw other_17.2 (9 : Int)).2) fun (size_19 : Int × Fd) => (iteB (!(m__law_checked (repL ([(cutL (mulT ([119, 108] : Tx) (5 : Int)) none (some size_19.1))] : List Tx) ((1 : Int) + (m__law_draw size_19.2 (9 : Int)).1)))) (Fl.ret false) (Fl.go ((m__law_draw size_19.2 (9 : Int)).2))))))))) : Fl (Fd) Bool)) (fun _ _ => True) (fun _ => True) ((m__law_draw feed_1 (5 : Int)).2) (i_range1 e_int (by walk_at "tp") (by walk_at "tp")) (Wk.eq (Wk.eq (Wk.eq (Wk.eq (Wk.eq (Wk.eq (Wk.eq (Wk.eq (Wk.eq Wk.nil))))))))) trivial (fun i_turn_6 turn_6 s_7 h_turn_6 j_s_7 => (g_nameS (b' := .sc) (IsSc.int _))) (fun i_turn_6 turn_6 s_7 h_turn_6 j_s_7 => (s_asgP (t := (m__law_meeting ((m__law_draw ((m__law_draw s_7 s_4).2) s_4).2) ((1 : Int) + (m__law_draw s_7 s_4).1) ((1 : Int) + (m__law_draw ((m__law_draw s_7 s_4).2) s_4).1))) (en := (eL eS)) (fρ := fun (rows_8 : (List Tx) × Fd) => [.ex (.ref a) [], .own .new (encF rows_8.2), .v .sc (eI s_4), .v .sc (eI turn_6), .no, .no, .no, .no, .no]) (e_fz (o_callJ (es := ((m__law_meeting ((m__law_draw ((m__law_draw s_7 s_4).2) s_4).2) ((1 : Int) + (m__law_draw s_7 s_4).1) ((1 : Int) + (m__law_draw ((m__law_draw s_7 s_4).2) s_4).1)).1).map eS) (i := 1) (as := [.io (encF ((m__law_draw ((m__law_draw s_7 s_4).2) s_4).2)), .d (eI ((1 : Int) + (m__law_draw s_7 s_4).1)), .d (eI ((1 : Int) + (m__law_draw ((m__law_draw s_7 s_4).2) s_4).1))]) (es' := encF (m__law_meeting ((m__law_draw ((m__law_draw s_7 s_4).2) s_4).2) ((1 : Int) + (m__law_draw s_7 s_4).1) ((1 : Int) + (m__law_draw ((m__law_draw s_7 s_4).2) s_4).1)).2) (a_consF rfl (a_cons (e_add e_int (e_callJ (b := .sc) (d := eI (m__law_draw s_7 s_4).1) (i := 1) (as := [.io (encF s_7), .d (eI s_4)]) (es' := encF (m__law_draw s_7 s_4).2) (a_cons (e_own rfl) (a_cons (e_var rfl) a_nil trivial) rfl) rfl rfl rfl ⟨rfl, rfl, ⟨rfl, trivial⟩⟩ (fun vs H Q E hsp => ⟨(s_7, s_4), (by have a4 := ite4 hs_4 hmost_2; exact ⟨by omega, by omega⟩), hsp⟩))) (a_cons (e_add e_int (e_callJ (b := .sc) (d := eI (m__law_draw ((m__law_draw s_7 s_4).2) s_4).1) (i := 1) (as := [.io (encF ((m__law_draw s_7 s_4).2)), .d (eI s_4)]) (es' := encF (m__law_draw ((m__law_draw s_7 s_4).2) s_4).2) (a_cons (e_own rfl) (a_cons (e_var rfl) a_nil trivial) rfl) rfl rfl rfl ⟨rfl, rfl, ⟨rfl, trivial⟩⟩ (fun vs H Q E hsp => ⟨((m__law_draw s_7 s_4).2, s_4), (by have a4 := ite4 hs_4 hmost_2; exact ⟨by omega, by omega⟩), hsp⟩))) a_nil trivial) trivial) rfl rfl) rfl rfl rfl ⟨rfl, rfl, ⟨rfl, ⟨rfl, trivial⟩⟩⟩ (fun vs H Q E hsp => ⟨((m__law_draw ((m__law_draw s_7 s_4).2) s_4).2, ((1 : Int) + (m__law_draw s_7 s_4).1), ((1 : Int) + (m__law_draw ((m__law_draw s_7 s_4).2) s_4).1)), (by have a4 := ite4 hs_4 hmost_2; have d1 := draw_in s_7 s_4 (by omega); have d2 := draw_in (m__law_draw s_7 s_4).2 s_4 (by omega); exact ⟨by omega, by omega, by omega, by omega⟩), hsp⟩))) (fun rows_8 hrows_8 => (s_ifR (t_or (t_not (t_valB (e_call (b := .sc) (d := eB (m__law_checked rows_8.1)) (a_cons (e_var rfl) a_nil trivial) (fun vs H Q E hsp => ⟨rows_8.1, (by have a4 := ite4 hs_4 hmost_2; have d1 := draw_in s_7 s_4 (by omega); have d2 := draw_in (m__law_draw s_7 s_4).2 s_4 (by omega); have mm := meeting_meet ((m__law_draw ((m__law_draw s_7 s_4).2) s_4).2) (a := 1 + (m__law_draw s_7 s_4).1) (b := 1 + (m__law_draw ((m__law_draw s_7 s_4).2) s_4).1) ⟨by omega, by omega, by omega, by omega⟩; rw [← hrows_8] at mm; exact mm.small), hsp⟩)))) (fun h => (t_not (t_valB (e_call (b := .sc) (d := eB (m__law_counted rows_8.1)) (a_cons (e_var rfl) a_nil trivial) (fun vs H Q E hsp => ⟨rows_8.1, (by have a4 := ite4 hs_4 hmost_2; have d1 := draw_in s_7 s_4 (by omega); have d2 := draw_in (m__law_draw s_7 s_4).2 s_4 (by omega); have mm := meeting_meet ((m__law_draw ((m__law_draw s_7 s_4).2) s_4).2) (a := 1 + (m__law_draw s_7 s_4).1) (b := 1 + (m__law_draw ((m__law_draw s_7 s_4).2) s_4).1) ⟨by omega, by omega, by omega, by omega⟩; rw [← hrows_8] at mm; exact mm), hsp⟩)))))) (fun hc_9 => (s_leave (s_ret (rk := .k .sc) e_bl ⟨_, rfl, rfl, rfl⟩) (ng_nx ng_ret))) (fun hc_9 => (s_forFl (vs := [5]) ((m__law_near rows_8.2 rows_8.1).1) (eL eS) (fun (s_11 : Unit) => [.ex (.ref a) [], .own .new (encF (m__law_near rows_8.2 rows_8.1).2), .v .sc (eI s_4), .v .sc (eI turn_6), .v .new ((eL eS) rows_8.1), .no, .no, .no, .no]) (fun (paper_10 : (List Tx)) (s_11 : Unit) => [.ex (.ref a) [], .own .new (encF (m__law_near rows_8.2 rows_8.1).2), .v .sc (eI s_4), .v .sc (eI turn_6), .v .new ((eL eS) rows_8.1), .v .val ((eL eS) paper_10), .no, .no, .no]) _ (fun (paper_10 : (List Tx)) (s_11 : Unit) => ((iteB (!(m__law_checked paper_10)) (Fl.ret false) (iteB ((m__law_fault paper_10).isNone && (!(m__law_counted paper_10))) (Fl.ret false) (Fl.go ()))) : Fl Unit Bool)) (fun _ _ => True) (fun _ => True) () (i_listE (xs := (m__law_near rows_8.2 rows_8.1).1) (e := (eL eS)) (e_fz (o_callJV (b2 := .val) (ess := ((m__law_near rows_8.2 rows_8.1).1).map (eL eS)) (i := 1) (as := [.io (encF rows_8.2), .d ((eL eS) rows_8.1)]) (es' := encF (m__law_near rows_8.2 rows_8.1).2) (a_cons (e_own rfl) (a_cons (e_var rfl) a_nil trivial) rfl) rfl rfl rfl ⟨rfl, rfl, ⟨rfl, rfl, trivial⟩⟩ (fun vs H Q E hsp => ⟨(rows_8.2, rows_8.1), (by have a4 := ite4 hs_4 hmost_2; have d1 := draw_in s_7 s_4 (by omega); have d2 := draw_in (m__law_draw s_7 s_4).2 s_4 (by omega); have mm := meeting_meet ((m__law_draw ((m__law_draw s_7 s_4).2) s_4).2) (a := 1 + (m__law_draw s_7 s_4).1) (b := 1 + (m__law_draw ((m__law_draw s_7 s_4).2) s_4).1) ⟨by omega, by omega, by omega, by omega⟩; rw [← hrows_8] at mm; exact mm), hsp⟩)))) (Wk.eq (Wk.eq (Wk.eq (Wk.eq (Wk.eq (Wk.eq (Wk.eq (Wk.eq (Wk.eq Wk.nil))))))))) trivial (fun i_paper_10 paper_10 s_11 h_paper_10 j_s_11 => g_name) (fun i_paper_10 paper_10 s_11 h_paper_10 j_s_11 => (s_ifR (t_not (t_valB (e_call (b := .sc) (d := eB (m__law_checked paper_10)) (a_cons (e_var rfl) a_nil trivial) (fun vs H Q E hsp => ⟨paper_10, (by have a4 := ite4 hs_4 hmost_2; have d1 := draw_in s_7 s_4 (by omega); have d2 := draw_in (m__law_draw s_7 s_4).2 s_4 (by omega); have mm := meeting_meet ((m__law_draw ((m__law_draw s_7 s_4).2) s_4).2) (a := 1 + (m__law_draw s_7 s_4).1) (b := 1 + (m__law_draw ((m__law_draw s_7 s_4).2) s_4).1) ⟨by omega, by omega, by omega, by omega⟩; rw [← hrows_8] at mm; exact near_small mm _ (get_mem h_paper_10)), hsp⟩)))) (fun hc_12 => (s_leave (s_ret (rk := .k .sc) e_bl ⟨_, rfl, rfl, rfl⟩) (ng_nx ng_ret))) (fun hc_12 => (s_ifR (t_and (t_val (e_isO (e := eI) (fun _ => rfl) (e_call (b := .sc) (d := (eO eI) (m__law_fault paper_10)) (a_cons (e_var rfl) a_nil trivial) (fun vs H Q E hsp => ⟨paper_10, (by have a4 := ite4 hs_4 hmost_2; have d1 := draw_in s_7 s_4 (by omega); have d2 := draw_in (m__law_draw s_7 s_4).2 s_4 (by omega); have mm := meeting_meet ((m__law_draw ((m__law_draw s_7 s_4).2) s_4).2) (a := 1 + (m__law_draw s_7 s_4).1) (b := 1 + (m__law_draw ((m__law_draw s_7 s_4).2) s_4).1) ⟨by omega, by omega, by omega, by omega⟩; rw [← hrows_8] at mm; exact near_small mm _ (get_mem h_paper_10)), hsp⟩)) e_non trivial)) (fun h => (t_not (t_valB (e_call (b := .sc) (d := eB (m__law_counted paper_10)) (a_cons (e_var rfl) a_nil trivial) (fun vs H Q E hsp => ⟨paper_10, (fault_meet h), hsp⟩)))))) (fun hc_13 => (s_leave (s_ret (rk := .k .sc) e_bl ⟨_, rfl, rfl, rfl⟩) (ng_nx ng_ret))) (fun hc_13 => (s_end ⟨_, rfl, rfl⟩ (Wk.eq (Wk.eq (Wk.eq (Wk.eq (Wk.eq (Wk.no (Wk.eq (Wk.eq (Wk.eq Wk.nil))))))))))) (ng_nx ng_ret))) (ng_nx ng_ret))) (fun i_paper_10 paper_10 s_11 s_11' h_paper_10 j_s_11 q_s_11 => trivial) (fun i_paper_10 paper_10 s_11 s_11' h_paper_10 j_s_11 q_s_11 => trivial) (fun s_11 j_s_11 => trivial) (fun s_14 hs_14 js_14 => (s_asgP (t := (compS (fun (k_15 : Int) (s_16 : Fd) => (true, s_16)) (fun (k_15 : Int) (s_16 : Fd) => ((mulT ([119] : Tx) ((1 : Int) + (m__law_draw s_16 (9 : Int)).1)), (m__law_draw s_16 (9 : Int)).2)) (rng 0 ((m__law_draw ((m__law_near rows_8.2 rows_8.1).2) (11 : Int)).1)) ((m__law_draw ((m__law_near rows_8.2 rows_8.1).2) (11 : Int)).2))) (en := (eL eS)) (fρ := fun (other_17 : (List Tx) × Fd) => [.ex (.ref a) [], .own .new (encF other_17.2), .v .sc (eI s_4), .v .sc (eI turn_6), .v .new ((eL eS) rows_8.1), .no, .no, .no, .no]) (e_fz (o_lcS (b := .sc) (rng 0 ((m__law_draw ((m__law_near rows_8.2 rows_8.1).2) (11 : Int)).1)) eI eS (fun (s_16 : Fd) => [.ex (.ref a) [], .own .new (encF s_16), .v .sc (eI s_4), .v .sc (eI turn_6), .v .new ((eL eS) rows_8.1), .no, .no, .no, .no]) (fun (k_15 : Int) (s_16 : Fd) => [.ex (.ref a) [], .own .new (encF s_16), .v .sc (eI s_4), .v .sc (eI turn_6), .v .new ((eL eS) rows_8.1), .no, .no, .no, .v .sc (eI k_15)]) (fun _ => True) (fun (k_15 : Int) (s_16 : Fd) => (true, s_16)) (fun (k_15 : Int) (s_16 : Fd) => ((mulT ([119] : Tx) ((1 : Int) + (m__law_draw s_16 (9 : Int)).1)), (m__law_draw s_16 (9 : Int)).2)) (m__law_draw ((m__law_near rows_8.2 rows_8.1).2) (11 : Int)).2 (i_range1 (e_callJ (b := .sc) (d := eI (m__law_draw ((m__law_near rows_8.2 rows_8.1).2) (11 : Int)).1) (i := 1) (as := [.io (encF ((m__law_near rows_8.2 rows_8.1).2)), .d (eI (11 : Int))]) (es' := encF (m__law_draw ((m__law_near rows_8.2 rows_8.1).2) (11 : Int)).2) (a_cons (e_own rfl) (a_cons e_int a_nil trivial) rfl) rfl rfl rfl ⟨rfl, rfl, ⟨rfl, trivial⟩⟩ (fun vs H Q E hsp => ⟨((m__law_near rows_8.2 rows_8.1).2, (11 : Int)), (by walk_at "tp_pre"), hsp⟩)) (by have d := draw_in (m__law_near rows_8.2 rows_8.1).2 11 (by omega); omega) (by have d := draw_in (m__law_near rows_8.2 rows_8.1).2 11 (by omega); omega)) (stb_cons rfl (fun _ => rfl) stb_nil) (fun _ => rfl) trivial (fun k_15 s_16 hmk_15 hJ => (g_nameS (b' := .sc) (IsSc.int _))) (fun k_15 s_16 hmk_15 hJ => ⟨t_yes, trivial⟩) (fun k_15 s_16 hmk_15 hJ _ => ⟨(e_mulS (e_str (y := S [119])) (e_add e_int (e_callJ (b := .sc) (d := eI (m__law_draw s_16 (9 : Int)).1) (i := 1) (as := [.io (encF s_16), .d (eI (9 : Int))]) (es' := encF (m__law_draw s_16 (9 : Int)).2) (a_cons (e_own rfl) (a_cons e_int a_nil trivial) rfl) rfl rfl rfl ⟨rfl, rfl, ⟨rfl, trivial⟩⟩ (fun vs H Q E hsp => ⟨(s_16, (9 : Int)), (by walk_at "tp_pre"), hsp⟩))) (by have d := draw_in s_16 9 (by omega); first | omega | (simp only [List.length_append, List.length_cons, List.length_nil, repL_len, mulT_len] at *; omega)) (by have d := draw_in s_16 9 (by omega); first | omega | (simp only [List.length_append, List.length_cons, List.length_nil, repL_len, mulT_len] at *; omega)) (by have d := draw_in s_16 9 (by omega); first | omega | (simp only [List.length_append, List.length_cons, List.length_nil, repL_len, mulT_len] at *; omega))), trivial⟩) (fun _ _ => rfl) (by have d := draw_in (m__law_near rows_8.2 rows_8.1).2 11 (by omega); rw [rng_len]; omega))) (fun other_17 hother_17 => (s_ifR (t_not (t_valB (e_call (b := .sc) (d := eB (m__law_checked other_17.1)) (a_cons (e_var rfl) a_nil trivial) (fun vs H Q E hsp => ⟨other_17.1, (by rw [hother_17]; refine ⟨Nat.le_trans (compS_len _ _) (by rw [rng_len]; have d := draw_in (m__law_near rows_8.2 rows_8.1).2 11 (by omega); omega), compS_all (P := fun (r : Tx) => r.length ≤ 1000) _ _ fun k s _ => ?_⟩; have d := draw_in s 9 (by omega); show (mulT _ _).length ≤ 1000; rw [mulT_len]; simp only [List.length_cons, List.length_nil]; omega), hsp⟩)))) (fun hc_18 => (s_leave (s_ret (rk := .k .sc) e_bl ⟨_, rfl, rfl, rfl⟩) (ng_nx ng_ret))) (fun hc_18 => (s_asgP (t := (((1 : Int) + (m__law_draw other_17.2 (9 : Int)).1), (m__law_draw other_17.2 (9 : Int)).2)) (en := eI) (fρ := fun (size_19 : Int × Fd) => [.ex (.ref a) [], .own .new (encF size_19.2), .v .sc (eI s_4), .v .sc (eI turn_6), .v .new ((eL eS) rows_8.1), .no, .v .new ((eL eS) other_17.1), .no, .no]) (e_add e_int (e_callJ (b := .sc) (d := eI (m__law_draw other_17.2 (9 : Int)).1) (i := 1) (as := [.io (encF other_17.2), .d (eI (9 : Int))]) (es' := encF (m__law_draw other_17.2 (9 : Int)).2) (a_cons (e_own rfl) (a_cons e_int a_nil trivial) rfl) rfl rfl rfl ⟨rfl, rfl, ⟨rfl, trivial⟩⟩ (fun vs H Q E hsp => ⟨(other_17.2, (9 : Int)), (by walk_at "tp_pre"), hsp⟩))) (fun size_19 hsize_19 => (s_ifR (t_not (t_valB (e_call (b := .sc) (d := eB (m__law_checked (repL ([(cutL (mulT ([119, 108] : Tx) (5 : Int)) none (some size_19.1))] : List Tx) ((1 : Int) + (m__law_draw size_19.2 (9 : Int)).1)))) (a_cons (e_fz (o_repE (xs := ([(cutL (mulT ([119, 108] : Tx) (5 : Int)) none (some size_19.1))] : List Tx)) (n := ((1 : Int) + (m__law_draw size_19.2 (9 : Int)).1)) (e := eS) (e_fz (o_lstE (b := .sc) (xs := ([(cutL (mulT ([119, 108] : Tx) (5 : Int)) none (some size_19.1))] : List Tx)) (e := eS) (a_cons (e_slS (e_mulS (e_str (y := S [119, 108])) e_int (by walk_at "tp") (by walk_at "tp") (by walk_at "tp_rep")) p_none (p_some (e_var rfl)) (by first | omega | (simp only [List.length_append, List.length_cons, List.length_nil, repL_len, mulT_len] at *; omega))) a_nil trivial) ⟨rfl, trivial⟩ rfl)) (e_add e_int (e_callJ (b := .sc) (d := eI (m__law_draw size_19.2 (9 : Int)).1) (i := 1) (as := [.io (encF size_19.2), .d (eI (9 : Int))]) (es' := encF (m__law_draw size_19.2 (9 : Int)).2) (a_cons (e_own rfl) (a_cons e_int a_nil trivial) rfl) rfl rfl rfl ⟨rfl, rfl, ⟨rfl, trivial⟩⟩ (fun vs H Q E hsp => ⟨(size_19.2, (9 : Int)), (by walk_at "tp_pre"), hsp⟩))) trivial (by have d := draw_in size_19.2 9 (by omega); first | omega | (simp only [List.length_append, List.length_cons, List.length_nil, repL_len, mulT_len] at *; omega)) (by have d := draw_in size_19.2 9 (by omega); first | omega | (simp only [List.length_append, List.length_cons, List.length_nil, repL_len, mulT_len] at *; omega)) (by have d := draw_in size_19.2 9 (by omega); first | omega | (simp only [List.length_append, List.length_cons, List.length_nil, repL_len, mulT_len] at *; omega)))) a_nil trivial) (fun vs H Q E hsp => ⟨(repL ([(cutL (mulT ([119, 108] : Tx) (5 : Int)) none (some size_19.1))] : List Tx) ((1 : Int) + (m__law_draw size_19.2 (9 : Int)).1)), (by have d := draw_in size_19.2 9 (by omega); exact small_rep (Nat.le_trans (cutL_len_le _ _ _) (by rw [mulT_len]; decide)) (by omega)), hsp⟩)))) (fun hc_20 => (s_leave (s_ret (rk := .k .sc) e_bl ⟨_, rfl, rfl, rfl⟩) (ng_nx ng_ret))) (fun hc_20 => (s_end ⟨_, rfl, rfl⟩ (Wk.eq (Wk.eq (Wk.eq (Wk.no (Wk.no (Wk.eq (Wk.no (Wk.no (Wk.eq Wk.nil))))))))))) (ng_nx ng_ret))))) (ng_nx ng_ret))))))) (ng_nx ng_ret))))) (fun i_turn_6 turn_6 s_7 s_7' h_turn_6 j_s_7 q_s_7 => trivial) (fun i_turn_6 turn_6 s_7 s_7' h_turn_6 j_s_7 q_s_7 => trivial) (fun s_7 j_s_7 => trivial) (fun s_21 hs_21 js_21 => (s_leave (s_ret (rk := .k .sc) (e_and (e_eqE (e := (eP (eL eI) (eL eI))) (x := (m_wins_of_both ([([119, 119, 108] : Tx), ([108, 108, 108] : Tx)] : List Tx))) (y := (([(2 : Int), (0 : Int)] : List Int), ([(1 : Int), (1 : Int), (2 : Int)] : List Int))) (eqP (eqL eqI) (eqL eqI)) (e_call (b := .new) (d := (eP (eL eI) (eL eI)) (m_wins_of_both ([([119, 119, 108] : Tx), ([108, 108, 108] : Tx)] : List Tx))) (a_cons (e_fz (o_lstE (b := .sc) (xs := ([([119, 119, 108] : Tx), ([108, 108, 108] : Tx)] : List Tx)) (e := eS) (a_cons (e_str (y := S [119, 119, 108])) (a_cons (e_str (y := S [108, 108, 108])) a_nil trivial) trivial) ⟨rfl, rfl, trivial⟩ rfl)) a_nil trivial) (fun vs H Q E hsp => ⟨([([119, 119, 108] : Tx), ([108, 108, 108] : Tx)] : List Tx), (meet_c), hsp⟩)) (e_tup (b := .new) (a_cons (e_fz (o_lstE (b := .sc) (xs := ([(2 : Int), (0 : Int)] : List Int)) (e := eI) (a_cons e_int (a_cons e_int a_nil trivial) trivial) ⟨rfl, rfl, trivial⟩ rfl)) (a_cons (e_fz (o_lstE (b := .sc) (xs := ([(1 : Int), (1 : Int), (2 : Int)] : List Int)) (e := eI) (a_cons e_int (a_cons e_int (a_cons e_int a_nil trivial) trivial) trivial) ⟨rfl, rfl, rfl, trivial⟩ rfl)) a_nil trivial) trivial) ⟨rfl, rfl, trivial⟩) trivial) (fun h => (e_call (b := .sc) (d := eB (m__law_checked (repL ([(mulT ([119] : Tx) (8 : Int))] : List Tx) (8 : Int)))) (a_cons (e_fz (o_repE (xs := ([(mulT ([119] : Tx) (8 : Int))] : List Tx)) (n := (8 : Int)) (e := eS) (e_fz (o_lstE (b := .sc) (xs := ([(mulT ([119] : Tx) (8 : Int))] : List Tx)) (e := eS) (a_cons (e_mulS (e_str (y := S [119])) e_int (by walk_at "tp") (by walk_at "tp") (by walk_at "tp_rep")) a_nil trivial) ⟨rfl, trivial⟩ rfl)) e_int trivial (by walk_at "tp") (by walk_at "tp") (by walk_at "tp_rep"))) a_nil trivial) (fun vs H Q E hsp => ⟨(repL ([(mulT ([119] : Tx) (8 : Int))] : List Tx) (8 : Int)), (small_rep (by rw [mulT_len]; decide) (by omega)), hsp⟩)))) ⟨rfl, rfl⟩))))))))))
end
end LW

namespace LW
noncomputable section
open PySem PySem.Spec L2 TP
local macro_rules | `(tactic| walk_at "tp") => `(tactic| first | omega | (dsimp only at *; omega) | decide | (subst_vars; simp only [Bool.and_eq_true, decide_eq_true_eq, List.length_cons, List.length_nil, List.length_append, signs_len, rng_len] at *; omega))
local macro_rules | `(tactic| walk_at "tp_len") => `(tactic| first | omega | (simp only [List.length_map, rng_len, signs_len, List.length_append, List.length_cons, List.length_nil] at *; omega))
local macro_rules | `(tactic| walk_at "tp_mul") => `(tactic| (unfold L2.CMul; first | omega | (dsimp only at *; omega) | (subst_vars; dsimp only at *; omega)))
local macro_rules | `(tactic| walk_at "tp_pow") => `(tactic| (unfold L2.CPow; first | decide | omega))
local macro_rules | `(tactic| walk_at "tp_div") => `(tactic| (apply cdivW <;> omega))
local macro_rules | `(tactic| walk_at "tp_inb") => `(tactic| first | assumption | (unfold Inb; first | omega | (simp only [List.length_cons, List.length_nil, Bool.and_eq_true, decide_eq_true_eq] at *; omega)))
local macro_rules | `(tactic| walk_at "tp_pre") => `(tactic| first | (refine ⟨?_, ?_⟩ <;> omega) | (unfold D__law_draw; omega))
local macro_rules | `(tactic| walk_at "tp_rep") => `(tactic| first | omega | (simp only [List.length_cons, List.length_nil]; omega) | (simp only [List.length_cons, List.length_nil, Nat.zero_add, Nat.one_mul]; omega))
abbrev st_ini_BadTable : Stmt := inClass (topS 2) 0
theorem sc_ini_BadTable : FnScope ["self", "at"] ["self", "at"] (defScope st_ini_BadTable) := ⟨rfl, rfl, rfl, by decide +kernel, rfl, by decide +kernel, by decide +kernel⟩
theorem ok_ini_BadTable {P : Program} {w : World} {K : PySem.W.Frag} {mg : Str → Option Value} {base : Heap} {f : Addr} {fd : FuncData} (Fn : Fun K "__init__" "BadTable.__init__" st_ini_BadTable f fd) : FnOk P w K mg base CX0 1 f fd ["self", "at"] (spIni1 K "at") :=
  Fn.ok sc_ini_BadTable (fun vs H Q E h => by obtain ⟨a, C, v, rfl, _⟩ := h; rfl) fun cdv A outer s H vs Q E hr h => ⟨_, pss_one (ps_ost (pv 0) (pv 1)), ini_pure rfl h⟩
theorem all_mk {l : PySem.W.OpenLaw} {w : World} {K : PySem.W.Frag} {h : Heap} {mg : Str → Option Value} {fa : Addr} (X : K.In h) (G : h.Ns mainGlobals mg) (hfa : mg "law" = some (.ref fa))
    {f__law_draw : Addr} {od__law_draw an__law_draw : Option Addr} {sl__law_draw : Array (Option Value)} {oc__law_draw kV__law_draw dc__law_draw pm__law_draw cd__law_draw ct__law_draw : Value}
    {f__law_feed : Addr} {od__law_feed an__law_feed : Option Addr} {sl__law_feed : Array (Option Value)} {oc__law_feed kV__law_feed dc__law_feed pm__law_feed cd__law_feed ct__law_feed : Value}
    {f__law_meeting : Addr} {od__law_meeting an__law_meeting : Option Addr} {sl__law_meeting : Array (Option Value)} {oc__law_meeting kV__law_meeting dc__law_meeting pm__law_meeting cd__law_meeting ct__law_meeting : Value}
    {f_is_meeting_row : Addr} {od_is_meeting_row an_is_meeting_row : Option Addr} {sl_is_meeting_row : Array (Option Value)} {oc_is_meeting_row kV_is_meeting_row dc_is_meeting_row pm_is_meeting_row cd_is_meeting_row ct_is_meeting_row : Value}
    {f__law_is_whole : Addr} {od__law_is_whole an__law_is_whole : Option Addr} {sl__law_is_whole : Array (Option Value)} {oc__law_is_whole kV__law_is_whole dc__law_is_whole pm__law_is_whole cd__law_is_whole ct__law_is_whole : Value}
    {f_check_meeting : Addr} {od_check_meeting an_check_meeting : Option Addr} {sl_check_meeting : Array (Option Value)} {oc_check_meeting kV_check_meeting dc_check_meeting pm_check_meeting cd_check_meeting ct_check_meeting : Value}
    {f_wins_of_both : Addr} {od_wins_of_both an_wins_of_both : Option Addr} {sl_wins_of_both : Array (Option Value)} {oc_wins_of_both kV_wins_of_both dc_wins_of_both pm_wins_of_both cd_wins_of_both ct_wins_of_both : Value}
    {f__law_wins : Addr} {od__law_wins an__law_wins : Option Addr} {sl__law_wins : Array (Option Value)} {oc__law_wins kV__law_wins dc__law_wins pm__law_wins cd__law_wins ct__law_wins : Value}
    {f__law_fault : Addr} {od__law_fault an__law_fault : Option Addr} {sl__law_fault : Array (Option Value)} {oc__law_fault kV__law_fault dc__law_fault pm__law_fault cd__law_fault ct__law_fault : Value}
    {f__law_checked : Addr} {od__law_checked an__law_checked : Option Addr} {sl__law_checked : Array (Option Value)} {oc__law_checked kV__law_checked dc__law_checked pm__law_checked cd__law_checked ct__law_checked : Value}
    {f__law_counted : Addr} {od__law_counted an__law_counted : Option Addr} {sl__law_counted : Array (Option Value)} {oc__law_counted kV__law_counted dc__law_counted pm__law_counted cd__law_counted ct__law_counted : Value}
    {f__law_near : Addr} {od__law_near an__law_near : Option Addr} {sl__law_near : Array (Option Value)} {oc__law_near kV__law_near dc__law_near pm__law_near cd__law_near ct__law_near : Value}
    {f_law : Addr} {od_law an_law : Option Addr} {sl_law : Array (Option Value)} {oc_law kV_law dc_law pm_law cd_law ct_law : Value}
    {b_BadScores : Addr}
    {b_BadTable : Addr}
    {b_ClubError : Addr}
    {nm_BadTable q_BadTable : Str} {N_BadTable : Addr} {bs_BadTable : List Value} {sn_BadTable : List Str} {sub_BadTable : List Value} {ab_BadTable : Bool} {col_BadTable : Option Bool} {dd_BadTable : Option Addr} {m0_BadTable m1_BadTable m2_BadTable m3_BadTable m5_BadTable : Option Value}
    {f_ini_BadTable : Addr} {od_ini_BadTable an_ini_BadTable : Option Addr} {sl_ini_BadTable : Array (Option Value)} {oc_ini_BadTable kV_ini_BadTable dc_ini_BadTable pm_ini_BadTable cd_ini_BadTable ct_ini_BadTable : Value}
    {tk_MOST_IN_CLUB : Tok}
    (a__law_draw : PySem.W.nsIn K mainGlobals "_law_draw" = some (some (.ref f__law_draw)))
    (l__law_draw : K.lookup f__law_draw = some ⟨oc__law_draw, od__law_draw, .func (PySem.W.fnOf "_law_draw" "_law_draw" (defArgs st_rdraw) (defBody st_rdraw) (defScope st_rdraw) .none kV__law_draw dc__law_draw pm__law_draw an__law_draw cd__law_draw ct__law_draw), sl__law_draw⟩)
    (c__law_draw : PySem.W.codeIn K cd__law_draw "_law_draw" = true)
    (k__law_draw : PySem.W.keepIn K (.ref f__law_draw) = true)
    (a__law_feed : PySem.W.nsIn K mainGlobals "_law_feed" = some (some (.ref f__law_feed)))
    (l__law_feed : K.lookup f__law_feed = some ⟨oc__law_feed, od__law_feed, .func (PySem.W.fnOf "_law_feed" "_law_feed" (defArgs st__law_feed) (defBody st__law_feed) (defScope st__law_feed) .none kV__law_feed dc__law_feed pm__law_feed an__law_feed cd__law_feed ct__law_feed), sl__law_feed⟩)
    (c__law_feed : PySem.W.codeIn K cd__law_feed "_law_feed" = true)
    (k__law_feed : PySem.W.keepIn K (.ref f__law_feed) = true)
    (a__law_meeting : PySem.W.nsIn K mainGlobals "_law_meeting" = some (some (.ref f__law_meeting)))
    (l__law_meeting : K.lookup f__law_meeting = some ⟨oc__law_meeting, od__law_meeting, .func (PySem.W.fnOf "_law_meeting" "_law_meeting" (defArgs st__law_meeting) (defBody st__law_meeting) (defScope st__law_meeting) .none kV__law_meeting dc__law_meeting pm__law_meeting an__law_meeting cd__law_meeting ct__law_meeting), sl__law_meeting⟩)
    (c__law_meeting : PySem.W.codeIn K cd__law_meeting "_law_meeting" = true)
    (k__law_meeting : PySem.W.keepIn K (.ref f__law_meeting) = true)
    (a_is_meeting_row : PySem.W.nsIn K mainGlobals "is_meeting_row" = some (some (.ref f_is_meeting_row)))
    (l_is_meeting_row : K.lookup f_is_meeting_row = some ⟨oc_is_meeting_row, od_is_meeting_row, .func (PySem.W.fnOf "is_meeting_row" "is_meeting_row" (defArgs st_is_meeting_row) (defBody st_is_meeting_row) (defScope st_is_meeting_row) .none kV_is_meeting_row dc_is_meeting_row pm_is_meeting_row an_is_meeting_row cd_is_meeting_row ct_is_meeting_row), sl_is_meeting_row⟩)
    (c_is_meeting_row : PySem.W.codeIn K cd_is_meeting_row "is_meeting_row" = true)
    (k_is_meeting_row : PySem.W.keepIn K (.ref f_is_meeting_row) = true)
    (a__law_is_whole : PySem.W.nsIn K mainGlobals "_law_is_whole" = some (some (.ref f__law_is_whole)))
    (l__law_is_whole : K.lookup f__law_is_whole = some ⟨oc__law_is_whole, od__law_is_whole, .func (PySem.W.fnOf "_law_is_whole" "_law_is_whole" (defArgs st__law_is_whole) (defBody st__law_is_whole) (defScope st__law_is_whole) .none kV__law_is_whole dc__law_is_whole pm__law_is_whole an__law_is_whole cd__law_is_whole ct__law_is_whole), sl__law_is_whole⟩)
    (c__law_is_whole : PySem.W.codeIn K cd__law_is_whole "_law_is_whole" = true)
    (k__law_is_whole : PySem.W.keepIn K (.ref f__law_is_whole) = true)
    (a_check_meeting : PySem.W.nsIn K mainGlobals "check_meeting" = some (some (.ref f_check_meeting)))
    (l_check_meeting : K.lookup f_check_meeting = some ⟨oc_check_meeting, od_check_meeting, .func (PySem.W.fnOf "check_meeting" "check_meeting" (defArgs st_check_meeting) (defBody st_check_meeting) (defScope st_check_meeting) .none kV_check_meeting dc_check_meeting pm_check_meeting an_check_meeting cd_check_meeting ct_check_meeting), sl_check_meeting⟩)
    (c_check_meeting : PySem.W.codeIn K cd_check_meeting "check_meeting" = true)
    (k_check_meeting : PySem.W.keepIn K (.ref f_check_meeting) = true)
    (a_wins_of_both : PySem.W.nsIn K mainGlobals "wins_of_both" = some (some (.ref f_wins_of_both)))
    (l_wins_of_both : K.lookup f_wins_of_both = some ⟨oc_wins_of_both, od_wins_of_both, .func (PySem.W.fnOf "wins_of_both" "wins_of_both" (defArgs st_wins_of_both) (defBody st_wins_of_both) (defScope st_wins_of_both) .none kV_wins_of_both dc_wins_of_both pm_wins_of_both an_wins_of_both cd_wins_of_both ct_wins_of_both), sl_wins_of_both⟩)
    (c_wins_of_both : PySem.W.codeIn K cd_wins_of_both "wins_of_both" = true)
    (k_wins_of_both : PySem.W.keepIn K (.ref f_wins_of_both) = true)
    (a__law_wins : PySem.W.nsIn K mainGlobals "_law_wins" = some (some (.ref f__law_wins)))
    (l__law_wins : K.lookup f__law_wins = some ⟨oc__law_wins, od__law_wins, .func (PySem.W.fnOf "_law_wins" "_law_wins" (defArgs st__law_wins) (defBody st__law_wins) (defScope st__law_wins) .none kV__law_wins dc__law_wins pm__law_wins an__law_wins cd__law_wins ct__law_wins), sl__law_wins⟩)
    (c__law_wins : PySem.W.codeIn K cd__law_wins "_law_wins" = true)
    (k__law_wins : PySem.W.keepIn K (.ref f__law_wins) = true)
    (a__law_fault : PySem.W.nsIn K mainGlobals "_law_fault" = some (some (.ref f__law_fault)))
    (l__law_fault : K.lookup f__law_fault = some ⟨oc__law_fault, od__law_fault, .func (PySem.W.fnOf "_law_fault" "_law_fault" (defArgs st__law_fault) (defBody st__law_fault) (defScope st__law_fault) .none kV__law_fault dc__law_fault pm__law_fault an__law_fault cd__law_fault ct__law_fault), sl__law_fault⟩)
    (c__law_fault : PySem.W.codeIn K cd__law_fault "_law_fault" = true)
    (k__law_fault : PySem.W.keepIn K (.ref f__law_fault) = true)
    (a__law_checked : PySem.W.nsIn K mainGlobals "_law_checked" = some (some (.ref f__law_checked)))
    (l__law_checked : K.lookup f__law_checked = some ⟨oc__law_checked, od__law_checked, .func (PySem.W.fnOf "_law_checked" "_law_checked" (defArgs st__law_checked) (defBody st__law_checked) (defScope st__law_checked) .none kV__law_checked dc__law_checked pm__law_checked an__law_checked cd__law_checked ct__law_checked), sl__law_checked⟩)
    (c__law_checked : PySem.W.codeIn K cd__law_checked "_law_checked" = true)
    (k__law_checked : PySem.W.keepIn K (.ref f__law_checked) = true)
    (a__law_counted : PySem.W.nsIn K mainGlobals "_law_counted" = some (some (.ref f__law_counted)))
    (l__law_counted : K.lookup f__law_counted = some ⟨oc__law_counted, od__law_counted, .func (PySem.W.fnOf "_law_counted" "_law_counted" (defArgs st__law_counted) (defBody st__law_counted) (defScope st__law_counted) .none kV__law_counted dc__law_counted pm__law_counted an__law_counted cd__law_counted ct__law_counted), sl__law_counted⟩)
    (c__law_counted : PySem.W.codeIn K cd__law_counted "_law_counted" = true)
    (k__law_counted : PySem.W.keepIn K (.ref f__law_counted) = true)
    (a__law_near : PySem.W.nsIn K mainGlobals "_law_near" = some (some (.ref f__law_near)))
    (l__law_near : K.lookup f__law_near = some ⟨oc__law_near, od__law_near, .func (PySem.W.fnOf "_law_near" "_law_near" (defArgs st__law_near) (defBody st__law_near) (defScope st__law_near) .none kV__law_near dc__law_near pm__law_near an__law_near cd__law_near ct__law_near), sl__law_near⟩)
    (c__law_near : PySem.W.codeIn K cd__law_near "_law_near" = true)
    (k__law_near : PySem.W.keepIn K (.ref f__law_near) = true)
    (a_law : PySem.W.nsIn K mainGlobals "law" = some (some (.ref f_law)))
    (l_law : K.lookup f_law = some ⟨oc_law, od_law, .func (PySem.W.fnOf "law" "law" (defArgs st_law) (defBody st_law) (defScope st_law) .none kV_law dc_law pm_law an_law cd_law ct_law), sl_law⟩)
    (c_law : PySem.W.codeIn K cd_law "law" = true)
    (k_law : PySem.W.keepIn K (.ref f_law) = true)
    (aC_BadScores : PySem.W.nsIn K mainGlobals "BadScores" = some (some (.ref b_BadScores)))
    (aC_BadTable : PySem.W.nsIn K mainGlobals "BadTable" = some (some (.ref b_BadTable)))
    (aC_ClubError : PySem.W.nsIn K mainGlobals "ClubError" = some (some (.ref b_ClubError)))
    (xL_BadTable : K.lookup b_BadTable = some (excClassObj nm_BadTable q_BadTable b_BadTable N_BadTable bs_BadTable [.ref b_ClubError, .type "ValueError", .type "Exception", .type "BaseException", .type "object"] true sn_BadTable sub_BadTable ab_BadTable col_BadTable dd_BadTable m0_BadTable m1_BadTable m2_BadTable m3_BadTable m5_BadTable "ValueError.__new__"))
    (sa_BadTable : PySem.W.findIn K (.ref b_BadTable) "__setattr__" = some (some (.builtin "object.__setattr__")))
    (ga_BadTable : PySem.W.findIn K (.ref b_BadTable) "__getattribute__" = some (some (.builtin "BaseException.__getattribute__")))
    (gg_BadTable : PySem.W.findIn K (.ref b_BadTable) "__getattr__" = some none)
    (kC_BadTable : PySem.W.keepIn K (.ref b_BadTable) = true)
    (ha_BadTable : PySem.W.findIn K (.ref b_BadTable) "__class__" = some (some (.builtin "object.__class__")))
    (hm_BadTable : PySem.W.mroIn K b_BadTable (.type "object") = some true)
    (eC_BadTable : PySem.W.subIn K (.ref b_BadTable) (.type "BaseException") = some true)
    (tC_BadTable : PySem.W.typeIn K (.ref b_BadTable) = some (.type "type"))
    (hC_BadTable : PySem.W.hasDictIn K b_BadTable = true)
    (eC_ClubError : PySem.W.subIn K (.ref b_ClubError) (.type "BaseException") = some true)
    (tC_ClubError : PySem.W.typeIn K (.ref b_ClubError) = some (.type "type"))
    (hC_ClubError : PySem.W.hasDictIn K b_ClubError = true)
    (hn : PySem.W.specialIn K (.builtin "object.__class__") "__get__" = some (some (.builtin "getset_descriptor.__get__")))
    (ht : PySem.W.takesIn K (.builtin "object.__class__") = some true)
    (no_BadTable_at : PySem.W.findIn K (.ref b_BadTable) "at" = some none)
    (kit_BadTable_BadScores : PySem.W.kitOne K (.ref b_BadTable) (.ref b_BadScores) = some false)
    (kit_BadTable_BadTable : PySem.W.kitOne K (.ref b_BadTable) (.ref b_BadTable) = some true)
    (kit_BadTable_ValueError : PySem.W.kitOne K (.ref b_BadTable) (.type "ValueError") = some true)
    (sx_BadTable_ClubError : PySem.W.subIn K (.ref b_BadTable) (.ref b_ClubError) = some true)
    (a_ini_BadTable : PySem.W.findIn K (.ref b_BadTable) "__init__" = some (some (.ref f_ini_BadTable)))
    (l_ini_BadTable : K.lookup f_ini_BadTable = some ⟨oc_ini_BadTable, od_ini_BadTable, .func (PySem.W.fnOf "__init__" "BadTable.__init__" (defArgs st_ini_BadTable) (defBody st_ini_BadTable) (defScope st_ini_BadTable) .none kV_ini_BadTable dc_ini_BadTable pm_ini_BadTable an_ini_BadTable cd_ini_BadTable ct_ini_BadTable), sl_ini_BadTable⟩)
    (c_ini_BadTable : PySem.W.codeIn K cd_ini_BadTable "BadTable.__init__" = true)
    (k_ini_BadTable : PySem.W.keepIn K (.ref f_ini_BadTable) = true)
    (ty_ini_BadTable : PySem.W.typeIn K (.ref f_ini_BadTable) = some (.type "function"))
    (z_ValueError : PySem.W.nsIn K mainGlobals "ValueError" = some none)
    (z_abs : PySem.W.nsIn K mainGlobals "abs" = some none)
    (z_all : PySem.W.nsIn K mainGlobals "all" = some none)
    (z_bool : PySem.W.nsIn K mainGlobals "bool" = some none)
    (z_enumerate : PySem.W.nsIn K mainGlobals "enumerate" = some none)
    (z_int : PySem.W.nsIn K mainGlobals "int" = some none)
    (z_isinstance : PySem.W.nsIn K mainGlobals "isinstance" = some none)
    (z_len : PySem.W.nsIn K mainGlobals "len" = some none)
    (z_list : PySem.W.nsIn K mainGlobals "list" = some none)
    (z_range : PySem.W.nsIn K mainGlobals "range" = some none)
    (z_tuple : PySem.W.nsIn K mainGlobals "tuple" = some none)
    (z_MOST_IN_CLUB : PySem.W.nsIn K mainGlobals "MOST_IN_CLUB" = some (some (.int 8 tk_MOST_IN_CLUB)))
    : ∃ fd : FuncData, (∀ (s : Shared) (v : Value), BindsTo s fd ⟨[v], []⟩ [("script", v)]) ∧ ∀ base : Heap, K.In base → base.Ns mainGlobals mg → FnOk l.prog w K mg base CX0 5 fa fd ["script"] (spLaw K) := by
  have e := hfa.symm.trans (PySem.W.mg_of X G a_law)
  cases e
  have oc_BadTable : OexC K b_BadTable := ⟨⟨nm_BadTable, q_BadTable, N_BadTable, bs_BadTable, _, sn_BadTable, sub_BadTable, ab_BadTable, col_BadTable, dd_BadTable, m0_BadTable, m1_BadTable, m2_BadTable, m3_BadTable, m5_BadTable, xL_BadTable, by first | rfl | decide +kernel⟩, sa_BadTable, eC_BadTable, tC_BadTable, kC_BadTable⟩
  have x_BadTable : ExcT K mg "BadTable" b_BadTable := ⟨PySem.W.mg_of X G aC_BadTable, oc_BadTable, ⟨ga_BadTable, gg_BadTable, eC_BadTable, hC_BadTable⟩, ⟨ga_BadTable, gg_BadTable, eC_BadTable, hC_BadTable, ha_BadTable, hn, ht, hm_BadTable⟩⟩
  have T : Txt K mg { z := (), BadScores := b_BadScores, BadTable := b_BadTable, ClubError := b_ClubError } := {
    zz := trivial,
    ValueError := PySem.W.mg_none_of X G z_ValueError,
    abs := PySem.W.mg_none_of X G z_abs,
    all := PySem.W.mg_none_of X G z_all,
    bool := PySem.W.mg_none_of X G z_bool,
    c_MOST_IN_CLUB := ⟨tk_MOST_IN_CLUB, PySem.W.mg_of X G z_MOST_IN_CLUB⟩,
    enumerate := PySem.W.mg_none_of X G z_enumerate,
    exm_BadTable_ClubError := PySem.W.exm_ref eC_ClubError hC_ClubError tC_ClubError sx_BadTable_ClubError,
    g_BadScores := PySem.W.mg_of X G aC_BadScores,
    g_BadTable := PySem.W.mg_of X G aC_BadTable,
    g_ClubError := PySem.W.mg_of X G aC_ClubError,
    int := PySem.W.mg_none_of X G z_int,
    isinstance := PySem.W.mg_none_of X G z_isinstance,
    kit_BadTable_BadScores_false := kit_BadTable_BadScores,
    kit_BadTable_BadTable_true := kit_BadTable_BadTable,
    kit_BadTable_ValueError_true := kit_BadTable_ValueError,
    len := PySem.W.mg_none_of X G z_len,
    list := PySem.W.mg_none_of X G z_list,
    no_BadTable_at := no_BadTable_at,
    range := PySem.W.mg_none_of X G z_range,
    tuple := PySem.W.mg_none_of X G z_tuple,
    x_BadTable := x_BadTable }
  have F__law_draw := fun_mk (st := st_rdraw) l__law_draw c__law_draw k__law_draw
  have F__law_feed := fun_mk (st := st__law_feed) l__law_feed c__law_feed k__law_feed
  have F__law_meeting := fun_mk (st := st__law_meeting) l__law_meeting c__law_meeting k__law_meeting
  have F_is_meeting_row := fun_mk (st := st_is_meeting_row) l_is_meeting_row c_is_meeting_row k_is_meeting_row
  have F__law_is_whole := fun_mk (st := st__law_is_whole) l__law_is_whole c__law_is_whole k__law_is_whole
  have F_check_meeting := fun_mk (st := st_check_meeting) l_check_meeting c_check_meeting k_check_meeting
  have F_wins_of_both := fun_mk (st := st_wins_of_both) l_wins_of_both c_wins_of_both k_wins_of_both
  have F__law_wins := fun_mk (st := st__law_wins) l__law_wins c__law_wins k__law_wins
  have F__law_fault := fun_mk (st := st__law_fault) l__law_fault c__law_fault k__law_fault
  have F__law_checked := fun_mk (st := st__law_checked) l__law_checked c__law_checked k__law_checked
  have F__law_counted := fun_mk (st := st__law_counted) l__law_counted c__law_counted k__law_counted
  have F__law_near := fun_mk (st := st__law_near) l__law_near c__law_near k__law_near
  have F_law := fun_mk (st := st_law) l_law c_law k_law
  have F_ini_BadTable := fun_mk (st := st_ini_BadTable) l_ini_BadTable c_ini_BadTable k_ini_BadTable
  have b__law_draw := (F__law_draw.binds (ps := ["feed", "many"]) fun _ _ _ _ _ _ us hl => match us, hl with | [_, _], _ => rfl)
  have b__law_feed := (F__law_feed.binds (ps := ["script"]) fun _ _ _ _ _ _ us hl => match us, hl with | [_], _ => rfl)
  have b__law_meeting := (F__law_meeting.binds (ps := ["feed", "a", "b"]) fun _ _ _ _ _ _ us hl => match us, hl with | [_, _, _], _ => rfl)
  have b_is_meeting_row := (F_is_meeting_row.binds (ps := ["row"]) fun _ _ _ _ _ _ us hl => match us, hl with | [_], _ => rfl)
  have b__law_is_whole := (F__law_is_whole.binds (ps := ["x"]) fun _ _ _ _ _ _ us hl => match us, hl with | [_], _ => rfl)
  have b_check_meeting := (F_check_meeting.binds (ps := ["rows"]) fun _ _ _ _ _ _ us hl => match us, hl with | [_], _ => rfl)
  have b_wins_of_both := (F_wins_of_both.binds (ps := ["rows"]) fun _ _ _ _ _ _ us hl => match us, hl with | [_], _ => rfl)
  have b__law_wins := (F__law_wins.binds (ps := ["rows"]) fun _ _ _ _ _ _ us hl => match us, hl with | [_], _ => rfl)
  have b__law_fault := (F__law_fault.binds (ps := ["rows"]) fun _ _ _ _ _ _ us hl => match us, hl with | [_], _ => rfl)
  have b__law_checked := (F__law_checked.binds (ps := ["rows"]) fun _ _ _ _ _ _ us hl => match us, hl with | [_], _ => rfl)
  have b__law_counted := (F__law_counted.binds (ps := ["rows"]) fun _ _ _ _ _ _ us hl => match us, hl with | [_], _ => rfl)
  have b__law_near := (F__law_near.binds (ps := ["feed", "rows"]) fun _ _ _ _ _ _ us hl => match us, hl with | [_, _], _ => rfl)
  have b_ini_BadTable := (F_ini_BadTable.binds (ps := ["self", "at"]) fun _ _ _ _ _ _ us hl => match us, hl with | [_, _], _ => rfl)
  refine ⟨PySem.W.fnOf "law" "law" (defArgs st_law) (defBody st_law) (defScope st_law) .none kV_law dc_law pm_law an_law cd_law ct_law, fun s v => .of_eq rfl, fun base _ _ => ?_⟩
  have I_BadTable : IniOk l.prog w K mg base b_BadTable f_ini_BadTable _ ["self", "at"] (spIni1 K "at") := ⟨ok_ini_BadTable F_ini_BadTable, a_ini_BadTable, ty_ini_BadTable, b_ini_BadTable⟩
  have C__law_draw : Cal l.prog w K mg base "_law_draw" 1 f__law_draw _ ["feed", "many"] sp__law_draw := ⟨((ok_rdraw F__law_draw T).imp sp_draw_of), PySem.W.mg_of X G a__law_draw, k__law_draw, b__law_draw⟩
  have C__law_feed : Cal l.prog w K mg base "_law_feed" 1 f__law_feed _ ["script"] (spFeed K) := ⟨(ok__law_feed F__law_feed T), PySem.W.mg_of X G a__law_feed, k__law_feed, b__law_feed⟩
  have C__law_meeting : Cal l.prog w K mg base "_law_meeting" 2 f__law_meeting _ ["feed", "a", "b"] sp__law_meeting := ⟨(ok__law_meeting F__law_meeting T C__law_draw), PySem.W.mg_of X G a__law_meeting, k__law_meeting, b__law_meeting⟩
  have C_is_meeting_row : Cal l.prog w K mg base "is_meeting_row" 1 f_is_meeting_row _ ["row"] sp_is_meeting_row := ⟨(ok_is_meeting_row F_is_meeting_row T ), PySem.W.mg_of X G a_is_meeting_row, k_is_meeting_row, b_is_meeting_row⟩
  have C__law_is_whole : Cal l.prog w K mg base "_law_is_whole" 1 f__law_is_whole _ ["x"] sp__law_is_whole := ⟨(ok__law_is_whole F__law_is_whole T ), PySem.W.mg_of X G a__law_is_whole, k__law_is_whole, b__law_is_whole⟩
  have CH__law_is_whole : CalH l.prog w K mg base "_law_is_whole" 1 f__law_is_whole _ ["x"] sp__law_is_whole := ⟨okH__law_is_whole F__law_is_whole T , PySem.W.mg_of X G a__law_is_whole, k__law_is_whole, b__law_is_whole⟩
  have CX_check_meeting : CalX l.prog w K mg base "check_meeting" 3 f_check_meeting _ ["rows"] (sp_check_meeting _) := ⟨(ok_check_meeting F_check_meeting T C_is_meeting_row I_BadTable), PySem.W.mg_of X G a_check_meeting, k_check_meeting, b_check_meeting⟩
  have C_wins_of_both : Cal l.prog w K mg base "wins_of_both" 1 f_wins_of_both _ ["rows"] sp_wins_of_both := ⟨(ok_wins_of_both F_wins_of_both T ), PySem.W.mg_of X G a_wins_of_both, k_wins_of_both, b_wins_of_both⟩
  have C__law_wins : Cal l.prog w K mg base "_law_wins" 1 f__law_wins _ ["rows"] sp__law_wins := ⟨(ok__law_wins F__law_wins T ), PySem.W.mg_of X G a__law_wins, k__law_wins, b__law_wins⟩
  have C__law_fault : Cal l.prog w K mg base "_law_fault" 1 f__law_fault _ ["rows"] sp__law_fault := ⟨(ok__law_fault F__law_fault T ), PySem.W.mg_of X G a__law_fault, k__law_fault, b__law_fault⟩
  have C__law_checked : Cal l.prog w K mg base "_law_checked" 4 f__law_checked _ ["rows"] sp__law_checked := ⟨(ok__law_checked F__law_checked T C__law_fault CX_check_meeting CH__law_is_whole), PySem.W.mg_of X G a__law_checked, k__law_checked, b__law_checked⟩
  have C__law_counted : Cal l.prog w K mg base "_law_counted" 2 f__law_counted _ ["rows"] sp__law_counted := ⟨(ok__law_counted F__law_counted T C_wins_of_both C__law_wins C__law_is_whole), PySem.W.mg_of X G a__law_counted, k__law_counted, b__law_counted⟩
  have C__law_near : Cal l.prog w K mg base "_law_near" 2 f__law_near _ ["feed", "rows"] sp__law_near := ⟨(ok__law_near F__law_near T C__law_draw), PySem.W.mg_of X G a__law_near, k__law_near, b__law_near⟩
  exact ok_law F_law T C__law_feed C__law_draw C__law_meeting C__law_near C__law_checked C_wins_of_both C__law_counted C__law_fault law_true
theorem walk {l : PySem.W.OpenLaw} {q : Program} {loose : List Str} {XP : (Str → Option Value) → Heap → Prop} {YP : World → Heap → Prop} {d : DefRec} {K : Params → PySem.W.Frag} (hn : l.most = some 63) (hdf : d.params.defaults = [])
    (hY : ∀ (w : World) (h : Heap), YP w h → (K w.params).In h)
    (FF : ∀ (w : World) (mg : Str → Option Value) (fa : Addr) (h : Heap), (K w.params).In h → h.Ns mainGlobals mg → mg d.name = some (.ref fa) →
      ∃ fd : FuncData, (∀ (s : Shared) (u : Value), BindsTo s fd ⟨[u], []⟩ [("script", u)]) ∧ ∀ base : Heap, (K w.params).In base → base.Ns mainGlobals mg → FnOk l.prog w (K w.params) mg base CX0 5 fa fd ["script"] (spLaw (K w.params))) :
    PySem.W.WalkO q loose XP YP l.row.toRowW d [] (fun f vs => PySem.call f vs) :=
  L2.walk_of (n := 63) (k := 5) (x := "script") (CX := fun _ => CX0) (sp := fun w => spLaw (K w.params)) hn (by decide) hdf ⟨rfl, by decide, by decide⟩ hY FF (fun _ _ a ns hl _ hS => ⟨a, ns, rfl, hS, hl, fun _ => rfl⟩) fun _ _ _ _ _ z => z
end
end LW
open PySem PySem.W PyProof.Rows in
set_option maxRecDepth 100000 in
set_option maxHeartbeats 0 in
theorem PySem.Challenge.cw_tablesplayed_k86_meetings_checked_holds : PySem.Challenge.rw_tablesplayed_k86_meetings_checked.Holds := by
  w_on; o_law; k_head; (case hw => w_witness2)
  k_fill
  refine LW.walk (l := PySem.Challenge.rw_tablesplayed_k86_meetings_checked) rfl rfl (fun w h Y => PySem.W.kIn_of Y) ?F
  case F =>
    intro w mg fa h KX G hmg
    refine' LW.all_mk KX G hmg ?a__law_draw ?l__law_draw ?c__law_draw ?k__law_draw ?a__law_feed ?l__law_feed ?c__law_feed ?k__law_feed ?a__law_meeting ?l__law_meeting ?c__law_meeting ?k__law_meeting ?a_is_meeting_row ?l_is_meeting_row ?c_is_meeting_row ?k_is_meeting_row ?a__law_is_whole ?l__law_is_whole ?c__law_is_whole ?k__law_is_whole ?a_check_meeting ?l_check_meeting ?c_check_meeting ?k_check_meeting ?a_wins_of_both ?l_wins_of_both ?c_wins_of_both ?k_wins_of_both ?a__law_wins ?l__law_wins ?c__law_wins ?k__law_wins ?a__law_fault ?l__law_fault ?c__law_fault ?k__law_fault ?a__law_checked ?l__law_checked ?c__law_checked ?k__law_checked ?a__law_counted ?l__law_counted ?c__law_counted ?k__law_counted ?a__law_near ?l__law_near ?c__law_near ?k__law_near ?a_law ?l_law ?c_law ?k_law ?aC_BadScores ?aC_BadTable ?aC_ClubError ?xL_BadTable ?sa_BadTable ?ga_BadTable ?gg_BadTable ?kC_BadTable ?ha_BadTable ?hm_BadTable ?eC_BadTable ?tC_BadTable ?hC_BadTable ?eC_ClubError ?tC_ClubError ?hC_ClubError ?hn ?ht ?no_BadTable_at ?kit_BadTable_BadScores ?kit_BadTable_BadTable ?kit_BadTable_ValueError ?sx_BadTable_ClubError ?a_ini_BadTable ?l_ini_BadTable ?c_ini_BadTable ?k_ini_BadTable ?ty_ini_BadTable ?z_ValueError ?z_abs ?z_all ?z_bool ?z_enumerate ?z_int ?z_isinstance ?z_len ?z_list ?z_range ?z_tuple ?z_MOST_IN_CLUB
    (case a__law_draw => first | k_is | rfl)
    (case l__law_draw => first | k_is | rfl)
    (case c__law_draw => first | k_is | rfl)
    (case k__law_draw => first | k_is | rfl)
    (case a__law_feed => first | k_is | rfl)
    (case l__law_feed => first | k_is | rfl)
    (case c__law_feed => first | k_is | rfl)
    (case k__law_feed => first | k_is | rfl)
    (case a__law_meeting => first | k_is | rfl)
    (case l__law_meeting => first | k_is | rfl)
    (case c__law_meeting => first | k_is | rfl)
    (case k__law_meeting => first | k_is | rfl)
    (case a_is_meeting_row => first | k_is | rfl)
    (case l_is_meeting_row => first | k_is | rfl)
    (case c_is_meeting_row => first | k_is | rfl)
    (case k_is_meeting_row => first | k_is | rfl)
    (case a__law_is_whole => first | k_is | rfl)
    (case l__law_is_whole => first | k_is | rfl)
    (case c__law_is_whole => first | k_is | rfl)
    (case k__law_is_whole => first | k_is | rfl)
    (case a_check_meeting => first | k_is | rfl)
    (case l_check_meeting => first | k_is | rfl)
    (case c_check_meeting => first | k_is | rfl)
    (case k_check_meeting => first | k_is | rfl)
    (case a_wins_of_both => first | k_is | rfl)
    (case l_wins_of_both => first | k_is | rfl)
    (case c_wins_of_both => first | k_is | rfl)
    (case k_wins_of_both => first | k_is | rfl)
    (case a__law_wins => first | k_is | rfl)
    (case l__law_wins => first | k_is | rfl)
    (case c__law_wins => first | k_is | rfl)
    (case k__law_wins => first | k_is | rfl)
    (case a__law_fault => first | k_is | rfl)
    (case l__law_fault => first | k_is | rfl)
    (case c__law_fault => first | k_is | rfl)
    (case k__law_fault => first | k_is | rfl)
    (case a__law_checked => first | k_is | rfl)
    (case l__law_checked => first | k_is | rfl)
    (case c__law_checked => first | k_is | rfl)
    (case k__law_checked => first | k_is | rfl)
    (case a__law_counted => first | k_is | rfl)
    (case l__law_counted => first | k_is | rfl)
    (case c__law_counted => first | k_is | rfl)
    (case k__law_counted => first | k_is | rfl)
    (case a__law_near => first | k_is | rfl)
    (case l__law_near => first | k_is | rfl)
    (case c__law_near => first | k_is | rfl)
    (case k__law_near => first | k_is | rfl)
    (case a_law => first | k_is | rfl)
    (case l_law => first | k_is | rfl)
    (case c_law => first | k_is | rfl)
    (case k_law => first | k_is | rfl)
    (case aC_BadScores => first | k_is | rfl)
    (case aC_BadTable => first | k_is | rfl)
    (case aC_ClubError => first | k_is | rfl)
    (case xL_BadTable => first | k_is | rfl)
    (case sa_BadTable => first | k_is | rfl)
    (case ga_BadTable => first | k_is | rfl)
    (case gg_BadTable => first | k_is | rfl)
    (case kC_BadTable => first | k_is | rfl)
    (case ha_BadTable => first | k_is | rfl)
    (case hm_BadTable => first | k_is | rfl)
    (case eC_BadTable => first | k_is | rfl)
    (case tC_BadTable => first | k_is | rfl)
    (case hC_BadTable => first | k_is | rfl)
    (case eC_ClubError => first | k_is | rfl)
    (case tC_ClubError => first | k_is | rfl)
    (case hC_ClubError => first | k_is | rfl)
    (case hn => first | k_is | rfl)
    (case ht => first | k_is | rfl)
    (case no_BadTable_at => first | k_is | rfl)
    (case kit_BadTable_BadScores => first | k_is | rfl)
    (case kit_BadTable_BadTable => first | k_is | rfl)
    (case kit_BadTable_ValueError => first | k_is | rfl)
    (case sx_BadTable_ClubError => first | k_is | rfl)
    (case a_ini_BadTable => first | k_is | rfl)
    (case l_ini_BadTable => first | k_is | rfl)
    (case c_ini_BadTable => first | k_is | rfl)
    (case k_ini_BadTable => first | k_is | rfl)
    (case ty_ini_BadTable => first | k_is | rfl)
    (case z_ValueError => first | k_is | rfl)
    (case z_abs => first | k_is | rfl)
    (case z_all => first | k_is | rfl)
    (case z_bool => first | k_is | rfl)
    (case z_enumerate => first | k_is | rfl)
    (case z_int => first | k_is | rfl)
    (case z_isinstance => first | k_is | rfl)
    (case z_len => first | k_is | rfl)
    (case z_list => first | k_is | rfl)
    (case z_range => first | k_is | rfl)
    (case z_tuple => first | k_is | rfl)
    (case z_MOST_IN_CLUB => first | k_is | rfl)
