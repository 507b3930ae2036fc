import PyProof.Rows.All
import Wide.All
import OpenK.AllK
import Wide.FinOn
import HandS.ForMost
import HandS.Slots
import HandS.SlotsOwn
import HandS.TupAny
import HandS.TupMul
import HandS.Wide
import HandS.Style
import HandS.Zip
import HandS.NoneIn
import HandS.Defaults
import HandS.HeadHook2
import HandS.WideMore
import HandS.IsInst
import PyProof.InstNe
import KE.GoesEnum
import HandS.DictComp
import HandS.More
import HandS.Strs
import HandS.Star
import HandS.Conv
import HandS.Gcd
import HandS.HeadEnd
import PyProof.ReprRoads
import HandS.HeadHook1
import KE.KStateDown
import HandS.Words
import HandS.Head0
import HandS.Head1
import HandS.Head2
import HandS.Head3
import PyProof.Rows.IntOr
import PySem.Challenge.RW_slantways_k63_whole_rooms_by_rows_and_fa
set_option Elab.async false
set_option linter.all false
set_option maxRecDepth 100000
set_option maxHeartbeats 2000000
namespace Dl
open PySem PySem.Spec PyProof.Rows L2 SlX

/-! ### data -/
inductive D where
  | py (d : PyData)
  | obj (C : Addr) (ds : List D)
  | dic (kvs : List (Int × PyData))
  | dice
  /-- a tuple of ints whose object is known; a tuple of such -/
  | tupN (ns : List Int)
  | tab (rows : List (List Int))
def Ex (F H : Hp) : Prop := ∀ a o, F a = some o → H a = some o
theorem Ex.refl (H : Hp) : Ex H H := fun _ _ h => h
theorem Ex.trans {F G H : Hp} (a : Ex F G) (b : Ex G H) : Ex F H := fun x o h => b x o (a x o h)
theorem Ex.rd {F H : Hp} (e : Ex F H) {a : Addr} {u : HO} (h : Rd F a u) : Rd H a u := by
  rcases h with h | ⟨o, h⟩
  · exact .inl (e _ _ h)
  · exact .inr ⟨o, e _ _ h⟩
theorem Ex.sql {K : PySem.W.Frag} {F H : Hp} (e : Ex F H) {a : Addr} {xs : List V} (h : SqL K F a xs) : SqL K H a xs := by
  rcases h with h | h
  · exact .inl (e.rd h)
  · exact .inr h
theorem Ex.sqt {K : PySem.W.Frag} {F H : Hp} (e : Ex F H) {a : Addr} {xs : List V} (h : SqT K F a xs) : SqT K H a xs := by
  rcases h with h | h
  · exact .inl (e.rd h)
  · exact .inr h
mutual
theorem dp_mono {K : PySem.W.Frag} {F H : Hp} (e : Ex F H) : ∀ (d : PyData) (v : V), Dp K F v d → Dp K H v d
  | .none, _, h => by cases h; exact .non
  | .bool b, _, h => by cases h; exact .bl b
  | .int i, _, h => by cases h; exact .int i
  | .str x, _, h => by cases h; exact .str x
  | .list ds, _, h => by
    cases h with
    | lst hs ha => exact .lst (e.sql hs) (dpa_mono e ds _ ha)
  | .tuple ds, _, h => by
    cases h with
    | tup hs ha => exact .tup (e.sqt hs) (dpa_mono e ds _ ha)
  | .dict _, _, h => by cases h
theorem dpa_mono {K : PySem.W.Frag} {F H : Hp} (e : Ex F H) : ∀ (ds : List PyData) (vs : List V), DpAll K F vs ds → DpAll K H vs ds
  | [], _, h => by cases h; exact .nil
  | d :: ds, _, h => by
    cases h with
    | cons h1 h2 => exact .cons (dp_mono e d _ h1) (dpa_mono e ds _ h2)
end
/-- a value is told by its data, read off the frozen part F; the dice lie at δ -/
inductive Rep (K : PySem.W.Frag) (δ : Option Addr) (F : Hp) : V → D → Prop
  | py {v : V} {d : PyData} : Dp K F v d → Rep K δ F v (.py d)
  | obj {a C dx : Addr} {vs : List (Option V)} {ds : List D} : Slt F a C dx vs → (∀ (i : Nat) (d : D), ds[i]? = some d → ∃ v : V, vs[i]? = some (some v)) →
      (∀ (i : Nat) (v : V) (d : D), vs[i]? = some (some v) → ds[i]? = some d → Rep K δ F v d) → Rep K δ F (.ref a) (.obj C ds)
  | dic {a : Addr} {kvs : List (Key × V)} {ks : List (Int × PyData)} : Rd F a (.dK kvs) → kvs.map (·.1) = ks.map (fun p => Sum.inl p.1) → DpAll K F (kvs.map (·.2)) (ks.map (·.2)) → Rep K δ F (.ref a) (.dic ks)
  | dice {a : Addr} : δ = some a → Rep K δ F (.ref a) .dice
  | tupN {a : Addr} {o : Obj} {ns : List Int} : F a = some (.frz o (.tup (ns.map V.int))) → o.cls = .type "tuple" → o.dict = none → Rep K δ F (.ref a) (.tupN ns)
  | tab {a : Addr} {us : List V} {rows : List (List Int)} : SqT K F a us → us.length = rows.length → (∀ (i : Nat) (u : V) (ns : List Int), us[i]? = some u → rows[i]? = some ns → ∃ (b : Addr) (o : Obj), u = .ref b ∧ F b = some (.frz o (.tup (ns.map V.int))) ∧ o.cls = .type "tuple" ∧ o.dict = none) → Rep K δ F (.ref a) (.tab rows)
theorem Ex.slt {F H : Hp} (e : Ex F H) {a C dx : Addr} {vs : List (Option V)} (h : Slt F a C dx vs) : Slt H a C dx vs := by
  rcases h with ⟨h1, h2⟩ | ⟨h1, h2⟩
  · exact .inl ⟨e _ _ h1, h2⟩
  · exact .inr ⟨e _ _ h1, e _ _ h2⟩
theorem Rep.mono {K : PySem.W.Frag} {δ : Option Addr} {F H : Hp} (e : Ex F H) {v : V} {d : D} (h : Rep K δ F v d) : Rep K δ H v d := by
  induction h with
  | py h => exact .py (dp_mono e _ _ h)
  | obj h1 h2 _ ih => exact .obj (e.slt h1) h2 ih
  | dic h1 h2 h3 => exact .dic (e.rd h1) h2 (dpa_mono e _ _ h3)
  | dice h => exact .dice h
  | tupN h1 h2 h3 => exact .tupN (e _ _ h1) h2 h3
  | tab h1 h2 h3 => exact .tab (e.sqt h1) h2 fun i u ns a b => let ⟨c, o, p, q, r⟩ := h3 i u ns a b; ⟨c, o, p, e _ _ q, r⟩
abbrev Reps (K : PySem.W.Frag) (δ : Option Addr) (F : Hp) : List V → List D → Prop := Paired (Rep K δ F)
theorem Reps.mono {K : PySem.W.Frag} {δ : Option Addr} {F H : Hp} (e : Ex F H) : ∀ {vs : List V} {ds : List D}, Reps K δ F vs ds → Reps K δ H vs ds
  | _, _, .nil => .nil
  | _, _, .cons r t => .cons (r.mono e) (Reps.mono e t)

/-! ### steps -/
def Dc (H : Hp) (a : Addr) : Prop := ∃ x y z : Int, H a = some (.lst [.int x, .int y, .int z])
/-- from (F, H) to (F', H'): F the frozen part, H all; only the dice may change -/
structure Stp (δ : Option Addr) (F H F' H' : Hp) : Prop where
  ff : Ex F F'
  fh : Ex F' H'
  new : ∀ a o, F' a = some o → F a = some o ∨ H a = none
  keep : ∀ a o, H a = some o → δ ≠ some a → H' a = some o
  dc : ∀ a, δ = some a → Dc H' a
structure Wd (δ : Option Addr) (F H : Hp) : Prop where
  fh : Ex F H
  dn : ∀ a, δ = some a → F a = none
  dc : ∀ a, δ = some a → Dc H a
section
variable {δ : Option Addr} {F H F' H' F'' H'' : Hp}
theorem Wd.refl (w : Wd δ F H) : Stp δ F H F H := ⟨Ex.refl F, w.fh, fun _ _ h => .inl h, fun _ _ h _ => h, w.dc⟩
theorem Wd.step (w : Wd δ F H) (s : Stp δ F H F' H') : Wd δ F' H' := by
  refine ⟨s.fh, fun a e => ?_, s.dc⟩
  cases q : F' a with
  | none => rfl
  | some o =>
    rcases s.new a o q with z | z
    · rw [w.dn a e] at z; cases z
    · obtain ⟨x, y, u, h⟩ := w.dc a e
      rw [z] at h; cases h
theorem Stp.trans (w : Wd δ F H) (s : Stp δ F H F' H') (t : Stp δ F' H' F'' H'') : Stp δ F H F'' H'' := by
  refine ⟨s.ff.trans t.ff, t.fh, fun a o h => ?_, fun a o h e => t.keep a o (s.keep a o h e) e, t.dc⟩
  rcases t.new a o h with z | z
  · exact s.new a o z
  · right
    cases q : H a with
    | none => rfl
    | some u =>
      by_cases e : δ = some a
      · obtain ⟨x, y, v, h2⟩ := s.dc a e
        rw [z] at h2; cases h2
      · rw [s.keep a u q e] at z; cases z
/-- a new frozen object -/
theorem Wd.alloc (w : Wd δ F H) {p : Addr} {o : HO} (hp : H p = none) : Stp δ F H (upd F p o) (upd H p o) := by
  have fp : F p = none := by
    cases q : F p with
    | none => rfl
    | some u => rw [w.fh p u q] at hp; cases hp
  refine ⟨fun a u h => ?_, fun a u h => ?_, fun a u h => ?_, fun a u h _ => ?_, fun a e => ?_⟩
  · rw [upd_ne (ne_of_none h fp)]; exact h
  · by_cases e : a = p
    · rw [e, upd_same] at h ⊢; exact h
    · rw [upd_ne e] at h ⊢; exact w.fh a u h
  · by_cases e : a = p
    · right; rw [e]; exact hp
    · rw [upd_ne e] at h; exact .inl h
  · rw [upd_ne (ne_of_none h hp)]; exact h
  · obtain ⟨x, y, z, h⟩ := w.dc a e
    exact ⟨x, y, z, by rw [upd_ne (ne_of_none h hp)]; exact h⟩
/-- a new object that is not frozen -/
theorem Wd.allocU (w : Wd δ F H) {p : Addr} {o : HO} (hp : H p = none) : Stp δ F H F (upd H p o) := by
  refine ⟨Ex.refl F, fun a u h => ?_, fun a u h => .inl h, fun a u h _ => ?_, fun a e => ?_⟩
  · rw [upd_ne (ne_of_none (w.fh a u h) hp)]; exact w.fh a u h
  · rw [upd_ne (ne_of_none h hp)]; exact h
  · obtain ⟨x, y, z, h⟩ := w.dc a e
    exact ⟨x, y, z, by rw [upd_ne (ne_of_none h hp)]; exact h⟩
theorem Wd.nn (w : Wd δ F H) {p : Addr} (hp : H p = none) : F p = none := by
  cases q : F p with
  | none => rfl
  | some u => rw [w.fh p u q] at hp; cases hp
theorem Wd.nd (w : Wd δ F H) {p : Addr} (hp : H p = none) : δ ≠ some p := fun e => by
  obtain ⟨x, y, z, h⟩ := w.dc p e
  rw [hp] at h; cases h
theorem Stp.back (s : Stp δ F H F' H') {p : Addr} (hp : H' p = none) : H p = none := by
  cases q : H p with
  | none => rfl
  | some u =>
    by_cases e : δ = some p
    · obtain ⟨x, y, v, h2⟩ := s.dc p e
      rw [hp] at h2; cases h2
    · rw [s.keep p u q e] at hp; cases hp
end

/-! ### the frame's slots by data -/
inductive Sl where
  | no
  | fz (d : D)
  | ow (xs : List PyData)
  | mk (C : Addr × Addr) (ds : List (Option D))
/-- an object under construction (its class, its address): the slots set so far -/
def MkR (K : PySem.W.Frag) (δ : Option Addr) (H0 F H : Hp) (z : Option (Option V)) (C : Addr × Addr) (ds : List (Option D)) : Prop :=
  ∃ (dx : Addr) (vs : List (Option V)) (u : HO), z = some (some (.ref C.2)) ∧ Slt H C.2 C.1 dx vs ∧ dx ≠ C.2 ∧ H dx = some u ∧ (∀ xs, u ≠ .lst xs) ∧ (F C.2 = none ∧ F dx = none ∧ H0 C.2 = none ∧ H0 dx = none ∧ δ ≠ some C.2 ∧ δ ≠ some dx) ∧
    (∀ (j : Nat) (v : V), vs[j]? = some (some v) → ∃ d, ds[j]? = some (some d)) ∧ ∀ (j : Nat) (d : D), ds[j]? = some (some d) → ∃ v, vs[j]? = some (some v) ∧ Rep K δ F v d
theorem slt_ext {H : Hp} {a C dx : Addr} {vs : List (Option V)} (h : Slt H a C dx vs) : ∃ u, H a = some u ∧ ∀ xs, u ≠ .lst xs := by
  rcases h with ⟨h, _⟩ | ⟨h, _⟩
  · exact ⟨_, h, fun _ z => (nomatch z)⟩
  · exact ⟨_, h, fun _ z => by unfold SlO at z; cases z⟩
theorem MkR.move {K : PySem.W.Frag} {δ : Option Addr} {H0 F H F' H' : Hp} {z : Option (Option V)} {C : Addr × Addr} {ds : List (Option D)} (m : MkR K δ H0 F H z C ds) (ex : Ex F F')
    (k : ∀ b u, H b = some u → (∀ xs, u ≠ .lst xs) → δ ≠ some b → H' b = some u) (k' : ∀ b u, H b = some u → (∀ xs, u ≠ .lst xs) → F b = none → F' b = none) : MkR K δ H0 F' H' z C ds := by
  obtain ⟨C, a⟩ := C
  obtain ⟨dx, vs, u, e, sl, ne, hu, nl, ⟨f1, f2, f3, f4, f5, f6⟩, g0, g⟩ := m
  obtain ⟨ua, ha, nla⟩ := slt_ext sl
  refine ⟨dx, vs, u, e, ?_, ne, k dx u hu nl f6, nl, ⟨k' a ua ha nla f1, k' dx u hu nl f2, f3, f4, f5, f6⟩, g0, fun j d q => let ⟨v, x, r⟩ := g j d q; ⟨v, x, r.mono ex⟩⟩
  rcases sl with ⟨h, q⟩ | ⟨h, q⟩
  · exact .inl ⟨k a _ h (fun _ z => (nomatch z)) f5, q⟩
  · exact .inr ⟨k a _ h (fun _ z => by unfold SlO at z; cases z) f5, k dx _ q (fun _ z => (nomatch z)) f6⟩
structure RepE (K : PySem.W.Frag) (δ : Option Addr) (H0 F H : Hp) (σ : L2.St) (ρ : List Sl) : Prop where
  len : σ.length = ρ.length
  fz : ∀ (i : Nat) (d : D), ρ[i]? = some (.fz d) → ∃ v : V, σ[i]? = some (some v) ∧ Rep K δ F v d
  ow : ∀ (i : Nat) (xs : List PyData), ρ[i]? = some (.ow xs) → ∃ (a : Addr) (vs : List V), σ[i]? = some (some (.ref a)) ∧ H a = some (.lst vs) ∧ F a = none ∧ H0 a = none ∧ δ ≠ some a ∧ DpAll K F vs xs
  ap : ∀ (i j : Nat) (xs ys : List PyData) (a : Addr), ρ[i]? = some (.ow xs) → ρ[j]? = some (.ow ys) → σ[i]? = some (some (.ref a)) → σ[j]? = some (some (.ref a)) → i = j
  mo : ∀ (i : Nat) (C : Addr × Addr) (ds : List (Option D)), ρ[i]? = some (.mk C ds) → MkR K δ H0 F H (σ[i]?) C ds
  mu : ∀ (i j : Nat) (C C' : Addr × Addr) (ds ds' : List (Option D)), ρ[i]? = some (.mk C ds) → ρ[j]? = some (.mk C' ds') → i = j
theorem RepE.step {K : PySem.W.Frag} {δ : Option Addr} {H0 F H F' H' : Hp} {σ : L2.St} {ρ : List Sl} (r : RepE K δ H0 F H σ ρ) (s : Stp δ F H F' H') : RepE K δ H0 F' H' σ ρ := by
  refine ⟨r.len, fun i d h => let ⟨v, e, q⟩ := r.fz i d h; ⟨v, e, q.mono s.ff⟩, fun i xs h => ?_, r.ap, fun i C ds h => (r.mo i C ds h).move s.ff (fun b u h _ n => s.keep b u h n) (fun b u h _ n => ?_), r.mu⟩
  rotate_left
  · cases q : F' b with
    | none => rfl
    | some o =>
      rcases s.new b o q with z | z
      · rw [n] at z; cases z
      · rw [h] at z; cases z
  obtain ⟨a, vs, e, ha, hf, h0, hd, dp⟩ := r.ow i xs h
  refine ⟨a, vs, e, s.keep a _ ha hd, ?_, h0, hd, dpa_mono s.ff _ _ dp⟩
  cases q : F' a with
  | none => rfl
  | some o =>
    rcases s.new a o q with z | z
    · rw [hf] at z; cases z
    · rw [ha] at z; cases z
theorem get_set {α : Type} {l : List α} {i j : Nat} {x : α} : (l.set i x)[j]? = if i = j then (if i < l.length then some x else none) else l[j]? := by
  rw [List.getElem?_set]
theorem RepE.set {K : PySem.W.Frag} {δ : Option Addr} {H0 F H : Hp} {σ : L2.St} {ρ : List Sl} (r : RepE K δ H0 F H σ ρ) (i : Nat) {v : V} {d : D} (h : Rep K δ F v d) : RepE K δ H0 F H (σ.set i (some v)) (ρ.set i (.fz d)) := by
  have ne : ∀ (j : Nat) (x : Sl), (ρ.set i (.fz d))[j]? = some x → i ≠ j → ρ[j]? = some x ∧ (σ.set i (some v))[j]? = σ[j]? := fun j x q e => by
    rw [List.getElem?_set_ne e] at q
    exact ⟨q, List.getElem?_set_ne e⟩
  have eq : ∀ (x : Sl), (ρ.set i (.fz d))[i]? = some x → x = .fz d ∧ i < σ.length := fun x q => by
    rw [get_set, if_pos rfl] at q
    split at q
    · rename_i h; exact ⟨(Option.some.inj q).symm, by rw [r.len]; exact h⟩
    · cases q
  refine ⟨by rw [List.length_set, List.length_set]; exact r.len, fun j d' q => ?_, fun j xs q => ?_, fun j k xs ys a q1 q2 s1 s2 => ?_, fun j C ds q => ?_, fun j k C C' ds ds' q1 q2 => ?_⟩
  rotate_right
  rotate_right
  · by_cases e : i = j
    · subst e
      obtain ⟨z, hl⟩ := eq _ q
      cases z
    · obtain ⟨q', s'⟩ := ne j _ q e
      rw [s']; exact r.mo j C ds q'
  · by_cases e : i = j
    · subst e
      obtain ⟨z, _⟩ := eq _ q1
      cases z
    · by_cases e2 : i = k
      · subst e2
        obtain ⟨z, _⟩ := eq _ q2
        cases z
      · exact r.mu j k C C' ds ds' (ne j _ q1 e).1 (ne k _ q2 e2).1
  · by_cases e : i = j
    · subst e
      obtain ⟨z, hl⟩ := eq _ q
      cases z
      exact ⟨v, List.getElem?_set_self hl, h⟩
    · obtain ⟨q', s'⟩ := ne j _ q e
      rw [s']; exact r.fz j d' q'
  · by_cases e : i = j
    · subst e
      obtain ⟨z, hl⟩ := eq _ q
      cases z
    · obtain ⟨q', s'⟩ := ne j _ q e
      rw [s']; exact r.ow j xs q'
  · by_cases e : i = j
    · subst e
      obtain ⟨z, _⟩ := eq _ q1
      cases z
    · by_cases e2 : i = k
      · subst e2
        obtain ⟨z, _⟩ := eq _ q2
        cases z
      · obtain ⟨q1', s1'⟩ := ne j _ q1 e
        obtain ⟨q2', s2'⟩ := ne k _ q2 e2
        rw [s1'] at s1
        rw [s2'] at s2
        exact r.ap j k xs ys a q1' q2' s1 s2
/-- a slot of its own list: set to another own list at an address of no other slot -/
theorem RepE.own {K : PySem.W.Frag} {δ : Option Addr} {H0 F H : Hp} {σ : L2.St} {ρ : List Sl} (r : RepE K δ H0 F H σ ρ) (i : Nat) {a : Addr} {vs : List V} {xs : List PyData} (ha : H a = some (.lst vs)) (hf : F a = none) (h0 : H0 a = none) (hd : δ ≠ some a) (dp : DpAll K F vs xs)
    (ap : ∀ (j : Nat) (ys : List PyData), j ≠ i → ρ[j]? = some (.ow ys) → σ[j]? ≠ some (some (.ref a))) : RepE K δ H0 F H (σ.set i (some (.ref a))) (ρ.set i (.ow xs)) := by
  have ne : ∀ (j : Nat) (x : Sl), (ρ.set i (.ow xs))[j]? = some x → i ≠ j → ρ[j]? = some x ∧ (σ.set i (some (.ref a)))[j]? = σ[j]? := fun j x q e => by
    rw [List.getElem?_set_ne e] at q
    exact ⟨q, List.getElem?_set_ne e⟩
  have eq : ∀ (x : Sl), (ρ.set i (.ow xs))[i]? = some x → x = .ow xs ∧ i < σ.length := fun x q => by
    rw [get_set, if_pos rfl] at q
    split at q
    · rename_i h; exact ⟨(Option.some.inj q).symm, by rw [r.len]; exact h⟩
    · cases q
  have self : i < σ.length → (σ.set i (some (V.ref a)))[i]? = some (some (.ref a)) := fun h => List.getElem?_set_self h
  refine ⟨by rw [List.length_set, List.length_set]; exact r.len, fun j d' q => ?_, fun j zs q => ?_, fun j k zs ys b q1 q2 s1 s2 => ?_, fun j C ds q => ?_, fun j k C C' ds ds' q1 q2 => ?_⟩
  rotate_right
  rotate_right
  · by_cases e : i = j
    · subst e
      obtain ⟨z, hl⟩ := eq _ q
      cases z
    · obtain ⟨q', s'⟩ := ne j _ q e
      rw [s']; exact r.mo j C ds q'
  · by_cases e : i = j
    · subst e
      obtain ⟨z, _⟩ := eq _ q1
      cases z
    · by_cases e2 : i = k
      · subst e2
        obtain ⟨z, _⟩ := eq _ q2
        cases z
      · exact r.mu j k C C' ds ds' (ne j _ q1 e).1 (ne k _ q2 e2).1
  · by_cases e : i = j
    · subst e
      obtain ⟨z, hl⟩ := eq _ q
      cases z
    · obtain ⟨q', s'⟩ := ne j _ q e
      rw [s']; exact r.fz j d' q'
  · by_cases e : i = j
    · subst e
      obtain ⟨z, hl⟩ := eq _ q
      cases z
      exact ⟨a, vs, self hl, ha, hf, h0, hd, dp⟩
    · obtain ⟨q', s'⟩ := ne j _ q e
      rw [s']; exact r.ow j zs q'
  · by_cases e : i = j
    · by_cases e2 : i = k
      · rw [← e, ← e2]
      · subst e
        obtain ⟨z, hl⟩ := eq _ q1
        cases z
        obtain ⟨q2', s2'⟩ := ne k _ q2 e2
        rw [s2'] at s2
        rw [self hl] at s1
        cases s1
        exact absurd s2 (ap k ys (fun q => e2 q.symm) q2')
    · by_cases e2 : i = k
      · subst e2
        obtain ⟨z, hl⟩ := eq _ q2
        cases z
        obtain ⟨q1', s1'⟩ := ne j _ q1 e
        rw [s1'] at s1
        rw [self hl] at s2
        cases s2
        exact absurd s1 (ap j zs (fun q => e q.symm) q1')
      · obtain ⟨q1', s1'⟩ := ne j _ q1 e
        obtain ⟨q2', s2'⟩ := ne k _ q2 e2
        rw [s1'] at s1
        rw [s2'] at s2
        exact r.ap j k zs ys b q1' q2' s1 s2
end Dl
set_option Elab.async false
set_option linter.all false
set_option maxRecDepth 100000
set_option maxHeartbeats 2000000
namespace Dl
open PySem PySem.Spec PyProof.Rows L2 SlX

/-! ### data in lists -/
section
variable {K : PySem.W.Frag} {F H : Hp}
theorem dpa_len : ∀ {vs : List V} {xs : List PyData}, DpAll K F vs xs → vs.length = xs.length
  | _, _, .nil => rfl
  | _, _, .cons _ t => by rw [List.length_cons, List.length_cons, dpa_len t]
theorem dpa_get : ∀ {vs : List V} {xs : List PyData} {i : Nat} {d : PyData}, DpAll K F vs xs → xs[i]? = some d → ∃ v, vs[i]? = some v ∧ Dp K F v d
  | _, _, 0, d, .cons h _, e => by
    have e' : _ = d := Option.some.inj e
    subst e'
    exact ⟨_, rfl, h⟩
  | _, _, i + 1, d, .cons _ t, e => by
    obtain ⟨v, h1, h2⟩ := dpa_get (i := i) (d := d) t (by simpa using e)
    exact ⟨v, by simpa using h1, h2⟩
theorem dpa_get2 : ∀ {vs : List V} {xs : List PyData} {i : Nat} {v : V}, DpAll K F vs xs → vs[i]? = some v → ∃ d, xs[i]? = some d ∧ Dp K F v d
  | _, _, 0, v, .cons h _, e => by
    have e' : _ = v := Option.some.inj e
    subst e'
    exact ⟨_, rfl, h⟩
  | _, _, i + 1, v, .cons _ t, e => by
    obtain ⟨d, h1, h2⟩ := dpa_get2 (i := i) (v := v) t (by simpa using e)
    exact ⟨d, by simpa using h1, h2⟩
theorem dpa_app : ∀ {vs ws : List V} {xs ys : List PyData}, DpAll K F vs xs → DpAll K F ws ys → DpAll K F (vs ++ ws) (xs ++ ys)
  | _, _, _, _, .nil, h => h
  | _, _, _, _, .cons a t, h => .cons a (dpa_app t h)
theorem dpa_take : ∀ {vs : List V} {xs : List PyData} (n : Nat), DpAll K F vs xs → DpAll K F (vs.take n) (xs.take n)
  | _, _, 0, _ => .nil
  | _, _, _ + 1, .nil => .nil
  | _, _, n + 1, .cons a t => .cons a (dpa_take n t)
theorem dpa_drop : ∀ {vs : List V} {xs : List PyData} (n : Nat), DpAll K F vs xs → DpAll K F (vs.drop n) (xs.drop n)
  | _, _, 0, h => h
  | _, _, _ + 1, .nil => .nil
  | _, _, n + 1, .cons _ t => dpa_drop n t
theorem dpa_set : ∀ {vs : List V} {xs : List PyData} (n : Nat) {v : V} {d : PyData}, DpAll K F vs xs → Dp K F v d → DpAll K F (vs.set n v) (xs.set n d)
  | _, _, _, _, _, .nil, _ => .nil
  | _, _, 0, _, _, .cons _ t, h => .cons h t
  | _, _, n + 1, _, _, .cons a t, h => .cons a (dpa_set n t h)
theorem dpa_one {v : V} {d : PyData} (h : Dp K F v d) : DpAll K F [v] [d] := .cons h .nil
theorem dpa_rev : ∀ {vs : List V} {xs : List PyData}, DpAll K F vs xs → DpAll K F vs.reverse xs.reverse
  | _, _, .nil => .nil
  | _, _, .cons a t => by
    rw [List.reverse_cons, List.reverse_cons]
    exact dpa_app (dpa_rev t) (dpa_one a)
theorem dpa_rep {v : V} {d : PyData} (h : Dp K F v d) : ∀ n, DpAll K F (List.replicate n v) (List.replicate n d)
  | 0 => .nil
  | n + 1 => .cons h (dpa_rep h n)
theorem dp_int {v : V} {i : Int} (h : Dp K F v (.int i)) : v = .int i := by cases h; rfl
theorem dp_bool {v : V} {b : Bool} (h : Dp K F v (.bool b)) : v = .bl b := by cases h; rfl
theorem dp_none {v : V} (h : Dp K F v .none) : v = .non := by cases h; rfl
theorem dpa_ints : ∀ {vs : List V} {ns : List Int}, DpAll K F vs (ns.map .int) → vs = ns.map V.int
  | _, [], h => by cases h; rfl
  | _, n :: ns, h => by
    cases h with
    | cons h1 h2 => rw [dp_int h1, dpa_ints h2]; rfl
theorem dpa_ofInts : ∀ (ns : List Int), DpAll K F (ns.map V.int) (ns.map .int)
  | [] => .nil
  | n :: ns => .cons (.int n) (dpa_ofInts ns)
theorem dpa_bools : ∀ {vs : List V} {ns : List Bool}, DpAll K F vs (ns.map .bool) → vs = ns.map V.bl
  | _, [], h => by cases h; rfl
  | _, n :: ns, h => by
    cases h with
    | cons h1 h2 => rw [dp_bool h1, dpa_bools h2]; rfl
theorem dpa_atI {vs : List V} {xs : List PyData} {i : Int} {d : PyData} (h : DpAll K F vs xs) (e : atI xs i = some d) : ∃ v, atI vs i = some v ∧ Dp K F v d := by
  unfold atI at e ⊢
  rw [dpa_len h]
  cases q : ixN xs.length i with
  | none => rw [q] at e; cases e
  | some j =>
    rw [q] at e
    exact dpa_get h e
end
theorem rep_int {K : PySem.W.Frag} {δ : Option Addr} {F : Hp} {v : V} {i : Int} (h : Rep K δ F v (.py (.int i))) : v = .int i := by
  cases h with
  | py h => exact dp_int h
theorem rep_bool {K : PySem.W.Frag} {δ : Option Addr} {F : Hp} {v : V} {i : Bool} (h : Rep K δ F v (.py (.bool i))) : v = .bl i := by
  cases h with
  | py h => exact dp_bool h
theorem rep_none {K : PySem.W.Frag} {δ : Option Addr} {F : Hp} {v : V} (h : Rep K δ F v (.py .none)) : v = .non := by
  cases h with
  | py h => exact dp_none h
theorem rep_py {K : PySem.W.Frag} {δ : Option Addr} {F : Hp} {v : V} {d : PyData} (h : Rep K δ F v (.py d)) : Dp K F v d := by
  cases h with
  | py h => exact h
theorem rep_tup {K : PySem.W.Frag} {δ : Option Addr} {F : Hp} {v : V} {xs : List PyData} (h : Rep K δ F v (.py (.tuple xs))) : ∃ a vs, v = .ref a ∧ SqT K F a vs ∧ DpAll K F vs xs := by
  cases h with
  | py h => cases h with
    | tup h1 h2 => exact ⟨_, _, rfl, h1, h2⟩
theorem rep_lst {K : PySem.W.Frag} {δ : Option Addr} {F : Hp} {v : V} {xs : List PyData} (h : Rep K δ F v (.py (.list xs))) : ∃ a vs, v = .ref a ∧ SqL K F a vs ∧ DpAll K F vs xs := by
  cases h with
  | py h => cases h with
    | lst h1 h2 => exact ⟨_, _, rfl, h1, h2⟩

/-! ### evaluation by data -/
section
variable (K : PySem.W.Frag) (δ : Option Addr) (H0 : Hp)
def EQ (te : TE) (ρ : List Sl) (R : Hp → V → Hp → Hp → Prop) : Prop :=
  ∀ (σ : L2.St) (F H : Hp), RepE K δ H0 F H σ ρ → Wd δ F H → ∀ Q : VK, (∀ v F' H', Stp δ F H F' H' → R H v F' H' → Q v H') → te σ H Q
def EP (te : TE) (ρ : List Sl) (P : D → Prop) : Prop := EQ K δ H0 te ρ fun _ v F' _ => ∃ d, P d ∧ Rep K δ F' v d
def ED (te : TE) (ρ : List Sl) (d : D) : Prop := EQ K δ H0 te ρ fun _ v F' _ => Rep K δ F' v d
/-- a list that may be read: frozen, or the frame's own -/
def LsAt (F H : Hp) (a : Addr) (vs : List V) : Prop := SqL K F a vs ∨ (H a = some (.lst vs) ∧ δ ≠ some a)
def EL (te : TE) (ρ : List Sl) (xs : List PyData) : Prop := EQ K δ H0 te ρ fun _ v F' H' => ∃ a vs, v = .ref a ∧ LsAt K δ F' H' a vs ∧ DpAll K F' vs xs
/-- a tracked list: new, or the frame's own -/
def EH (te : TE) (ρ : List Sl) (xs : List PyData) : Prop := EQ K δ H0 te ρ fun _ v F' H' => ∃ a vs, v = .ref a ∧ (H' a = some (.lst vs) ∧ δ ≠ some a) ∧ DpAll K F' vs xs
/-- a new list, not frozen yet -/
def ENP (te : TE) (ρ : List Sl) (P : List PyData → Prop) : Prop := EQ K δ H0 te ρ fun H v F' H' => ∃ p vs xs, v = .ref p ∧ P xs ∧ H' p = some (.lst vs) ∧ F' p = none ∧ H p = none ∧ DpAll K F' vs xs
abbrev EN (te : TE) (ρ : List Sl) (xs : List PyData) : Prop := ENP K δ H0 te ρ fun ys => ys = xs
def BP (tt : TT) (ρ : List Sl) (P : Bool → Prop) : Prop :=
  ∀ (σ : L2.St) (F H : Hp), RepE K δ H0 F H σ ρ → Wd δ F H → ∀ Q : Bool → Hp → Prop, (∀ b F' H', Stp δ F H F' H' → P b → Q b H') → tt σ H Q
abbrev BD (tt : TT) (ρ : List Sl) (b : Bool) : Prop := BP K δ H0 tt ρ fun c => c = b
def AP (ta : TA) (ρ : List Sl) (P : List D → Prop) : Prop :=
  ∀ (σ : L2.St) (F H : Hp), RepE K δ H0 F H σ ρ → Wd δ F H → ∀ Q : List V → Hp → Prop, (∀ vs ds F' H', Stp δ F H F' H' → P ds → Reps K δ F' vs ds → Q vs H') → ta σ H Q
abbrev AD (ta : TA) (ρ : List Sl) (ds : List D) : Prop := AP K δ H0 ta ρ fun es => es = ds
end
section
variable {K : PySem.W.Frag} {δ : Option Addr} {H0 : Hp} {ρ : List Sl} {ta tb tc te : TE} {x y d : D} {P : D → Prop}
theorem LsAt.sql {F H : Hp} {a : Addr} {vs : List V} (h : LsAt K δ F H a vs) (e : Ex F H) : SqL K H a vs := by
  rcases h with h | ⟨h, _⟩
  · exact e.sql h
  · exact SqL.of h
theorem LsAt.step {F H F' H' : Hp} {a : Addr} {vs : List V} (h : LsAt K δ F H a vs) (s : Stp δ F H F' H') : LsAt K δ F' H' a vs := by
  rcases h with h | ⟨h, n⟩
  · exact .inl (s.ff.sql h)
  · exact .inr ⟨s.keep _ _ h n, n⟩
theorem EQ.imp {R R' : Hp → V → Hp → Hp → Prop} (h : EQ K δ H0 te ρ R) (k : ∀ H v F' H', R H v F' H' → R' H v F' H') : EQ K δ H0 te ρ R' :=
  fun σ F H r w Q q => h σ F H r w Q fun v F' H' s z => q v F' H' s (k _ _ _ _ z)
theorem ED.ep (h : ED K δ H0 te ρ d) (hp : P d) : EP K δ H0 te ρ P := EQ.imp h fun _ _ _ _ z => ⟨d, hp, z⟩
theorem EP.imp {P' : D → Prop} (h : EP K δ H0 te ρ P) (k : ∀ d, P d → P' d) : EP K δ H0 te ρ P' := EQ.imp h fun _ _ _ _ ⟨d, z, r⟩ => ⟨d, k d z, r⟩
theorem ED.to {d' : D} (h : ED K δ H0 te ρ d) (e : d = d') : ED K δ H0 te ρ d' := e ▸ h
theorem EP.ed (h : EP K δ H0 te ρ fun z => z = d) : ED K δ H0 te ρ d := EQ.imp h fun _ _ _ _ ⟨_, z, r⟩ => z ▸ r
/-- a first part, and what follows from its value -/
theorem ed_var {i : Nat} (h : ρ[i]? = some (.fz d)) : ED K δ H0 (tVar i) ρ d := fun σ F H r w Q q => by
  obtain ⟨v, e, z⟩ := r.fz i d h
  exact ⟨v, e, q v F H w.refl z⟩
theorem ed_c {v : V} {d : PyData} (h : ∀ F, Dp K F v d) : ED K δ H0 (tC v) ρ (.py d) := fun σ F H r w Q q => q v F H w.refl (.py (h F))
theorem ed_int {i : Int} : ED K δ H0 (tC (.int i)) ρ (.py (.int i)) := ed_c fun _ => .int i
theorem ed_bl {b : Bool} : ED K δ H0 (tC (.bl b)) ρ (.py (.bool b)) := ed_c fun _ => .bl b
theorem ed_non : ED K δ H0 (tC .non) ρ (.py .none) := ed_c fun _ => .non
theorem ed_str {z : Str} : ED K δ H0 (tC (.str z)) ρ (.py (.str z)) := ed_c fun _ => .str z
theorem el_own {i : Nat} {xs : List PyData} (h : ρ[i]? = some (.ow xs)) : EL K δ H0 (tVar i) ρ xs := fun σ F H r w Q q => by
  obtain ⟨a, vs, e, ha, hf, h0, hd, dp⟩ := r.ow i xs h
  exact ⟨_, e, q _ F H w.refl ⟨a, vs, rfl, .inr ⟨ha, hd⟩, dp⟩⟩
theorem eh_own {i : Nat} {xs : List PyData} (h : ρ[i]? = some (.ow xs)) : EH K δ H0 (tVar i) ρ xs := fun σ F H r w Q q => by
  obtain ⟨a, vs, e, ha, hf, h0, hd, dp⟩ := r.ow i xs h
  exact ⟨_, e, q _ F H w.refl ⟨a, vs, rfl, ⟨ha, hd⟩, dp⟩⟩
theorem el_fz {xs : List PyData} (h : ED K δ H0 te ρ (.py (.list xs))) : EL K δ H0 te ρ xs := EQ.imp h fun _ _ _ _ z => by
  obtain ⟨a, vs, e, q, r⟩ := rep_lst z
  exact ⟨a, vs, e, .inl q, r⟩
theorem el_en {xs : List PyData} (h : EN K δ H0 te ρ xs) : EL K δ H0 te ρ xs := fun σ F H r w Q q => h σ F H r w Q fun v F' H' s ⟨p, vs, ys, e, z, a, b, c, dp⟩ => by
  subst z
  exact q v F' H' s ⟨p, vs, e, .inr ⟨a, w.nd c⟩, dp⟩
theorem eh_en {xs : List PyData} (h : EN K δ H0 te ρ xs) : EH K δ H0 te ρ xs := fun σ F H r w Q q => h σ F H r w Q fun v F' H' s ⟨p, vs, ys, e, z, a, b, c, dp⟩ => by
  subst z
  exact q v F' H' s ⟨p, vs, e, ⟨a, w.nd c⟩, dp⟩
theorem el_eh {xs : List PyData} (h : EH K δ H0 te ρ xs) : EL K δ H0 te ρ xs := EQ.imp h fun _ _ _ _ ⟨a, vs, e, z, r⟩ => ⟨a, vs, e, .inr z, r⟩
/-- a new list is frozen -/
theorem Stp.freeze {F H F' H' : Hp} {p : Addr} {o : HO} (s : Stp δ F H F' H') (a : H' p = some o) (b : F' p = none) (c : H p = none) : Stp δ F H (upd F' p o) H' := by
  refine ⟨s.ff.trans fun x u h => ?_, fun x u h => ?_, fun x u h => ?_, s.keep, s.dc⟩
  · rw [upd_ne (ne_of_none h b)]; exact h
  · by_cases e : x = p
    · rw [e, upd_same] at h; rw [e, a]; exact h
    · rw [upd_ne e] at h; exact s.fh x u h
  · by_cases e : x = p
    · rw [e]; exact .inr c
    · rw [upd_ne e] at h; exact s.new x u h
theorem ex_upd {F : Hp} {p : Addr} {o : HO} (b : F p = none) : Ex F (upd F p o) := fun x u h => by rw [upd_ne (ne_of_none h b)]; exact h
theorem ep_enp {P : List PyData → Prop} (h : ENP K δ H0 te ρ P) : EP K δ H0 te ρ fun d => ∃ xs, d = .py (.list xs) ∧ P xs := fun σ F H r w Q q => h σ F H r w Q fun v F' H' s ⟨p, vs, ys, e, z, a, b, c, dp⟩ => by
  subst e
  exact q _ _ H' (s.freeze a b c) ⟨_, ⟨ys, rfl, z⟩, .py (.lst (SqL.of upd_same) (dpa_mono (ex_upd b) _ _ dp))⟩
theorem ed_en {xs : List PyData} (h : EN K δ H0 te ρ xs) : ED K δ H0 te ρ (.py (.list xs)) := EQ.imp (ep_enp h) fun _ _ _ _ ⟨_, ⟨_, e, z⟩, r⟩ => by
  subst e z
  exact r
theorem ENP.imp {P P' : List PyData → Prop} (h : ENP K δ H0 te ρ P) (k : ∀ xs, P xs → P' xs) : ENP K δ H0 te ρ P' := EQ.imp h fun _ _ _ _ ⟨p, vs, xs, a, b, c⟩ => ⟨p, vs, xs, a, k _ b, c⟩

end
end Dl
set_option Elab.async false
set_option linter.all false
set_option maxRecDepth 100000
set_option maxHeartbeats 2000000
namespace Dl
open PySem PySem.Spec PyProof.Rows L2 SlX
section
variable {K : PySem.W.Frag} {δ : Option Addr} {H0 : Hp} {ρ : List Sl} {ta tb tc te : TE} {x y d : D} {P P1 : D → Prop} {P2 : D → D → Prop}

/-! ### operators -/
theorem ep_op {r : R2} (ha : EP K δ H0 ta ρ P1) (hb : ∀ x, P1 x → EP K δ H0 tb ρ (P2 x))
    (hr : ∀ (F H : Hp) (v w : V) (x y : D) (Q : VK), Wd δ F H → P1 x → P2 x y → Rep K δ F v x → Rep K δ F w y → (∀ z d F' H', Stp δ F H F' H' → P d → Rep K δ F' z d → Q z H') → r v w H Q) : EP K δ H0 (tOp r ta tb) ρ P := fun σ F H re w Q q =>
  ha σ F H re w _ fun v F1 H1 s1 ⟨x, p1, r1⟩ => hb x p1 σ F1 H1 (re.step s1) (w.step s1) _ fun u F2 H2 s2 ⟨y, p2, r2⟩ =>
    hr F2 H2 v u x y Q ((w.step s1).step s2) p1 p2 (r1.mono s2.ff) r2 fun z d F3 H3 s3 pd rd => q z F3 H3 ((s1.trans w s2).trans w s3) ⟨d, pd, rd⟩
theorem ed_op {r : R2} (ha : ED K δ H0 ta ρ x) (hb : ED K δ H0 tb ρ y)
    (hr : ∀ (F H : Hp) (v w : V) (Q : VK), Wd δ F H → Rep K δ F v x → Rep K δ F w y → (∀ z F' H', Stp δ F H F' H' → Rep K δ F' z d → Q z H') → r v w H Q) : ED K δ H0 (tOp r ta tb) ρ d := fun σ F H re w Q q =>
  ha σ F H re w _ fun v F1 H1 s1 r1 => hb σ F1 H1 (re.step s1) (w.step s1) _ fun u F2 H2 s2 r2 =>
    hr F2 H2 v u Q ((w.step s1).step s2) (r1.mono s2.ff) r2 fun z F3 H3 s3 rd => q z F3 H3 ((s1.trans w s2).trans w s3) rd
theorem ed_I0 {g : Int → Int → V} {i j : Int} {e : PyData} (ha : ED K δ H0 ta ρ (.py (.int i))) (hb : ED K δ H0 tb ρ (.py (.int j))) (hg : ∀ F, Dp K F (g i j) e) : ED K δ H0 (tOp (rI0 g) ta tb) ρ (.py e) :=
  ed_op ha hb fun F H v w Q wd r1 r2 q => by
    have e1 := rep_int r1
    have e2 := rep_int r2
    subst e1 e2
    exact ⟨i, j, rfl, rfl, q _ F H wd.refl (.py (hg F))⟩
theorem ed_I {C : Int → Int → Prop} {g : Int → Int → V} {i j : Int} {e : PyData} (ha : ED K δ H0 ta ρ (.py (.int i))) (hb : ED K δ H0 tb ρ (.py (.int j))) (hc : C i j) (hg : ∀ F, Dp K F (g i j) e) : ED K δ H0 (tOp (rI C g) ta tb) ρ (.py e) :=
  ed_op ha hb fun F H v w Q wd r1 r2 q => by
    have e1 := rep_int r1
    have e2 := rep_int r2
    subst e1 e2
    exact ⟨i, j, rfl, rfl, hc, q _ F H wd.refl (.py (hg F))⟩
section
variable {i j : Int}
abbrev IntD (i : Int) : D := .py (.int i)
abbrev BoolD (b : Bool) : D := .py (.bool b)
theorem ed_add (ha : ED K δ H0 ta ρ (.py (.int i))) (hb : ED K δ H0 tb ρ (.py (.int j))) : ED K δ H0 (tOp (rI0 fun i j => .int (i + j)) ta tb) ρ (.py (.int (i + j))) := ed_I0 ha hb fun _ => .int _
theorem ed_sub (ha : ED K δ H0 ta ρ (.py (.int i))) (hb : ED K δ H0 tb ρ (.py (.int j))) : ED K δ H0 (tOp (rI0 fun i j => .int (i - j)) ta tb) ρ (.py (.int (i - j))) := ed_I0 ha hb fun _ => .int _
theorem ed_mul (ha : ED K δ H0 ta ρ (.py (.int i))) (hb : ED K δ H0 tb ρ (.py (.int j))) (hc : CMul i j) : ED K δ H0 (tOp (rI CMul fun i j => .int (i * j)) ta tb) ρ (.py (.int (i * j))) := ed_I ha hb hc fun _ => .int _
theorem ed_mulW (ha : ED K δ H0 ta ρ (.py (.int i))) (hb : ED K δ H0 tb ρ (.py (.int j))) (hc : CMulW i j) : ED K δ H0 (tOp (rI CMulW fun i j => .int (i * j)) ta tb) ρ (.py (.int (i * j))) := ed_I ha hb hc fun _ => .int _
theorem ed_fdiv (ha : ED K δ H0 ta ρ (.py (.int i))) (hb : ED K δ H0 tb ρ (.py (.int j))) (hc : CDiv i j) : ED K δ H0 (tOp (rI CDiv fun i j => .int (i / j)) ta tb) ρ (.py (.int (i / j))) := ed_I ha hb hc fun _ => .int _
theorem ed_mod (ha : ED K δ H0 ta ρ (.py (.int i))) (hb : ED K δ H0 tb ρ (.py (.int j))) (hc : 0 < j) : ED K δ H0 (tOp (rI (fun _ j => 0 < j) fun i j => .int (i % j)) ta tb) ρ (.py (.int (i % j))) := ed_I ha hb hc fun _ => .int _
theorem ed_pow (ha : ED K δ H0 ta ρ (.py (.int i))) (hb : ED K δ H0 tb ρ (.py (.int j))) (hc : CPow i j) : ED K δ H0 (tOp (rI CPow fun i j => .int (i ^ j.toNat)) ta tb) ρ (.py (.int (i ^ j.toNat))) := ed_I ha hb hc fun _ => .int _
theorem ed_lt (ha : ED K δ H0 ta ρ (.py (.int i))) (hb : ED K δ H0 tb ρ (.py (.int j))) : ED K δ H0 (tOp (rI0 fun i j => .bl (decide (i < j))) ta tb) ρ (.py (.bool (decide (i < j)))) := ed_I0 ha hb fun _ => .bl _
theorem ed_le (ha : ED K δ H0 ta ρ (.py (.int i))) (hb : ED K δ H0 tb ρ (.py (.int j))) : ED K δ H0 (tOp (rI0 fun i j => .bl (decide (i ≤ j))) ta tb) ρ (.py (.bool (decide (i ≤ j)))) := ed_I0 ha hb fun _ => .bl _
theorem ed_gt (ha : ED K δ H0 ta ρ (.py (.int i))) (hb : ED K δ H0 tb ρ (.py (.int j))) : ED K δ H0 (tOp (rI0 fun i j => .bl (decide (j < i))) ta tb) ρ (.py (.bool (decide (j < i)))) := ed_I0 ha hb fun _ => .bl _
theorem ed_ge (ha : ED K δ H0 ta ρ (.py (.int i))) (hb : ED K δ H0 tb ρ (.py (.int j))) : ED K δ H0 (tOp (rI0 fun i j => .bl (decide (j ≤ i))) ta tb) ρ (.py (.bool (decide (j ≤ i)))) := ed_I0 ha hb fun _ => .bl _
theorem ed_eq (ha : ED K δ H0 ta ρ (.py (.int i))) (hb : ED K δ H0 tb ρ (.py (.int j))) : ED K δ H0 (tOp rEq ta tb) ρ (.py (.bool (decide (i = j)))) :=
  ed_op ha hb fun F H v w Q wd r1 r2 q => by
    have e1 := rep_int r1
    have e2 := rep_int r2
    subst e1 e2
    refine ⟨rfl, q _ F H wd.refl (.py ?_)⟩
    have e : decide (V.int i = V.int j) = decide (i = j) := by simp
    rw [e]; exact .bl _
theorem ed_ne (ha : ED K δ H0 ta ρ (.py (.int i))) (hb : ED K δ H0 tb ρ (.py (.int j))) : ED K δ H0 (tOp rNe ta tb) ρ (.py (.bool (!decide (i = j)))) :=
  ed_op ha hb fun F H v w Q wd r1 r2 q => by
    have e1 := rep_int r1
    have e2 := rep_int r2
    subst e1 e2
    refine ⟨rfl, q _ F H wd.refl (.py ?_)⟩
    have e : decide (V.int i = V.int j) = decide (i = j) := by simp
    rw [e]; exact .bl _
theorem ed_neg (ha : ED K δ H0 ta ρ (.py (.int i))) : ED K δ H0 (tUn (rU fun i => .int (-i)) ta) ρ (.py (.int (-i))) := fun σ F H re w Q q =>
  ha σ F H re w _ fun v F1 H1 s1 r1 => ⟨i, rep_int r1, q _ F1 H1 s1 (.py (.int _))⟩
end
theorem ed_eqB {a b : Bool} (ha : ED K δ H0 ta ρ (.py (.bool a))) (hb : ED K δ H0 tb ρ (.py (.bool b))) : ED K δ H0 (tOp rEq ta tb) ρ (.py (.bool (decide (a = b)))) :=
  ed_op ha hb fun F H v w Q wd r1 r2 q => by
    have e1 := rep_bool r1
    have e2 := rep_bool r2
    subst e1 e2
    refine ⟨rfl, q _ F H wd.refl (.py ?_)⟩
    have e : decide (V.bl a = V.bl b) = decide (a = b) := by simp
    rw [e]; exact .bl _
/-- == and != of data at any depth -/
theorem ed_eqD {a b : PyData} (ha : ED K δ H0 ta ρ (.py a)) (hb : ED K δ H0 tb ρ (.py b)) (sa : SeqAt.shaped a = true) (sb : SeqAt.shaped b = true) : ED K δ H0 (tOp (rEqD K) ta tb) ρ (.py (.bool (PyData.eqv a b))) :=
  ed_op ha hb fun F H v w Q wd r1 r2 q => ⟨a, b, dp_mono wd.fh _ _ (rep_py r1), dp_mono wd.fh _ _ (rep_py r2), sa, sb, q _ F H wd.refl (.py (.bl _))⟩
theorem ed_neD {a b : PyData} (ha : ED K δ H0 ta ρ (.py a)) (hb : ED K δ H0 tb ρ (.py b)) (sa : SeqAt.shaped a = true) (sb : SeqAt.shaped b = true) : ED K δ H0 (tOp (rNeD K) ta tb) ρ (.py (.bool (!PyData.eqv a b))) :=
  ed_op ha hb fun F H v w Q wd r1 r2 q => ⟨a, b, dp_mono wd.fh _ _ (rep_py r1), dp_mono wd.fh _ _ (rep_py r2), sa, sb, q _ F H wd.refl (.py (.bl _))⟩
/-- is None -/
def isNonD : D → Bool
  | .py .none => true
  | _ => false
theorem rep_isN {F : Hp} {v : V} {d : D} (h : Rep K δ F v d) : decide (v = .non) = isNonD d := by
  cases h with
  | py h => cases h <;> first | rfl | exact decide_eq_false (fun q => by cases q)
  | obj _ _ _ => exact decide_eq_false (fun q => by cases q)
  | dic _ _ _ => exact decide_eq_false (fun q => by cases q)
  | dice _ => exact decide_eq_false (fun q => by cases q)
  | tupN _ _ _ => exact decide_eq_false (fun q => by cases q)
  | tab _ _ _ => exact decide_eq_false (fun q => by cases q)
theorem ed_isN (ha : ED K δ H0 ta ρ x) : ED K δ H0 (tOp (fun x y H Q => y = .non ∧ Q (.bl (decide (x = .non))) H) ta (tC .non)) ρ (.py (.bool (isNonD x))) :=
  ed_op ha (ed_non) fun F H v w Q wd r1 r2 q => ⟨rep_none r2, by rw [rep_isN r1]; exact q _ F H wd.refl (.py (.bl _))⟩
theorem ed_notN (ha : ED K δ H0 ta ρ x) : ED K δ H0 (tOp (fun x y H Q => y = .non ∧ Q (.bl (!decide (x = .non))) H) ta (tC .non)) ρ (.py (.bool (!isNonD x))) :=
  ed_op ha (ed_non) fun F H v w Q wd r1 r2 q => ⟨rep_none r2, by rw [rep_isN r1]; exact q _ F H wd.refl (.py (.bl _))⟩

/-! ### tests -/
theorem BP.imp {tt : TT} {P P' : Bool → Prop} (h : BP K δ H0 tt ρ P) (k : ∀ b, P b → P' b) : BP K δ H0 tt ρ P' := fun σ F H re w Q q => h σ F H re w Q fun b F' H' s z => q b F' H' s (k b z)
theorem BD.to {tt : TT} {b b' : Bool} (h : BD K δ H0 tt ρ b) (e : b = b') : BD K δ H0 tt ρ b' := e ▸ h
theorem bd_B {b : Bool} (h : ED K δ H0 te ρ (.py (.bool b))) : BD K δ H0 (tB te) ρ b := fun σ F H re w Q q => h σ F H re w _ fun v F1 H1 s r => ⟨b, rep_bool r, q b F1 H1 s rfl⟩
theorem bd_test {b : Bool} (h : ED K δ H0 te ρ (.py (.bool b))) : BD K δ H0 (tTest te) ρ b := fun σ F H re w Q q => h σ F H re w _ fun v F1 H1 s r => ⟨b, rep_bool r, q b F1 H1 s rfl⟩
theorem bp_test {P : Bool → Prop} (h : EP K δ H0 te ρ fun d => ∃ b, d = .py (.bool b) ∧ P b) : BP K δ H0 (tTest te) ρ P := fun σ F H re w Q q => h σ F H re w _ fun v F1 H1 s ⟨d, ⟨b, e, p⟩, r⟩ => by
  subst e
  exact ⟨b, rep_bool r, q b F1 H1 s p⟩
theorem bd_not {tt : TT} {b : Bool} (h : BD K δ H0 tt ρ b) : BD K δ H0 (tNot tt) ρ (!b) := fun σ F H re w Q q => h σ F H re w _ fun c F1 H1 s e => q _ F1 H1 s (by rw [e])
theorem bd_and {tt tu : TT} {a b : Bool} (h1 : BD K δ H0 tt ρ a) (h2 : a = true → BD K δ H0 tu ρ b) : BD K δ H0 (tAnd tt tu) ρ (a && b) := fun σ F H re w Q q => h1 σ F H re w _ fun c F1 H1 s e => by
  subst e
  cases c with
  | true => exact h2 rfl σ F1 H1 (re.step s) (w.step s) Q fun b' F2 H2 s2 e2 => q b' F2 H2 (s.trans w s2) e2
  | false => exact q false F1 H1 s rfl
theorem bd_or {tt tu : TT} {a b : Bool} (h1 : BD K δ H0 tt ρ a) (h2 : a = false → BD K δ H0 tu ρ b) : BD K δ H0 (tOr tt tu) ρ (a || b) := fun σ F H re w Q q => h1 σ F H re w _ fun c F1 H1 s e => by
  subst e
  cases c with
  | false => exact h2 rfl σ F1 H1 (re.step s) (w.step s) Q fun b' F2 H2 s2 e2 => q b' F2 H2 (s.trans w s2) e2
  | true => exact q true F1 H1 s rfl
theorem ed_andV {a b : Bool} (h1 : ED K δ H0 ta ρ (.py (.bool a))) (h2 : a = true → ED K δ H0 tb ρ (.py (.bool b))) : ED K δ H0 (tAndV ta tb) ρ (.py (.bool (a && b))) := fun σ F H re w Q q =>
  h1 σ F H re w _ fun v F1 H1 s r => ⟨a, rep_bool r, by
    cases a with
    | true => exact h2 rfl σ F1 H1 (re.step s) (w.step s) Q fun v F2 H2 s2 r2 => q v F2 H2 (s.trans w s2) r2
    | false => exact q _ F1 H1 s (.py (.bl _))⟩
theorem ed_orV {a b : Bool} (h1 : ED K δ H0 ta ρ (.py (.bool a))) (h2 : a = false → ED K δ H0 tb ρ (.py (.bool b))) : ED K δ H0 (tOrV ta tb) ρ (.py (.bool (a || b))) := fun σ F H re w Q q =>
  h1 σ F H re w _ fun v F1 H1 s r => ⟨a, rep_bool r, by
    cases a with
    | false => exact h2 rfl σ F1 H1 (re.step s) (w.step s) Q fun v F2 H2 s2 r2 => q v F2 H2 (s.trans w s2) r2
    | true => exact q _ F1 H1 s (.py (.bl _))⟩
theorem ed_notV {a : Bool} (h1 : ED K δ H0 ta ρ (.py (.bool a))) : ED K δ H0 (tNotV ta) ρ (.py (.bool (!a))) := fun σ F H re w Q q =>
  h1 σ F H re w _ fun v F1 H1 s r => ⟨a, rep_bool r, q _ F1 H1 s (.py (.bl _))⟩
theorem ep_if {tt : TT} {Pb : Bool → Prop} (h : BP K δ H0 tt ρ Pb) (h1 : Pb true → EP K δ H0 ta ρ P) (h2 : Pb false → EP K δ H0 tb ρ P) : EP K δ H0 (tIf tt ta tb) ρ P := fun σ F H re w Q q => h σ F H re w _ fun b F1 H1 s e => by
  cases b with
  | true => exact h1 e σ F1 H1 (re.step s) (w.step s) Q fun v F2 H2 s2 r2 => q v F2 H2 (s.trans w s2) r2
  | false => exact h2 e σ F1 H1 (re.step s) (w.step s) Q fun v F2 H2 s2 r2 => q v F2 H2 (s.trans w s2) r2
theorem ed_if {tt : TT} {b : Bool} (h : BD K δ H0 tt ρ b) (h1 : b = true → ED K δ H0 ta ρ d) (h2 : b = false → ED K δ H0 tb ρ d) : ED K δ H0 (tIf tt ta tb) ρ d :=
  EP.ed (ep_if h (fun e => (h1 e.symm).ep rfl) (fun e => (h2 e.symm).ep rfl))
/-- a < b < c -/
theorem ed_chain {r r' : R2} {u v z : D} {b c : Bool} (ha : ED K δ H0 ta ρ u) (hb : ED K δ H0 tb ρ v) (hc : ED K δ H0 tc ρ z)
    (h1 : ∀ (F H : Hp) (x y : V) (Q : VK), Wd δ F H → Rep K δ F x u → Rep K δ F y v → Q (.bl b) H → r x y H Q) (h2 : ∀ (F H : Hp) (x y : V) (Q : VK), Wd δ F H → Rep K δ F x v → Rep K δ F y z → Q (.bl c) H → r' x y H Q) :
    ED K δ H0 (tChain r r' ta tb tc) ρ (.py (.bool (b && c))) := fun σ F H re w Q q =>
  ha σ F H re w _ fun x F1 H1 s1 r1 => hb σ F1 H1 (re.step s1) (w.step s1) _ fun y F2 H2 s2 r2 => h1 F2 H2 x y _ ((w.step s1).step s2) (r1.mono s2.ff) r2 ⟨b, rfl, by
    cases b with
    | true => exact hc σ F2 H2 ((re.step s1).step s2) ((w.step s1).step s2) _ fun t F3 H3 s3 r3 => h2 F3 H3 y t Q (((w.step s1).step s2).step s3) (r2.mono s3.ff) r3 (q _ F3 H3 ((s1.trans w s2).trans w s3) (.py (.bl _)))
    | false => exact q _ F2 H2 (s1.trans w s2) (.py (.bl _))⟩
theorem ed_chainLL {i j k : Int} (ha : ED K δ H0 ta ρ (.py (.int i))) (hb : ED K δ H0 tb ρ (.py (.int j))) (hc : ED K δ H0 tc ρ (.py (.int k))) :
    ED K δ H0 (tChain (rI0 fun i j => .bl (decide (i < j))) (rI0 fun i j => .bl (decide (i < j))) ta tb tc) ρ (.py (.bool (decide (i < j) && decide (j < k)))) :=
  ed_chain ha hb hc (fun F H x y Q w r1 r2 q => ⟨i, j, rep_int r1, rep_int r2, q⟩) (fun F H x y Q w r1 r2 q => ⟨j, k, rep_int r1, rep_int r2, q⟩)
theorem ed_chainEE {i j k : Int} (ha : ED K δ H0 ta ρ (.py (.int i))) (hb : ED K δ H0 tb ρ (.py (.int j))) (hc : ED K δ H0 tc ρ (.py (.int k))) :
    ED K δ H0 (tChain (rI0 fun i j => .bl (decide (i ≤ j))) (rI0 fun i j => .bl (decide (i ≤ j))) ta tb tc) ρ (.py (.bool (decide (i ≤ j) && decide (j ≤ k)))) :=
  ed_chain ha hb hc (fun F H x y Q w r1 r2 q => ⟨i, j, rep_int r1, rep_int r2, q⟩) (fun F H x y Q w r1 r2 q => ⟨j, k, rep_int r1, rep_int r2, q⟩)

/-! ### arguments, calls, displays -/
theorem ap_nil : AD K δ H0 tNil ρ [] := fun σ F H re w Q q => q [] [] F H w.refl rfl .nil
theorem ap_cons {tr : TA} {Ps : List D → Prop} {P2 : D → List D → Prop} (ha : EP K δ H0 ta ρ P) (hr : ∀ x, P x → AP K δ H0 tr ρ (P2 x)) (hp : ∀ x xs, P x → P2 x xs → Ps (x :: xs)) : AP K δ H0 (tCons ta tr) ρ Ps := fun σ F H re w Q q =>
  ha σ F H re w _ fun v F1 H1 s1 ⟨x, p, r1⟩ => hr x p σ F1 H1 (re.step s1) (w.step s1) _ fun vs ds F2 H2 s2 p2 r2 => q (v :: vs) (x :: ds) F2 H2 (s1.trans w s2) (hp x ds p p2) (.cons (r1.mono s2.ff) r2)
theorem ad_cons {tr : TA} {ds : List D} (ha : ED K δ H0 ta ρ x) (hr : AD K δ H0 tr ρ ds) : AD K δ H0 (tCons ta tr) ρ (x :: ds) :=
  ap_cons (P := fun z => z = x) (P2 := fun _ zs => zs = ds) (ha.ep rfl) (fun _ _ => hr) (fun _ _ e1 e2 => by rw [e1, e2])
/-- a contract of a def, by data: for each a that is ok, called with args a it hands back what R a tells -/
structure Con where
  {α : Type}
  ok : α → Prop
  args : α → List D
  R : α → D → Prop
def spD (K : PySem.W.Frag) (C : Con) : Sp := fun vs H Q _ => ∃ (δ : Option Addr) (F : Hp) (a : C.α), C.ok a ∧ Reps K δ F vs (C.args a) ∧ Wd δ F H ∧ ∀ v d F' H', C.R a d → Rep K δ F' v d → Stp δ F H F' H' → Q v H'
theorem ep_call {C : Con} {E : XK} {t : TA} {Ps : List D → Prop} (ha : AP K δ H0 t ρ Ps) (hp : ∀ ds, Ps ds → ∃ a, C.ok a ∧ C.args a = ds ∧ ∀ d, C.R a d → P d) : EP K δ H0 (tCall (spD K C) [] E t) ρ P := fun σ F H re w Q q =>
  ha σ F H re w _ fun vs ds F1 H1 s1 p r => by
    obtain ⟨a, ok, e, k⟩ := hp ds p
    exact ⟨δ, F1, a, ok, by rw [List.append_nil, e]; exact r, w.step s1, fun v d F2 H2 po rv s2 => q v F2 H2 (s1.trans w s2) ⟨d, k d po, rv⟩⟩
theorem ed_call {C : Con} {E : XK} {t : TA} (a : C.α) (ha : AD K δ H0 t ρ (C.args a)) (hp : C.ok a) (hq : ∀ z, C.R a z → z = d) : ED K δ H0 (tCall (spD K C) [] E t) ρ d :=
  EP.ed (ep_call ha fun ds e => ⟨a, hp, e.symm, hq⟩)
theorem reps_py : ∀ {vs : List V} {ds : List PyData} {F : Hp}, Reps K δ F vs (ds.map .py) → DpAll K F vs ds
  | _, [], _, h => by cases h; exact .nil
  | _, d :: ds, _, h => by
    cases h with
    | cons h1 h2 => exact .cons (rep_py h1) (reps_py h2)
theorem reps_len : ∀ {vs : List V} {ds : List D} {F : Hp}, Reps K δ F vs ds → vs.length = ds.length
  | _, _, _, h => Paired.length h
theorem sz_of {n : Nat} (h : n ≤ 100000) : n ≤ sizeLine := Nat.le_trans h (by decide)
theorem sz_lt {n : Nat} (h : n < 100000) : n < sizeLine := Nat.lt_of_lt_of_le h (by decide)
theorem ed_tup {t : TA} {ds : List PyData} (h : AD K δ H0 t ρ (ds.map .py)) (hl : ds.length ≤ 100000) : ED K δ H0 (tTup t) ρ (.py (.tuple ds)) := fun σ F H re w Q q =>
  h σ F H re w _ fun vs es F1 H1 s1 e r => by
    subst e
    have l := reps_len r
    rw [List.length_map] at l
    refine ⟨sz_of (by omega), fun p hp => q _ (upd F1 p (.tup vs)) _ (s1.trans w ((w.step s1).alloc hp)) (.py (.tup (SqT.of upd_same) (dpa_mono (ex_upd ((w.step s1).nn hp)) _ _ (reps_py r))))⟩
theorem ep_tup {t : TA} {Ps : List D → Prop} {P : D → Prop} (h : AP K δ H0 t ρ Ps) (hp : ∀ ds, Ps ds → ∃ es, ds = es.map .py ∧ es.length ≤ 100000 ∧ P (.py (.tuple es))) : EP K δ H0 (tTup t) ρ P := fun σ F H re w Q q =>
  h σ F H re w _ fun vs es F1 H1 s1 e r => by
    obtain ⟨ds, rfl, hl, p⟩ := hp es e
    have l := reps_len r
    rw [List.length_map] at l
    refine ⟨sz_of (by omega), fun a hp => q _ (upd F1 a (.tup vs)) _ (s1.trans w ((w.step s1).alloc hp)) ⟨_, p, .py (.tup (SqT.of upd_same) (dpa_mono (ex_upd ((w.step s1).nn hp)) _ _ (reps_py r)))⟩⟩
theorem en_lst {t : TA} {ds : List PyData} (h : AD K δ H0 t ρ (ds.map .py)) (hl : ds.length ≤ 100000) : EN K δ H0 (tLst t) ρ ds := fun σ F H re w Q q =>
  h σ F H re w _ fun vs es F1 H1 s1 e r => by
    subst e
    have l := reps_len r
    rw [List.length_map] at l
    exact ⟨sz_of (by omega), fun p hp => q _ F1 _ (s1.trans w ((w.step s1).allocU hp)) ⟨p, vs, ds, rfl, rfl, upd_same, (w.step s1).nn hp, s1.back hp, reps_py r⟩⟩
theorem enp_lst {t : TA} {Ps : List D → Prop} {P : List PyData → Prop} (h : AP K δ H0 t ρ Ps) (hp : ∀ ds, Ps ds → ∃ es, ds = es.map .py ∧ es.length ≤ 100000 ∧ P es) : ENP K δ H0 (tLst t) ρ P := fun σ F H re w Q q =>
  h σ F H re w _ fun vs es F1 H1 s1 e r => by
    obtain ⟨ds, rfl, hl, p⟩ := hp es e
    have l := reps_len r
    rw [List.length_map] at l
    exact ⟨sz_of (by omega), fun a hp => q _ F1 _ (s1.trans w ((w.step s1).allocU hp)) ⟨a, vs, ds, rfl, p, upd_same, (w.step s1).nn hp, s1.back hp, reps_py r⟩⟩

/-! ### subscripts -/
theorem eq_lop {r : R2} {xs : List PyData} {R : Hp → V → Hp → Hp → Prop} (ha : EL K δ H0 ta ρ xs) (hb : EP K δ H0 tb ρ P)
    (hr : ∀ (F H F1 H1 : Hp) (a : Addr) (vs : List V) (w : V) (y : D) (Q : VK), Wd δ F H → Stp δ F H F1 H1 → Wd δ F1 H1 → P y → SqL K H1 a vs → DpAll K F1 vs xs → Rep K δ F1 w y → (∀ z F' H', Stp δ F1 H1 F' H' → R H z F' H' → Q z H') → r (.ref a) w H1 Q) : EQ K δ H0 (tOp r ta tb) ρ R := fun σ F H re w Q q =>
  ha σ F H re w _ fun v F1 H1 s1 ⟨a, vs, e, la, dp⟩ => hb σ F1 H1 (re.step s1) (w.step s1) _ fun u F2 H2 s2 ⟨y, p, r2⟩ => by
    subst e
    exact hr F H F2 H2 a vs u y Q w (s1.trans w s2) ((w.step s1).step s2) p ((la.step s2).sql ((w.step s1).step s2).fh) (dpa_mono s2.ff _ _ dp) r2 fun z F3 H3 s3 rz => q z F3 H3 ((s1.trans w s2).trans w s3) rz
theorem ed_ixL {xs : List PyData} {i : Int} {e : PyData} (ha : EL K δ H0 ta ρ xs) (hb : ED K δ H0 tb ρ (.py (.int i))) (he : atI xs i = some e) : ED K δ H0 (tOp (rIx K) ta tb) ρ (.py e) :=
  eq_lop ha (hb.ep (P := fun z => z = .py (.int i)) rfl) fun F H F1 H1 a vs u y Q w0 s w1 ey sq dp r2 q => by
    subst ey
    obtain ⟨v, hv, dv⟩ := dpa_atI dp he
    exact .inl ⟨a, vs, i, v, rfl, rep_int r2, sq, hv, q _ F1 H1 w1.refl (.py dv)⟩
theorem ed_ixT {xs : List PyData} {i : Int} {e : PyData} (ha : ED K δ H0 ta ρ (.py (.tuple xs))) (hb : ED K δ H0 tb ρ (.py (.int i))) (he : atI xs i = some e) : ED K δ H0 (tOp (rIx K) ta tb) ρ (.py e) :=
  ed_op ha hb fun F H v w Q wd r1 r2 q => by
    obtain ⟨a, vs, rfl, sq, dp⟩ := rep_tup r1
    obtain ⟨v, hv, dv⟩ := dpa_atI dp he
    exact .inr (.inl ⟨a, vs, i, v, rfl, rep_int r2, wd.fh.sqt sq, hv, q _ F H wd.refl (.py dv)⟩)
theorem ep_ixL {xs : List PyData} {Pi : Int → Prop} {Pe : PyData → Prop} (ha : EL K δ H0 ta ρ xs) (hb : EP K δ H0 tb ρ fun d => ∃ i, d = .py (.int i) ∧ Pi i) (he : ∀ i, Pi i → ∃ e, atI xs i = some e ∧ Pe e) : EP K δ H0 (tOp (rIx K) ta tb) ρ fun d => ∃ e, d = .py e ∧ Pe e :=
  eq_lop ha hb fun F H F1 H1 a vs u y Q w0 s w1 ⟨i, ey, pi⟩ sq dp r2 q => by
    subst ey
    obtain ⟨e, he, pe⟩ := he i pi
    obtain ⟨v, hv, dv⟩ := dpa_atI dp he
    exact .inl ⟨a, vs, i, v, rfl, rep_int r2, sq, hv, q _ F1 H1 w1.refl ⟨_, ⟨e, rfl, pe⟩, .py dv⟩⟩
theorem at_nat {α : Type} {xs : List α} {i : Nat} {v : α} (h : xs[i]? = some v) : atI xs (i : Int) = some v := by
  obtain ⟨hl, e⟩ := List.getElem?_eq_some_iff.mp h
  unfold atI ixN
  rw [if_pos (Int.natCast_nonneg i), if_pos (by omega), Option.bind_some, Int.toNat_natCast]
  exact h
theorem at_int {α : Type} {xs : List α} {i : Int} {v : α} (h0 : 0 ≤ i) (h : xs[i.toNat]? = some v) : atI xs i = some v := by
  have e : ((i.toNat : Nat) : Int) = i := Int.toNat_of_nonneg h0
  rw [← e]
  exact at_nat h
end
end Dl
set_option Elab.async false
set_option linter.all false
set_option maxRecDepth 100000
set_option maxHeartbeats 2000000
namespace Dl
open PySem PySem.Spec PyProof.Rows L2 SlX
section
variable {K : PySem.W.Frag} {δ : Option Addr} {H0 : Hp} {ρ : List Sl} {ta tb tc te : TE} {x y d : D} {P P1 : D → Prop} {P2 : D → D → Prop}

/-! ### slices -/
variable (K δ H0) in
def OD (to : TO) (ρ : List Sl) (o : Option Int) : Prop :=
  ∀ (σ : L2.St) (F H : Hp), RepE K δ H0 F H σ ρ → Wd δ F H → ∀ Q : Option Int → Hp → Prop, (∀ F' H', Stp δ F H F' H' → Q o H') → to σ H Q
theorem od_none : OD K δ H0 tNoPart ρ none := fun σ F H re w Q q => q F H w.refl
theorem od_some {i : Int} (h : ED K δ H0 te ρ (.py (.int i))) : OD K δ H0 (tPart te) ρ (some i) := fun σ F H re w Q q => h σ F H re w _ fun v F1 H1 s r => ⟨i, rep_int r, q F1 H1 s⟩
def cutP {α : Type} (xs : List α) (lo hi : Option Int) : List α := (xs.drop (HT.sIx xs.length 0 lo)).take (HT.sIx xs.length xs.length hi - HT.sIx xs.length 0 lo)
theorem dpa_cut {F : Hp} {vs : List V} {xs : List PyData} (h : DpAll K F vs xs) (lo hi : Option Int) : DpAll K F (cutV vs lo hi) (cutP xs lo hi) := by
  unfold cutV cutP
  rw [dpa_len h]
  exact dpa_take _ (dpa_drop _ h)
theorem cutP_map {α β : Type} (f : α → β) (xs : List α) (lo hi : Option Int) : cutP (xs.map f) lo hi = (cutP xs lo hi).map f := by
  unfold cutP
  rw [List.length_map, List.map_take, List.map_drop]
theorem cutP_take {α : Type} (xs : List α) (n : Nat) : cutP xs none (some (n : Int)) = xs.take n := by
  unfold cutP
  rw [HT.sIx_none, HT.sIx_nat, List.drop_zero, Nat.sub_zero]
  by_cases h : n ≤ xs.length
  · rw [Nat.min_eq_left h]
  · rw [Nat.min_eq_right (by omega), List.take_of_length_le (Nat.le_refl _), List.take_of_length_le (by omega)]
theorem cutP_drop {α : Type} (xs : List α) (n : Nat) : cutP xs (some (n : Int)) none = xs.drop n := by
  unfold cutP
  rw [HT.sIx_none, HT.sIx_nat]
  by_cases h : n ≤ xs.length
  · rw [Nat.min_eq_left h, List.take_of_length_le (by rw [List.length_drop]; omega)]
  · rw [Nat.min_eq_right (by omega), List.drop_of_length_le (Nat.le_refl _), List.drop_of_length_le (by omega), List.take_nil]
theorem cutP_last {α : Type} (xs : List α) : cutP xs none (some (-1)) = xs.dropLast := by
  unfold cutP
  rw [HT.sIx_none, List.drop_zero, Nat.sub_zero]
  have e : HT.sIx xs.length xs.length (some (-1)) = xs.length - 1 := by
    show (if (-1 : Int) < 0 then ((-1 : Int) + (xs.length : Int)).toNat else min (-1 : Int).toNat xs.length) = xs.length - 1
    rw [if_pos (by decide)]
    omega
  rw [e, List.dropLast_eq_take]
theorem en_slL {xs : List PyData} {tl th : TO} {lo hi : Option Int} (h : EL K δ H0 te ρ xs) (hl : OD K δ H0 tl ρ lo) (hh : OD K δ H0 th ρ hi) : EN K δ H0 (tSl (rSlL K) te tl th) ρ (cutP xs lo hi) := fun σ F H re w Q q =>
  h σ F H re w _ fun v F1 H1 s1 ⟨a, vs, e, la, dp⟩ => hl σ F1 H1 (re.step s1) (w.step s1) _ fun F2 H2 s2 => hh σ F2 H2 ((re.step s1).step s2) ((w.step s1).step s2) _ fun F3 H3 s3 => by
    have w3 := ((w.step s1).step s2).step s3
    exact ⟨a, vs, e, ((la.step s2).step s3).sql w3.fh, fun p hp => q _ F3 _ (((s1.trans w s2).trans w s3).trans w (w3.allocU hp)) ⟨p, _, _, rfl, rfl, upd_same, w3.nn hp, ((s1.trans w s2).trans w s3).back hp, dpa_cut (dpa_mono (s2.ff.trans s3.ff) _ _ dp) lo hi⟩⟩
theorem ed_slT {xs : List PyData} {tl th : TO} {lo hi : Option Int} (h : ED K δ H0 te ρ (.py (.tuple xs))) (hl : OD K δ H0 tl ρ lo) (hh : OD K δ H0 th ρ hi) : ED K δ H0 (tSl (rSlA K) te tl th) ρ (.py (.tuple (cutP xs lo hi))) := fun σ F H re w Q q =>
  h σ F H re w _ fun v F1 H1 s1 r => hl σ F1 H1 (re.step s1) (w.step s1) _ fun F2 H2 s2 => hh σ F2 H2 ((re.step s1).step s2) ((w.step s1).step s2) _ fun F3 H3 s3 => by
    have w3 := ((w.step s1).step s2).step s3
    have s4 := (s1.trans w s2).trans w s3
    obtain ⟨a, vs, e, sq, dp⟩ := rep_tup (r.mono (s2.ff.trans s3.ff))
    refine ⟨a, vs, e, w3.fh.sqt sq, fun hw => q _ F3 H3 s4 ?_, fun hw p hp => q _ (upd F3 p _) _ (s4.trans w (w3.alloc hp)) (.py (.tup (SqT.of upd_same) (dpa_mono (ex_upd (w3.nn hp)) _ _ (dpa_cut dp lo hi))))⟩
    have e2 : cutP xs lo hi = xs := by
      unfold cutP
      rw [dpa_len dp] at hw
      rw [hw.1, hw.2, List.drop_zero, Nat.sub_zero, List.take_of_length_le (Nat.le_refl _)]
    rw [e2]
    exact .py (.tup sq dp)
/-- xs[::-1] -/
theorem en_rev {xs : List PyData} (h : EL K δ H0 te ρ xs) : EN K δ H0 (tRevL K te) ρ xs.reverse := fun σ F H re w Q q =>
  h σ F H re w _ fun v F1 H1 s1 ⟨a, vs, e, la, dp⟩ => ⟨a, vs, e, la.sql (w.step s1).fh, fun p hp => q _ F1 _ (s1.trans w ((w.step s1).allocU hp)) ⟨p, _, _, rfl, rfl, upd_same, (w.step s1).nn hp, s1.back hp, dpa_rev dp⟩⟩

/-! ### sums of lists and tuples -/
theorem en_cat {xs ys : List PyData} (ha : EH K δ H0 ta ρ xs) (hb : EH K δ H0 tb ρ ys) (hz : xs.length + ys.length ≤ 100000) : EN K δ H0 (tOp rCat ta tb) ρ (xs ++ ys) := fun σ F H re w Q q =>
  ha σ F H re w _ fun v F1 H1 s1 ⟨a, vs, e, la, dp⟩ => hb σ F1 H1 (re.step s1) (w.step s1) _ fun u F2 H2 s2 ⟨b, us, e2, lb, dp2⟩ => by
    have w2 := (w.step s1).step s2
    refine ⟨a, b, vs, us, e, e2, s2.keep _ _ la.1 la.2, lb.1, sz_of (by rw [dpa_len dp, dpa_len dp2]; exact hz), fun p hp => q _ F2 _ ((s1.trans w s2).trans w (w2.allocU hp)) ⟨p, _, _, rfl, rfl, upd_same, w2.nn hp, (s1.trans w s2).back hp, dpa_app (dpa_mono s2.ff _ _ dp) dp2⟩⟩
theorem ed_catT {xs ys : List PyData} (ha : ED K δ H0 ta ρ (.py (.tuple xs))) (hb : ED K δ H0 tb ρ (.py (.tuple ys))) (hz : xs.length + ys.length ≤ 100000) : ED K δ H0 (tOp (rCatA K) ta tb) ρ (.py (.tuple (xs ++ ys))) :=
  ed_op ha hb fun F H v u Q w r1 r2 q => by
    obtain ⟨a, vs, e, sq, dp⟩ := rep_tup r1
    obtain ⟨b, us, e2, sq2, dp2⟩ := rep_tup r2
    subst e e2
    refine ⟨a, b, vs, us, rfl, rfl, w.fh.sqt sq, w.fh.sqt sq2, sz_of (by rw [dpa_len dp, dpa_len dp2]; exact hz), fun hv => ?_, fun _ hu => ?_, fun _ _ p hp => ?_⟩
    · subst hv
      cases dp
      exact q _ F H w.refl r2
    · subst hu
      cases dp2
      exact q _ F H w.refl (by rw [List.append_nil]; exact r1)
    · exact q _ (upd F p (.tup (vs ++ us))) _ (w.alloc hp) (.py (.tup (SqT.of upd_same) (dpa_mono (ex_upd (w.nn hp)) _ _ (dpa_app dp dp2))))
theorem ep_catT {Pa Pb : List PyData → Prop} {P : D → Prop} (ha : EP K δ H0 ta ρ fun d => ∃ xs, d = .py (.tuple xs) ∧ Pa xs) (hb : EP K δ H0 tb ρ fun d => ∃ xs, d = .py (.tuple xs) ∧ Pb xs)
    (hp : ∀ xs ys, Pa xs → Pb ys → xs.length + ys.length ≤ 100000 ∧ P (.py (.tuple (xs ++ ys)))) : EP K δ H0 (tOp (rCatA K) ta tb) ρ P :=
  ep_op ha (fun _ _ => hb) fun F H v u x y Q w ⟨xs, ex, px⟩ ⟨ys, ey, py⟩ r1 r2 q => by
    subst ex ey
    obtain ⟨hz, pp⟩ := hp xs ys px py
    obtain ⟨a, vs, e, sq, dp⟩ := rep_tup r1
    obtain ⟨b, us, e2, sq2, dp2⟩ := rep_tup r2
    subst e e2
    refine ⟨a, b, vs, us, rfl, rfl, w.fh.sqt sq, w.fh.sqt sq2, sz_of (by rw [dpa_len dp, dpa_len dp2]; exact hz), fun hv => ?_, fun _ hu => ?_, fun _ _ p hp => ?_⟩
    · subst hv
      cases dp
      exact q _ _ F H w.refl pp r2
    · subst hu
      cases dp2
      rw [List.append_nil] at pp
      exact q _ _ F H w.refl pp r1
    · exact q _ _ (upd F p (.tup (vs ++ us))) _ (w.alloc hp) pp (.py (.tup (SqT.of upd_same) (dpa_mono (ex_upd (w.nn hp)) _ _ (dpa_app dp dp2))))

/-! ### built-in calls -/
abbrev rLenSeq (K : PySem.W.Frag) : List V → Hp → VK → Prop := fun xs H Q => ∃ p ys, xs = [.ref p] ∧ (SqL K H p ys ∨ SqT K H p ys) ∧ Q (.int ys.length) H
theorem ed_lenL {xs : List PyData} (h : EL K δ H0 te ρ xs) : ED K δ H0 (tCB (rLenSeq K) (tCons te tNil)) ρ (.py (.int (xs.length : Int))) := fun σ F H re w Q q =>
  h σ F H re w _ fun v F1 H1 s1 ⟨a, vs, e, la, dp⟩ => ⟨a, vs, by rw [e], .inl (la.sql (w.step s1).fh), q _ F1 H1 s1 (by rw [dpa_len dp]; exact .py (.int _))⟩
theorem ed_lenT {xs : List PyData} (h : ED K δ H0 te ρ (.py (.tuple xs))) : ED K δ H0 (tCB (rLenSeq K) (tCons te tNil)) ρ (.py (.int (xs.length : Int))) := fun σ F H re w Q q =>
  h σ F H re w _ fun v F1 H1 s1 r => by
    obtain ⟨a, vs, e, sq, dp⟩ := rep_tup r
    exact ⟨a, vs, by rw [e], .inr ((w.step s1).fh.sqt sq), q _ F1 H1 s1 (by rw [dpa_len dp]; exact .py (.int _))⟩
abbrev rListOf (K : PySem.W.Frag) : List V → Hp → VK → Prop := fun xs H Q => ∃ p ys, xs = [.ref p] ∧ (SqL K H p ys ∨ SqT K H p ys) ∧ ∀ l, H l = none → Q (.ref l) (upd H l (.lst ys))
abbrev rTupOf (K : PySem.W.Frag) : List V → Hp → VK → Prop := fun xs H Q => ∃ p ys, xs = [.ref p] ∧ ((SqL K H p ys ∧ ∀ l, H l = none → Q (.ref l) (upd H l (.tup ys))) ∨ (SqT K H p ys ∧ Q (.ref p) H))
theorem en_listL {xs : List PyData} (h : EL K δ H0 te ρ xs) : EN K δ H0 (tCB (rListOf K) (tCons te tNil)) ρ xs := fun σ F H re w Q q =>
  h σ F H re w _ fun v F1 H1 s1 ⟨a, vs, e, la, dp⟩ => ⟨a, vs, by rw [e], .inl (la.sql (w.step s1).fh), fun p hp => q _ F1 _ (s1.trans w ((w.step s1).allocU hp)) ⟨p, vs, xs, rfl, rfl, upd_same, (w.step s1).nn hp, s1.back hp, dp⟩⟩
theorem en_listT {xs : List PyData} (h : ED K δ H0 te ρ (.py (.tuple xs))) : EN K δ H0 (tCB (rListOf K) (tCons te tNil)) ρ xs := fun σ F H re w Q q =>
  h σ F H re w _ fun v F1 H1 s1 r => by
    obtain ⟨a, vs, e, sq, dp⟩ := rep_tup r
    exact ⟨a, vs, by rw [e], .inr ((w.step s1).fh.sqt sq), fun p hp => q _ F1 _ (s1.trans w ((w.step s1).allocU hp)) ⟨p, vs, xs, rfl, rfl, upd_same, (w.step s1).nn hp, s1.back hp, dp⟩⟩
theorem ed_tupL {xs : List PyData} (h : EL K δ H0 te ρ xs) : ED K δ H0 (tCB (rTupOf K) (tCons te tNil)) ρ (.py (.tuple xs)) := fun σ F H re w Q q =>
  h σ F H re w _ fun v F1 H1 s1 ⟨a, vs, e, la, dp⟩ => ⟨a, vs, by rw [e], .inl ⟨la.sql (w.step s1).fh, fun p hp => q _ (upd F1 p (.tup vs)) _ (s1.trans w ((w.step s1).alloc hp)) (.py (.tup (SqT.of upd_same) (dpa_mono (ex_upd ((w.step s1).nn hp)) _ _ dp)))⟩⟩
theorem ep_tupL {Pe : List PyData → Prop} (h : ENP K δ H0 te ρ Pe) : EP K δ H0 (tCB (rTupOf K) (tCons te tNil)) ρ fun d => ∃ xs, d = .py (.tuple xs) ∧ Pe xs := fun σ F H re w Q q =>
  h σ F H re w _ fun v F1 H1 s1 ⟨p, vs, xs, e, pe, a, b, c, dp⟩ => ⟨p, vs, by rw [e], .inl ⟨SqL.of a, fun p hp => q _ (upd F1 p (.tup vs)) _ (s1.trans w ((w.step s1).alloc hp)) ⟨_, ⟨xs, rfl, pe⟩, .py (.tup (SqT.of upd_same) (dpa_mono (ex_upd ((w.step s1).nn hp)) _ _ dp))⟩⟩⟩
theorem ed_all {bs : List Bool} (h : EL K δ H0 te ρ (bs.map .bool)) : ED K δ H0 (tCB (rAll K) (tCons te tNil)) ρ (.py (.bool (bs.all id))) := fun σ F H re w Q q =>
  h σ F H re w _ fun v F1 H1 s1 ⟨a, vs, e, la, dp⟩ => ⟨a, bs, by rw [e], by rw [← dpa_bools dp]; exact la.sql (w.step s1).fh, q _ F1 H1 s1 (.py (.bl _))⟩
theorem ed_any {bs : List Bool} (h : EL K δ H0 te ρ (bs.map .bool)) : ED K δ H0 (tCB (rAny K) (tCons te tNil)) ρ (.py (.bool (bs.any id))) := fun σ F H re w Q q =>
  h σ F H re w _ fun v F1 H1 s1 ⟨a, vs, e, la, dp⟩ => ⟨a, bs, by rw [e], by rw [← dpa_bools dp]; exact la.sql (w.step s1).fh, q _ F1 H1 s1 (.py (.bl _))⟩
abbrev rInt1 : List V → Hp → VK → Prop := fun xs H Q => (∃ i, xs = [.int i] ∧ Q (.int i) H) ∨ ∃ k, xs = [.bl k] ∧ Q (.int (if k then 1 else 0)) H
theorem ed_intI {i : Int} (h : ED K δ H0 te ρ (.py (.int i))) : ED K δ H0 (tCB rInt1 (tCons te tNil)) ρ (.py (.int i)) := fun σ F H re w Q q =>
  h σ F H re w _ fun v F1 H1 s1 r => .inl ⟨i, by rw [rep_int r], q _ F1 H1 s1 (.py (.int _))⟩
theorem ed_intB {b : Bool} (h : ED K δ H0 te ρ (.py (.bool b))) : ED K δ H0 (tCB rInt1 (tCons te tNil)) ρ (.py (.int (if b then 1 else 0))) := fun σ F H re w Q q =>
  h σ F H re w _ fun v F1 H1 s1 r => .inr ⟨b, by rw [rep_bool r], q _ F1 H1 s1 (.py (.int _))⟩
theorem ed_abs {i : Int} (h : ED K δ H0 te ρ (.py (.int i))) : ED K δ H0 (tCB (fun xs H Q => ∃ i, xs = [.int i] ∧ Q (.int (if i < 0 then -i else i)) H) (tCons te tNil)) ρ (.py (.int (if i < 0 then -i else i))) := fun σ F H re w Q q =>
  h σ F H re w _ fun v F1 H1 s1 r => ⟨i, by rw [rep_int r], q _ F1 H1 s1 (.py (.int _))⟩
theorem ed_max2 {i j : Int} (ha : ED K δ H0 ta ρ (.py (.int i))) (hb : ED K δ H0 tb ρ (.py (.int j))) :
    ED K δ H0 (tCB (fun xs H Q => ∃ i j, xs = [.int i, .int j] ∧ Q (.int (if j > i then j else i)) H) (tCons ta (tCons tb tNil))) ρ (.py (.int (if j > i then j else i))) := fun σ F H re w Q q =>
  ha σ F H re w _ fun v F1 H1 s1 r => hb σ F1 H1 (re.step s1) (w.step s1) _ fun u F2 H2 s2 r2 => ⟨i, j, by rw [rep_int r, rep_int r2], q _ F2 H2 (s1.trans w s2) (.py (.int _))⟩
theorem ed_min2 {i j : Int} (ha : ED K δ H0 ta ρ (.py (.int i))) (hb : ED K δ H0 tb ρ (.py (.int j))) :
    ED K δ H0 (tCB (fun xs H Q => ∃ i j, xs = [.int i, .int j] ∧ Q (.int (if j < i then j else i)) H) (tCons ta (tCons tb tNil))) ρ (.py (.int (if j < i then j else i))) := fun σ F H re w Q q =>
  ha σ F H re w _ fun v F1 H1 s1 r => hb σ F1 H1 (re.step s1) (w.step s1) _ fun u F2 H2 s2 r2 => ⟨i, j, by rw [rep_int r, rep_int r2], q _ F2 H2 (s1.trans w s2) (.py (.int _))⟩
/-- xs.index(n) -/
theorem ed_index {ns : List Int} {n : Int} {j : Nat} (h : EL K δ H0 te ρ (ns.map .int)) (hn : ED K δ H0 ta ρ (.py (.int n))) (hj : ns[j]? = some n) (hno : ∀ m z, m < j → ns[m]? = some z → z ≠ n) :
    ED K δ H0 (tBM K "list" (rIndex K) te (tCons ta tNil)) ρ (.py (.int (j : Int))) := fun σ F H re w Q q =>
  h σ F H re w _ fun v F1 H1 s1 ⟨a, vs, e, la, dp⟩ => by
    subst e
    refine ⟨.inl ⟨rfl, vs, la.sql (w.step s1).fh⟩, hn σ F1 H1 (re.step s1) (w.step s1) _ fun u F2 H2 s2 r2 => ?_⟩
    have ev := dpa_ints dp
    subst ev
    refine ⟨a, ns.map V.int, .int n, j, .int n, rfl, by rw [rep_int r2], (la.step s2).sql ((w.step s1).step s2).fh, rfl, ?_, ?_, ?_, fun m z' hm hz => ?_, q _ F2 H2 (s1.trans w s2) (.py (.int _))⟩
    · rw [List.all_map]; exact List.all_eq_true.mpr fun _ _ => rfl
    · rw [List.getElem?_map, hj]; rfl
    · show (n == n) = true
      simp
    · rw [List.getElem?_map] at hz
      cases q : ns[m]? with
      | none => rw [q] at hz; cases hz
      | some z =>
        rw [q] at hz
        have e : V.int z = z' := Option.some.inj hz
        subst e
        have := hno m z hm q
        show eqV (V.int z) (V.int n) = false
        simp [eqV, this]
end
end Dl
set_option Elab.async false
set_option linter.all false
set_option maxRecDepth 100000
set_option maxHeartbeats 2000000
namespace Dl
open PySem PySem.Spec PyProof.Rows L2 SlX

/-! ### slots forgotten -/
def wipeS (ρ : List Sl) : List Nat → List Sl
  | [] => ρ
  | v :: vs => (wipeS ρ vs).set v .no
theorem wipeS_len (ρ : List Sl) : ∀ vs : List Nat, (wipeS ρ vs).length = ρ.length
  | [] => rfl
  | v :: vs => by unfold wipeS; rw [List.length_set, wipeS_len ρ vs]
theorem wipeS_get {ρ : List Sl} {i : Nat} : ∀ {vs : List Nat} {x : Sl}, (wipeS ρ vs)[i]? = some x → x = .no ∨ (ρ[i]? = some x ∧ i ∉ vs)
  | [], x, h => .inr ⟨h, by simp⟩
  | v :: vs, x, h => by
    unfold wipeS at h
    by_cases e : v = i
    · subst e
      rw [get_set, if_pos rfl] at h
      split at h
      · exact .inl (Option.some.inj h).symm
      · cases h
    · rw [List.getElem?_set_ne e] at h
      rcases wipeS_get h with z | ⟨z, n⟩
      · exact .inl z
      · exact .inr ⟨z, by simp only [List.mem_cons, not_or]; exact ⟨fun q => e q.symm, n⟩⟩
theorem wipe_out {σ : L2.St} {i : Nat} : ∀ {vs : List Nat}, i ∉ vs → (wipe σ vs)[i]? = σ[i]?
  | [], _ => rfl
  | v :: vs, h => by
    unfold wipe
    simp only [List.mem_cons, not_or] at h
    rw [List.getElem?_set_ne (fun q => h.1 q.symm), wipe_out h.2]
theorem RepE.wipe {K : PySem.W.Frag} {δ : Option Addr} {H0 F H : Hp} {σ : L2.St} {ρ : List Sl} (r : RepE K δ H0 F H σ ρ) (vs : List Nat) : RepE K δ H0 F H (L2.wipe σ vs) (wipeS ρ vs) := by
  refine ⟨by rw [wipe_length, wipeS_len]; exact r.len, fun i d h => ?_, fun i xs h => ?_, fun i j xs ys a h1 h2 s1 s2 => ?_, fun i C ds h => ?_, fun i j C C' ds ds' h1 h2 => ?_⟩
  rotate_right
  rotate_right
  · rcases wipeS_get h with z | ⟨z, n⟩
    · cases z
    · rw [wipe_out n]; exact r.mo i C ds z
  · rcases wipeS_get h1 with z | ⟨z, n⟩
    · cases z
    · rcases wipeS_get h2 with z2 | ⟨z2, n2⟩
      · cases z2
      · exact r.mu i j C C' ds ds' z z2
  · rcases wipeS_get h with z | ⟨z, n⟩
    · cases z
    · rw [wipe_out n]; exact r.fz i d z
  · rcases wipeS_get h with z | ⟨z, n⟩
    · cases z
    · rw [wipe_out n]; exact r.ow i xs z
  · rcases wipeS_get h1 with z | ⟨z, n⟩
    · cases z
    · rcases wipeS_get h2 with z2 | ⟨z2, n2⟩
      · cases z2
      · rw [wipe_out n] at s1
        rw [wipe_out n2] at s2
        exact r.ap i j xs ys a z z2 s1 s2
theorem wipe_same {σ τ : L2.St} (hl : σ.length = τ.length) : ∀ (vs : List Nat), (∀ i, i ∉ vs → σ[i]? = τ[i]?) → L2.wipe σ vs = L2.wipe τ vs := fun vs h => by
  refine List.ext_getElem? fun i => ?_
  by_cases hi : i ∈ vs
  · have key : ∀ (υ : L2.St) (ws : List Nat), i ∈ ws → (L2.wipe υ ws)[i]? = if i < υ.length then some none else none := by
      intro υ ws
      induction ws with
      | nil => intro q; cases q
      | cons v ws ih =>
        intro q
        unfold L2.wipe
        by_cases e : v = i
        · subst e
          rw [get_set, if_pos rfl, wipe_length]
        · rw [List.getElem?_set_ne e]
          rcases List.mem_cons.mp q with z | z
          · exact absurd z.symm e
          · exact ih z
    rw [key σ vs hi, key τ vs hi, hl]
  · rw [wipe_out hi, wipe_out hi]; exact h i hi

/-! ### targets, walks -/
section
variable (K : PySem.W.Frag) (δ : Option Addr) (H0 : Hp)
/-- a target takes an item: the slots js are set -/
def GD (g : TG) (d : D) (ρ ρ' : List Sl) (js : List Nat) : Prop :=
  ∀ (σ : L2.St) (F H : Hp) (v : V), RepE K δ H0 F H σ ρ → Wd δ F H → Rep K δ F v d → ∀ Q : L2.St → Hp → Prop, (∀ σ', RepE K δ H0 F H σ' ρ' → σ'.length = σ.length → (∀ i, i ∉ js → σ'[i]? = σ[i]?) → Q σ' H) → g v σ H Q
/-- a walk's turns by data, the source frozen in F -/
structure IterD (J : It) (F : Hp) (items : List D) : Prop where
  go : ∀ (F1 H1 : Hp) (i : Nat), Ex F F1 → Wd δ F1 H1 → i < items.length → J.go i H1 ∧ ∀ x H2, J.yld i H1 x H2 → ∃ F2 d, items[i]? = some d ∧ Stp δ F1 H1 F2 H2 ∧ Rep K δ F2 x d
  stop : ∀ (F1 H1 : Hp) (i : Nat), Ex F F1 → Wd δ F1 H1 → i = items.length → J.stop i H1
theorem IterD.of {K : PySem.W.Frag} {δ : Option Addr} {J : It} {F : Hp} {items : List D} (go : ∀ (F1 H1 : Hp) (i : Nat), Ex F F1 → Wd δ F1 H1 → i < items.length → J.go i H1 ∧ ∀ x H2, J.yld i H1 x H2 → ∃ F2 d, items[i]? = some d ∧ Stp δ F1 H1 F2 H2 ∧ Rep K δ F2 x d)
    (stop : ∀ (F1 H1 : Hp) (i : Nat), Ex F F1 → Wd δ F1 H1 → items.length ≤ i → J.stop i H1) : IterD K δ J F items := ⟨go, fun F1 H1 i e w q => stop F1 H1 i e w (by omega)⟩
def WI (wi : TI) (ρ : List Sl) (items : List D) : Prop :=
  ∀ (σ : L2.St) (F H : Hp), RepE K δ H0 F H σ ρ → Wd δ F H → ∀ R : It → Hp → Prop, (∀ J F' H', Stp δ F H F' H' → IterD K δ J F' items → R J H') → wi σ H R
end
section
variable {K : PySem.W.Frag} {δ : Option Addr} {H0 : Hp} {ρ : List Sl} {ta tb tc te tl : TE} {x y d : D} {P P1 : D → Prop} {P2 : D → D → Prop}
theorem gd_name {j : Nat} : GD K δ H0 (gName j) d ρ (ρ.set j (.fz d)) [j] := fun σ F H v re w r Q q =>
  q _ (re.set j r) (by rw [List.length_set]) fun i hi => List.getElem?_set_ne (fun e => hi (by rw [e]; simp))
theorem gd_two {i j : Nat} {a b : PyData} : GD K δ H0 (gTup K 2 (gCons (gName i) (gCons (gName j) gNil))) (.py (.tuple [a, b])) ρ ((ρ.set i (.fz (.py a))).set j (.fz (.py b))) [i, j] := fun σ F H v re w r Q q => by
  obtain ⟨p, vs, e, sq, dp⟩ := rep_tup r
  cases dp with
  | cons d1 t => cases t with
    | cons d2 t => cases t with
      | nil =>
        exact ⟨p, _, e, w.fh.sqt sq, rfl, _, _, rfl, _, _, rfl, rfl, q _ ((re.set i (.py d1)).set j (.py d2)) (by rw [List.length_set, List.length_set]) fun k hk => by
          simp only [List.mem_cons, not_or, List.not_mem_nil, not_false_eq_true, and_true] at hk
          rw [List.getElem?_set_ne (fun e => hk.2 e.symm), List.getElem?_set_ne (fun e => hk.1 e.symm)]⟩
theorem gd_three {i j k : Nat} {a b c : PyData} : GD K δ H0 (gTup K 3 (gCons (gName i) (gCons (gName j) (gCons (gName k) gNil)))) (.py (.tuple [a, b, c])) ρ (((ρ.set i (.fz (.py a))).set j (.fz (.py b))).set k (.fz (.py c))) [i, j, k] := fun σ F H v re w r Q q => by
  obtain ⟨p, vs, e, sq, dp⟩ := rep_tup r
  cases dp with
  | cons d1 t => cases t with
    | cons d2 t => cases t with
      | cons d3 t => cases t with
        | nil =>
          exact ⟨p, _, e, w.fh.sqt sq, rfl, _, _, rfl, _, _, rfl, _, _, rfl, rfl, q _ (((re.set i (.py d1)).set j (.py d2)).set k (.py d3)) (by rw [List.length_set, List.length_set, List.length_set]) fun l hk => by
            simp only [List.mem_cons, not_or, List.not_mem_nil, not_false_eq_true, and_true] at hk
            rw [List.getElem?_set_ne (fun e => hk.2.2 e.symm), List.getElem?_set_ne (fun e => hk.2.1 e.symm), List.getElem?_set_ne (fun e => hk.1 e.symm)]⟩
theorem map_get {α β : Type} {f : α → β} {l : List α} {i : Nat} {y : β} (h : (l.map f)[i]? = some y) : ∃ x, l[i]? = some x ∧ f x = y := by
  rw [List.getElem?_map] at h
  cases q : l[i]? with
  | none => rw [q] at h; cases h
  | some x => rw [q] at h; exact ⟨x, rfl, Option.some.inj h⟩
theorem wi_list {xs : List PyData} (h : ED K δ H0 tl ρ (.py (.list xs))) : WI K δ H0 (iList K tl) ρ (xs.map .py) := fun σ F H re w R q =>
  h σ F H re w _ fun v F1 H1 s1 r => by
    obtain ⟨a, vs, e, sq, dp⟩ := rep_lst r
    refine ⟨a, e, ⟨vs, (w.step s1).fh.sql sq⟩, q _ F1 H1 s1 (IterD.of (fun F2 H2 i ex w2 hi => ?_) (fun F2 H2 i ex w2 hi => ?_))⟩
    · have sq2 : SqL K H2 a vs := w2.fh.sql (ex.sql sq)
      rw [List.length_map] at hi
      have hv : i < vs.length := by rw [dpa_len dp]; exact hi
      refine ⟨⟨vs, _, sq2, List.getElem?_eq_getElem hv⟩, fun x H3 ⟨e3, hx⟩ => ?_⟩
      obtain ⟨d, hd, dd⟩ := dpa_get2 dp (hx vs sq2)
      exact ⟨F2, .py d, by rw [List.getElem?_map, hd]; rfl, by rw [e3]; exact w2.refl, .py (dp_mono ex _ _ dd)⟩
    · rw [List.length_map] at hi
      exact ⟨vs, w2.fh.sql (ex.sql sq), by rw [dpa_len dp]; exact hi⟩
theorem wi_tup {xs : List PyData} (h : ED K δ H0 tl ρ (.py (.tuple xs))) : WI K δ H0 (iTup K tl) ρ (xs.map .py) := fun σ F H re w R q =>
  h σ F H re w _ fun v F1 H1 s1 r => by
    obtain ⟨a, vs, e, sq, dp⟩ := rep_tup r
    refine ⟨a, e, ⟨vs, (w.step s1).fh.sqt sq⟩, q _ F1 H1 s1 (IterD.of (fun F2 H2 i ex w2 hi => ?_) (fun F2 H2 i ex w2 hi => ?_))⟩
    · have sq2 : SqT K H2 a vs := w2.fh.sqt (ex.sqt sq)
      rw [List.length_map] at hi
      have hv : i < vs.length := by rw [dpa_len dp]; exact hi
      refine ⟨⟨vs, _, sq2, List.getElem?_eq_getElem hv⟩, fun x H3 ⟨e3, hx⟩ => ?_⟩
      obtain ⟨d, hd, dd⟩ := dpa_get2 dp (hx vs sq2)
      exact ⟨F2, .py d, by rw [List.getElem?_map, hd]; rfl, by rw [e3]; exact w2.refl, .py (dp_mono ex _ _ dd)⟩
    · rw [List.length_map] at hi
      exact ⟨vs, w2.fh.sqt (ex.sqt sq), by rw [dpa_len dp]; exact hi⟩
/-- lo, lo + c, .. : n of them -/
def rngD (lo c : Int) (n : Nat) : List D := (List.range n).map fun (i : Nat) => .py (.int (lo + ((i : Nat) : Int) * c))
theorem rngD_len {lo c : Int} {n : Nat} : (rngD lo c n).length = n := by unfold rngD; rw [List.length_map, List.length_range]
theorem rngD_get {lo c : Int} {n i : Nat} (h : i < n) : (rngD lo c n)[i]? = some (.py (.int (lo + (i : Int) * c))) := by
  unfold rngD
  rw [List.getElem?_map, List.getElem?_range h]; rfl
theorem iter_r {lo : Int} {n : Nat} {F : Hp} : IterD K δ (Itr lo n) F (rngD lo 1 n) := IterD.of (fun F1 H1 i ex w hi => by
  rw [rngD_len] at hi
  exact ⟨hi, fun x H2 ⟨e, ex2⟩ => ⟨F1, _, rngD_get hi, by rw [e]; exact w.refl, by rw [ex2, Int.mul_one]; exact .py (.int _)⟩⟩) (fun F1 H1 i ex w hi => by
  rw [rngD_len] at hi
  exact hi)
theorem wi_rng1 {n : Int} {t : TA} (h : AD K δ H0 t ρ [.py (.int n)]) (hn : -(2 ^ 62) ≤ n ∧ n < 2 ^ 62) : WI K δ H0 (iRng1 t) ρ (rngD 0 1 n.toNat) := fun σ F H re w R q =>
  h σ F H re w _ fun vs ds F1 H1 s1 e r => by
    subst e
    cases r with
    | cons r1 t => cases t with
      | nil =>
        have e1 := rep_int r1
        subst e1
        exact ⟨n, rfl, hn.1, hn.2, q _ F1 H1 s1 iter_r⟩
theorem wi_rng2 {lo n : Int} {t : TA} (h : AD K δ H0 t ρ [.py (.int lo), .py (.int n)]) (hn : -(2 ^ 62) ≤ lo ∧ lo < 2 ^ 62 ∧ -(2 ^ 62) ≤ n ∧ n < 2 ^ 62) : WI K δ H0 (iRng2 t) ρ (rngD lo 1 (n - lo).toNat) := fun σ F H re w R q =>
  h σ F H re w _ fun vs ds F1 H1 s1 e r => by
    subst e
    cases r with
    | cons r1 t => cases t with
      | cons r2 t => cases t with
        | nil =>
          have e1 := rep_int r1
          have e2 := rep_int r2
          subst e1 e2
          exact ⟨lo, n, rfl, hn, q _ F1 H1 s1 iter_r⟩
theorem wi_rng3 {lo hi c : Int} {n : Nat} {t : TA} (h : AD K δ H0 t ρ [.py (.int lo), .py (.int hi), .py (.int c)]) (hr : RgC lo hi c n) : WI K δ H0 (iRng3 t) ρ (rngD lo c n) := fun σ F H re w R q =>
  h σ F H re w _ fun vs ds F1 H1 s1 e r => by
    subst e
    cases r with
    | cons r1 t => cases t with
      | cons r2 t => cases t with
        | cons r3 t => cases t with
          | nil =>
            have e1 := rep_int r1
            have e2 := rep_int r2
            have e3 := rep_int r3
            subst e1 e2 e3
            refine ⟨lo, hi, c, n, rfl, hr, q _ F1 H1 s1 (IterD.of (fun F1 H1 i ex w hi => ?_) (fun F1 H1 i ex w hi => ?_))⟩
            · rw [rngD_len] at hi
              exact ⟨hi, fun x H2 ⟨e, ex2⟩ => ⟨F1, _, rngD_get hi, by rw [e]; exact w.refl, by rw [ex2]; exact .py (.int _)⟩⟩
            · rw [rngD_len] at hi
              exact hi
/-- pairs -/
theorem pair_new {F1 H1 : Hp} (w : Wd δ F1 H1) {T : Addr} {u v : V} {a b : PyData} (hT : H1 T = none) (h1 : Dp K F1 u a) (h2 : Dp K F1 v b) : ∃ F2, Stp δ F1 H1 F2 (upd H1 T (.tup [u, v])) ∧ Rep K δ F2 (.ref T) (.py (.tuple [a, b])) :=
  ⟨_, w.alloc hT, .py (.tup (SqT.of upd_same) (.cons (dp_mono (ex_upd (w.nn hT)) _ _ h1) (.cons (dp_mono (ex_upd (w.nn hT)) _ _ h2) .nil)))⟩
def enumD (xs : List PyData) : List D := (List.range xs.length).map fun (i : Nat) => .py (.tuple [.int ((i : Nat) : Int), xs.getD i .none])
theorem enumD_len {xs : List PyData} : (enumD xs).length = xs.length := by unfold enumD; rw [List.length_map, List.length_range]
theorem enumD_get {xs : List PyData} {i : Nat} {x : PyData} (h : xs[i]? = some x) : (enumD xs)[i]? = some (.py (.tuple [.int (i : Int), x])) := by
  have hl := (List.getElem?_eq_some_iff.mp h).1
  unfold enumD
  rw [List.getElem?_map, List.getElem?_range hl]
  show some (D.py (.tuple [.int (i : Int), xs.getD i .none])) = _
  rw [List.getD_eq_getElem?_getD, h]; rfl
theorem wi_enumL {xs : List PyData} (h : ED K δ H0 tl ρ (.py (.list xs))) : WI K δ H0 (iEnum K (tCons tl tNil)) ρ (enumD xs) := fun σ F H re w R q =>
  h σ F H re w _ fun v F1 H1 s1 r => by
    obtain ⟨a, vs, e, sq, dp⟩ := rep_lst r
    refine ⟨a, vs, by rw [e], (w.step s1).fh.sql sq, q _ F1 H1 s1 (IterD.of (fun F2 H2 i ex w2 hi => ?_) (fun F2 H2 i ex w2 hi => ?_))⟩
    · have sq2 : SqL K H2 a vs := w2.fh.sql (ex.sql sq)
      rw [enumD_len] at hi
      have hv : i < vs.length := by rw [dpa_len dp]; exact hi
      refine ⟨⟨vs, _, sq2, List.getElem?_eq_getElem hv⟩, fun x H3 ⟨T, y, e3, hT, e4, hx⟩ => ?_⟩
      obtain ⟨d, hd, dd⟩ := dpa_get2 dp (hx vs sq2)
      obtain ⟨F3, st, rr⟩ := pair_new (K := K) (a := .int (i : Int)) w2 hT (.int _) (dp_mono ex _ _ dd)
      exact ⟨F3, _, enumD_get hd, by rw [e4]; exact st, by rw [e3]; exact rr⟩
    · rw [enumD_len] at hi
      exact ⟨vs, w2.fh.sql (ex.sql sq), by rw [dpa_len dp]; exact hi⟩
def zipD (xs ys : List PyData) : List D := (xs.zip ys).map fun p => .py (.tuple [p.1, p.2])
theorem zipD_len {xs ys : List PyData} : (zipD xs ys).length = min xs.length ys.length := by unfold zipD; rw [List.length_map, List.length_zip]
theorem zipD_get {xs ys : List PyData} {i : Nat} {x y : PyData} (h : xs[i]? = some x) (h2 : ys[i]? = some y) : (zipD xs ys)[i]? = some (.py (.tuple [x, y])) := by
  unfold zipD
  have e : (xs.zip ys)[i]? = some (x, y) := List.getElem?_zip_eq_some.mpr ⟨h, h2⟩
  rw [List.getElem?_map, e]; rfl
theorem wi_zipL {xs ys : List PyData} (h : ED K δ H0 ta ρ (.py (.list xs))) (h2 : ED K δ H0 tb ρ (.py (.list ys))) : WI K δ H0 (RZ.iZipA K (tCons ta (tCons tb tNil))) ρ (zipD xs ys) := fun σ F H re w R q =>
  h σ F H re w _ fun v F1 H1 s1 r => h2 σ F1 H1 (re.step s1) (w.step s1) _ fun v2 F2 H2 s2 r2 => by
    obtain ⟨a, vs, e, sq, dp⟩ := rep_lst (r.mono s2.ff)
    obtain ⟨b, us, e2, sqb, dpb⟩ := rep_lst r2
    have w2 := (w.step s1).step s2
    refine ⟨a, b, vs, us, by rw [e, e2], .inl ⟨w2.fh.sql sq, w2.fh.sql sqb, q _ F2 H2 (s1.trans w s2) (IterD.of (fun F3 H3 i ex w3 hi => ?_) (fun F3 H3 i ex w3 hi => ?_))⟩⟩
    · have sq3 : SqL K H3 a vs := w3.fh.sql (ex.sql sq)
      have sq4 : SqL K H3 b us := w3.fh.sql (ex.sql sqb)
      rw [zipD_len] at hi
      have hv : i < vs.length := by rw [dpa_len dp]; omega
      have hu : i < us.length := by rw [dpa_len dpb]; omega
      refine ⟨⟨vs, us, _, _, sq3, sq4, List.getElem?_eq_getElem hv, List.getElem?_eq_getElem hu⟩, fun x H4 ⟨T, y, z, e3, hT, e4, hx, hz⟩ => ?_⟩
      obtain ⟨d, hd, dd⟩ := dpa_get2 dp (hx vs sq3)
      obtain ⟨d2, hd2, dd2⟩ := dpa_get2 dpb (hz us sq4)
      obtain ⟨F3, st, rr⟩ := pair_new (K := K) w3 hT (dp_mono ex _ _ dd) (dp_mono ex _ _ dd2)
      exact ⟨F3, _, zipD_get hd hd2, by rw [e4]; exact st, by rw [e3]; exact rr⟩
    · rw [zipD_len] at hi
      exact ⟨vs, us, w3.fh.sql (ex.sql sq), w3.fh.sql (ex.sql sqb), by rw [dpa_len dp, dpa_len dpb]; omega⟩
theorem wi_zipT {xs ys : List PyData} (h : ED K δ H0 ta ρ (.py (.tuple xs))) (h2 : ED K δ H0 tb ρ (.py (.tuple ys))) : WI K δ H0 (RZ.iZipA K (tCons ta (tCons tb tNil))) ρ (zipD xs ys) := fun σ F H re w R q =>
  h σ F H re w _ fun v F1 H1 s1 r => h2 σ F1 H1 (re.step s1) (w.step s1) _ fun v2 F2 H2 s2 r2 => by
    obtain ⟨a, vs, e, sq, dp⟩ := rep_tup (r.mono s2.ff)
    obtain ⟨b, us, e2, sqb, dpb⟩ := rep_tup r2
    have w2 := (w.step s1).step s2
    refine ⟨a, b, vs, us, by rw [e, e2], .inr ⟨w2.fh.sqt sq, w2.fh.sqt sqb, q _ F2 H2 (s1.trans w s2) (IterD.of (fun F3 H3 i ex w3 hi => ?_) (fun F3 H3 i ex w3 hi => ?_))⟩⟩
    · have sq3 : SqT K H3 a vs := w3.fh.sqt (ex.sqt sq)
      have sq4 : SqT K H3 b us := w3.fh.sqt (ex.sqt sqb)
      rw [zipD_len] at hi
      have hv : i < vs.length := by rw [dpa_len dp]; omega
      have hu : i < us.length := by rw [dpa_len dpb]; omega
      refine ⟨⟨vs, us, _, _, sq3, sq4, List.getElem?_eq_getElem hv, List.getElem?_eq_getElem hu⟩, fun x H4 ⟨T, y, z, e3, hT, e4, hx, hz⟩ => ?_⟩
      obtain ⟨d, hd, dd⟩ := dpa_get2 dp (hx vs sq3)
      obtain ⟨d2, hd2, dd2⟩ := dpa_get2 dpb (hz us sq4)
      obtain ⟨F3, st, rr⟩ := pair_new (K := K) w3 hT (dp_mono ex _ _ dd) (dp_mono ex _ _ dd2)
      exact ⟨F3, _, zipD_get hd hd2, by rw [e4]; exact st, by rw [e3]; exact rr⟩
    · rw [zipD_len] at hi
      exact ⟨vs, us, w3.fh.sqt (ex.sqt sq), w3.fh.sqt (ex.sqt sqb), by rw [dpa_len dp, dpa_len dpb]; omega⟩

/-! ### comprehensions -/
theorem bp_yes {P : Bool → Prop} (h : P true) : BP K δ H0 tYes ρ P := fun σ F H re w Q q => q true F H w.refl h
theorem Stp.mut {F H F' H' : Hp} (s : Stp δ F H F' H') {p : Addr} {o : HO} (h : H p = none) (hf : F' p = none) (hd : δ ≠ some p) : Stp δ F H F' (upd H' p o) := by
  refine ⟨s.ff, fun a u q => ?_, s.new, fun a u q n => ?_, fun a e => ?_⟩
  · rw [upd_ne (ne_of_none q hf)]; exact s.fh a u q
  · rw [upd_ne (ne_of_none q h)]; exact s.keep a u q n
  · have ne : a ≠ p := fun z => hd (by rw [← z]; exact e)
    obtain ⟨x, y, z, q⟩ := s.dc a e
    exact ⟨x, y, z, by rw [upd_ne ne]; exact q⟩
theorem enp_lc {wi : TI} {g : TG} {tt : TT} {te : TE} {vs js : List Nat} {items : List D} {Pf : List PyData → Prop} (hw : WI K δ H0 wi ρ items) (ρ' : D → List Sl) (J : Nat → List PyData → Prop) (h0 : J 0 [])
    (hg : ∀ d, d ∈ items → GD K δ H0 g d (wipeS ρ vs) (ρ' d) js) (hj : ∀ j, j ∈ js → j ∈ vs) (hl : items.length ≤ 100000)
    (hs : ∀ (i : Nat) (d : D) (acc : List PyData), items[i]? = some d → J i acc → BP K δ H0 tt (ρ' d) fun b => if b = true then EP K δ H0 te (ρ' d) (fun e => ∃ y, e = .py y ∧ J (i + 1) (acc ++ [y])) else J (i + 1) acc)
    (hd : ∀ acc, J items.length acc → Pf acc) : ENP K δ H0 (tLc wi g tt te vs) ρ Pf := fun σ F H re w Q q =>
  hw σ F H re w _ fun It F1 H1 s1 it Dl hD => by
    have w1 := w.step s1
    have nd := w1.nd hD
    refine ⟨fun i m Hc => m = items.length - i ∧ i ≤ items.length ∧ ∃ (Fc : Hp) (acc : List PyData) (va : List V), Stp δ F1 H1 Fc Hc ∧ Hc Dl = some (.lst va) ∧ Fc Dl = none ∧ DpAll K Fc va acc ∧ J i acc ∧ acc.length ≤ i,
      ⟨items.length, rfl, Nat.zero_le _, F1, [], [], w1.refl.mut hD (w1.nn hD) nd, upd_same, w1.nn hD, .nil, h0, Nat.le_refl _⟩, ?_⟩
    rintro i m Hc ⟨rfl, hi, Fc, acc, va, sc, hDc, hFD, dpc, jc, lc⟩
    have wc := w1.step sc
    by_cases hlt : i < items.length
    · obtain ⟨hgo, hy⟩ := it.go Fc Hc i sc.ff wc hlt
      refine .inr ⟨hgo, fun H' => ∃ m', m' < items.length - i ∧ _, fun H' h => h, fun x H2 hyl => ?_⟩
      obtain ⟨F2, d, hd1, s2, r2⟩ := hy x H2 hyl
      have w2 := wc.step s2
      have rw2 : RepE K δ H0 F2 H2 (L2.wipe σ vs) (wipeS ρ vs) := (((re.step s1).step sc).step s2).wipe vs
      refine hg d (List.mem_of_getElem? hd1) (L2.wipe σ vs) F2 H2 x rw2 w2 r2 _ fun σ2 re2 hlen hout => ⟨?_, ?_⟩
      · have e1 : L2.wipe σ2 vs = L2.wipe (L2.wipe σ vs) vs := wipe_same hlen vs fun k hk => hout k fun z => hk (hj k z)
        rw [e1]
        exact wipe_same (wipe_length σ vs) vs fun k hk => wipe_out hk
      · refine hs i d acc hd1 jc σ2 F2 H2 re2 w2 _ fun b F3 H3 s3 hb => ?_
        have w3 := w2.step s3
        have t3 : Stp δ F1 H1 F3 H3 := (sc.trans w1 s2).trans w1 s3
        have hD2 : H2 Dl = some (.lst va) := s2.keep _ _ hDc nd
        have hD3 : H3 Dl = some (.lst va) := s3.keep _ _ hD2 nd
        have fD : ∀ (Fx Hx Fy Hy : Hp), Stp δ Fx Hx Fy Hy → Hx Dl = some (.lst va) → Fx Dl = none → Fy Dl = none := fun Fx Hx Fy Hy s h1 h2 => by
          cases q : Fy Dl with
          | none => rfl
          | some o =>
            rcases s.new Dl o q with z | z
            · rw [h2] at z; cases z
            · rw [h1] at z; cases z
        have f2 := fD _ _ _ _ s2 hDc hFD
        have f3 := fD _ _ _ _ s3 hD2 f2
        cases b with
        | false =>
          exact ⟨_, by omega, rfl, hlt, F3, acc, va, t3, hD3, f3, dpa_mono (s2.ff.trans s3.ff) _ _ dpc, hb, by omega⟩
        | true =>
          refine hb σ2 F3 H3 (re2.step s3) w3 _ fun v F4 H4 s4 ⟨e, ⟨y, ey, jy⟩, rv⟩ => ?_
          subst ey
          have f4 := fD _ _ _ _ s4 hD3 f3
          have hD4 : H4 Dl = some (.lst va) := s4.keep _ _ hD3 nd
          refine ⟨va, hD4, sz_lt (by rw [dpa_len dpc]; omega), ⟨_, (by omega : items.length - (i + 1) < items.length - i), rfl, hlt, F4, acc ++ [y], va ++ [v], (t3.trans w1 s4).mut hD f4 nd, upd_same, f4,
            dpa_app (dpa_mono ((s2.ff.trans s3.ff).trans s4.ff) _ _ dpc) (dpa_one (rep_py rv)), jy, by rw [List.length_append]; simp; omega⟩⟩
    · have e : i = items.length := by omega
      subst e
      exact .inl ⟨it.stop Fc Hc _ sc.ff wc rfl, q _ Fc Hc (s1.trans w sc) ⟨Dl, va, acc, rfl, hd acc jc, hDc, hFD, s1.back hD, dpc⟩⟩
/-- every turn gives one item, told by the item taken -/
theorem en_lc {wi : TI} {g : TG} {te : TE} {vs js : List Nat} {items : List D} (hw : WI K δ H0 wi ρ items) (ρ' : D → List Sl) (f : D → PyData)
    (hg : ∀ d, d ∈ items → GD K δ H0 g d (wipeS ρ vs) (ρ' d) js) (hj : ∀ j, j ∈ js → j ∈ vs) (hl : items.length ≤ 100000)
    (hs : ∀ d, d ∈ items → ED K δ H0 te (ρ' d) (.py (f d))) : EN K δ H0 (tLc wi g tYes te vs) ρ (items.map f) :=
  enp_lc hw ρ' (fun i acc => acc = (items.take i).map f) (by rw [List.take_zero]; rfl) hg hj hl (fun i d acc hi e => bp_yes (by
    rw [if_pos rfl]
    refine (hs d (List.mem_of_getElem? hi)).ep ⟨_, rfl, ?_⟩
    rw [e, List.take_succ, hi, List.map_append]; rfl)) (fun acc e => by rw [e, List.take_length])
/-- with a test -/
theorem en_lcF {wi : TI} {g : TG} {tt : TT} {te : TE} {vs js : List Nat} {items : List D} (hw : WI K δ H0 wi ρ items) (ρ' : D → List Sl) (p : D → Bool) (f : D → PyData)
    (hg : ∀ d, d ∈ items → GD K δ H0 g d (wipeS ρ vs) (ρ' d) js) (hj : ∀ j, j ∈ js → j ∈ vs) (hl : items.length ≤ 100000)
    (ht : ∀ d, d ∈ items → BD K δ H0 tt (ρ' d) (p d)) (hs : ∀ d, d ∈ items → p d = true → ED K δ H0 te (ρ' d) (.py (f d))) : EN K δ H0 (tLc wi g tt te vs) ρ ((items.filter p).map f) :=
  enp_lc hw ρ' (fun i acc => acc = ((items.take i).filter p).map f) (by rw [List.take_zero]; rfl) hg hj hl (fun i d acc hi e => (ht d (List.mem_of_getElem? hi)).imp fun b eb => by
    subst eb
    have e2 : (items.take (i + 1)).filter p = (items.take i).filter p ++ (if p d = true then [d] else []) := by
      rw [List.take_succ, hi, List.filter_append]
      show _ ++ List.filter p [d] = _
      rw [List.filter_cons]; rfl
    by_cases hp : p d = true
    · rw [if_pos hp]
      refine (hs d (List.mem_of_getElem? hi) hp).ep ⟨_, rfl, ?_⟩
      rw [e, e2, if_pos hp, List.map_append]; rfl
    · rw [if_neg hp, e, e2, if_neg hp, List.append_nil]) (fun acc e => by rw [e, List.take_length])
end
end Dl
set_option Elab.async false
set_option linter.all false
set_option maxRecDepth 100000
set_option maxHeartbeats 2000000
namespace Dl
open PySem PySem.Spec PyProof.Rows L2 SlX

/-! ### statements by data -/
/-- what is wanted behind a statement, by data -/
structure En where
  N : List Sl → Prop
  R : D → Prop
  B : List Sl → Prop := fun _ => False
  C : List Sl → Prop := fun _ => False
section
variable (K : PySem.W.Frag) (δ : Option Addr) (F0 H0 : Hp)
def At (F : Hp) (P : List Sl → Prop) (σ : L2.St) (H' : Hp) : Prop := ∃ F' ρ', P ρ' ∧ RepE K δ H0 F' H' σ ρ' ∧ Stp δ F0 H0 F' H' ∧ Wd δ F' H' ∧ Ex F F'
structure EndsOk (F : Hp) (Dn : Ends) (E : En) : Prop where
  nx : ∀ σ' H', At K δ F0 H0 F E.N σ' H' → Dn.nx σ' H'
  rt : ∀ v d F' H', E.R d → Rep K δ F' v d → Stp δ F0 H0 F' H' → Wd δ F' H' → Dn.rt v H'
  bk : ∀ σ' H', At K δ F0 H0 F E.B σ' H' → Dn.bk σ' H'
  ct : ∀ σ' H', At K δ F0 H0 F E.C σ' H' → Dn.ct σ' H'
def SD (ts : TS) (ρ : List Sl) (E : En) : Prop :=
  ∀ (σ : L2.St) (F H : Hp) (Dn : Ends), RepE K δ H0 F H σ ρ → Wd δ F0 H0 → Stp δ F0 H0 F H → EndsOk K δ F0 H0 F Dn E → ts Dn σ H
end
section
variable {K : PySem.W.Frag} {δ : Option Addr} {F0 H0 : Hp} {ρ : List Sl} {ta tb tc te tl : TE} {x y d : D} {P P1 : D → Prop} {E : En} {t u : TS}
theorem At.mono {F F' : Hp} {P : List Sl → Prop} {σ : L2.St} {H' : Hp} (e : Ex F F') (h : At K δ F0 H0 F' P σ H') : At K δ F0 H0 F P σ H' := by
  obtain ⟨F2, ρ', a, b, c, w, d⟩ := h
  exact ⟨F2, ρ', a, b, c, w, e.trans d⟩
theorem EndsOk.mono {F F' : Hp} {Dn : Ends} (e : Ex F F') (h : EndsOk K δ F0 H0 F Dn E) : EndsOk K δ F0 H0 F' Dn E := ⟨fun σ H q => h.nx σ H (q.mono e), h.rt, fun σ H q => h.bk σ H (q.mono e), fun σ H q => h.ct σ H (q.mono e)⟩
/-- hand on to the next statement -/
theorem at_of {F F' H' : Hp} {P : List Sl → Prop} {σ : L2.St} {ρ' : List Sl} (p : P ρ') (r : RepE K δ H0 F' H' σ ρ') (w : Wd δ F0 H0) (s : Stp δ F0 H0 F' H') (e : Ex F F') : At K δ F0 H0 F P σ H' := ⟨F', ρ', p, r, s, w.step s, e⟩
theorem sd_nx (h : E.N ρ) : SD K δ F0 H0 tNext ρ E := fun σ F H Dn re w s k => k.nx σ H (at_of h re w s (Ex.refl F))
theorem sd_brk (h : E.B ρ) : SD K δ F0 H0 tBreak ρ E := fun σ F H Dn re w s k => k.bk σ H (at_of h re w s (Ex.refl F))
theorem sd_cont (h : E.C ρ) : SD K δ F0 H0 tCont ρ E := fun σ F H Dn re w s k => k.ct σ H (at_of h re w s (Ex.refl F))
theorem sd_seq (h : SD K δ F0 H0 t ρ { E with N := fun ρ' => SD K δ F0 H0 u ρ' E }) : SD K δ F0 H0 (tSeq t u) ρ E := fun σ F H Dn re w s k =>
  h σ F H { Dn with nx := u Dn } re w s ⟨fun σ' H' ⟨F', ρ', p, r, s', w', e⟩ => p σ' F' H' Dn r w s' (k.mono e), k.rt, k.bk, k.ct⟩
theorem sd_asg {i : Nat} (h : EP K δ H0 te ρ P) (k : ∀ d, P d → E.N (ρ.set i (.fz d))) : SD K δ F0 H0 (tAsg te (gName i)) ρ E := fun σ F H Dn re w s q =>
  h σ F H re (w.step s) _ fun v F' H' s' ⟨d, p, r⟩ => q.nx _ _ (at_of (k d p) ((re.step s').set i r) w (s.trans w s') s'.ff)
theorem sd_asgD {i : Nat} (h : ED K δ H0 te ρ d) (k : E.N (ρ.set i (.fz d))) : SD K δ F0 H0 (tAsg te (gName i)) ρ E := sd_asg (h.ep (P := fun z => z = d) rfl) fun _ e => by rw [e]; exact k
/-- x = a new list of the frame's own -/
theorem sd_asgN {i : Nat} {Pe : List PyData → Prop} (h : ENP K δ H0 te ρ Pe) (k : ∀ xs, Pe xs → E.N (ρ.set i (.ow xs))) : SD K δ F0 H0 (tAsg te (gName i)) ρ E := fun σ F H Dn re w s q =>
  h σ F H re (w.step s) _ fun v F' H' s' ⟨p, vs, xs, e, px, a, b, c, dp⟩ => by
    subst e
    have w1 := w.step s
    refine q.nx _ _ (at_of (k xs px) ((re.step s').own i a b (s.back c) (w1.nd c) dp fun j ys hj hy z => ?_) w (s.trans w s') s'.ff)
    obtain ⟨a', vs', e', ha', _⟩ := re.ow j ys hy
    rw [e'] at z
    cases z
    rw [c] at ha'
    cases ha'
theorem sd_ret (h : EP K δ H0 te ρ E.R) : SD K δ F0 H0 (tRet te) ρ E := fun σ F H Dn re w s q =>
  h σ F H re (w.step s) _ fun v F' H' s' ⟨d, p, r⟩ => q.rt v d F' H' p r (s.trans w s') (w.step (s.trans w s'))
theorem sd_retD (h : ED K δ H0 te ρ d) (k : E.R d) : SD K δ F0 H0 (tRet te) ρ E := sd_ret (h.ep k)
theorem sd_retN (k : E.R (.py .none)) : SD K δ F0 H0 tRetN ρ E := fun σ F H Dn re w s q => q.rt .non _ F H k (.py .non) s (w.step s)
theorem sd_if {tt : TT} {Pb : Bool → Prop} (h : BP K δ H0 tt ρ Pb) (h1 : Pb true → SD K δ F0 H0 t ρ E) (h2 : Pb false → SD K δ F0 H0 u ρ E) : SD K δ F0 H0 (tIfS tt t u) ρ E := fun σ F H Dn re w s q =>
  h σ F H re (w.step s) _ fun b F' H' s' p => by
    cases b with
    | true => exact h1 p σ F' H' Dn (re.step s') w (s.trans w s') (q.mono s'.ff)
    | false => exact h2 p σ F' H' Dn (re.step s') w (s.trans w s') (q.mono s'.ff)
theorem sd_ifD {tt : TT} {b : Bool} (h : BD K δ H0 tt ρ b) (h1 : b = true → SD K δ F0 H0 t ρ E) (h2 : b = false → SD K δ F0 H0 u ρ E) : SD K δ F0 H0 (tIfS tt t u) ρ E := sd_if h (fun e => h1 e.symm) (fun e => h2 e.symm)
theorem sd_drop (h : EP K δ H0 te ρ P) (k : E.N ρ) : SD K δ F0 H0 (tDrop te) ρ E := fun σ F H Dn re w s q =>
  h σ F H re (w.step s) _ fun v F' H' s' _ => q.nx _ _ (at_of k (re.step s') w (s.trans w s') s'.ff)
/-- a, b = e1, e2 -/
theorem sd_par {i j : Nat} {P2 : D → D → Prop} (ha : EP K δ H0 ta ρ P) (hb : ∀ x, P x → EP K δ H0 tb ρ (P2 x)) (k : ∀ x y, P x → P2 x y → E.N ((ρ.set i (.fz x)).set j (.fz y))) : SD K δ F0 H0 (tPar i j (tCons ta (tCons tb tNil))) ρ E := fun σ F H Dn re w s q =>
  ha σ F H re (w.step s) _ fun v F1 H1 s1 ⟨x, p, r⟩ => hb x p σ F1 H1 (re.step s1) ((w.step s).step s1) _ fun v2 F2 H2 s2 ⟨y, p2, r2⟩ => ⟨v, v2, rfl, q.nx _ _ (at_of (k x y p p2) ((((re.step s1).step s2).set i (r.mono s2.ff)).set j r2) w ((s.trans w s1).trans w s2) (s1.ff.trans s2.ff))⟩
theorem sd_parD {i j : Nat} (ha : ED K δ H0 ta ρ x) (hb : ED K δ H0 tb ρ y) (k : E.N ((ρ.set i (.fz x)).set j (.fz y))) : SD K δ F0 H0 (tPar i j (tCons ta (tCons tb tNil))) ρ E :=
  sd_par (P := fun z => z = x) (P2 := fun _ z => z = y) (ha.ep rfl) (fun _ _ => hb.ep rfl) fun _ _ e e2 => by rw [e, e2]; exact k
theorem sd_par3 {i j l : Nat} {P2 : D → D → Prop} {P3 : D → D → D → Prop} (ha : EP K δ H0 ta ρ P) (hb : ∀ x, P x → EP K δ H0 tb ρ (P2 x)) (hc : ∀ x y, P x → P2 x y → EP K δ H0 tc ρ (P3 x y))
    (k : ∀ x y z, P x → P2 x y → P3 x y z → E.N (((ρ.set i (.fz x)).set j (.fz y)).set l (.fz z))) : SD K δ F0 H0 (tPar3 i j l (tCons ta (tCons tb (tCons tc tNil)))) ρ E := fun σ F H Dn re w s q =>
  ha σ F H re (w.step s) _ fun v F1 H1 s1 ⟨x, p, r⟩ => hb x p σ F1 H1 (re.step s1) ((w.step s).step s1) _ fun v2 F2 H2 s2 ⟨y, p2, r2⟩ => hc x y p p2 σ F2 H2 ((re.step s1).step s2) (((w.step s).step s1).step s2) _ fun v3 F3 H3 s3 ⟨z, p3, r3⟩ =>
    ⟨v, v2, v3, rfl, q.nx _ _ (at_of (k x y z p p2 p3) ((((((re.step s1).step s2).step s3).set i (r.mono (s2.ff.trans s3.ff))).set j (r2.mono s3.ff)).set l r3) w (((s.trans w s1).trans w s2).trans w s3) ((s1.ff.trans s2.ff).trans s3.ff))⟩
theorem sd_par3D {i j l : Nat} {z : D} (ha : ED K δ H0 ta ρ x) (hb : ED K δ H0 tb ρ y) (hc : ED K δ H0 tc ρ z) (k : E.N (((ρ.set i (.fz x)).set j (.fz y)).set l (.fz z))) : SD K δ F0 H0 (tPar3 i j l (tCons ta (tCons tb (tCons tc tNil)))) ρ E :=
  sd_par3 (P := fun u => u = x) (P2 := fun _ u => u = y) (P3 := fun _ _ u => u = z) (ha.ep rfl) (fun _ _ => hb.ep rfl) (fun _ _ _ _ => hc.ep rfl) fun _ _ _ e e2 e3 => by rw [e, e2, e3]; exact k
/-- the frame's own list is frozen -/
theorem RepE.freeze {F H : Hp} {σ : L2.St} {i : Nat} {xs : List PyData} (re : RepE K δ H0 F H σ ρ) (w : Wd δ F0 H0) (s : Stp δ F0 H0 F H) (h : ρ[i]? = some (.ow xs)) : ∃ F', RepE K δ H0 F' H σ (ρ.set i (.fz (.py (.list xs)))) ∧ Stp δ F0 H0 F' H ∧ Ex F F' := by
  obtain ⟨a, vs, e, ha, hf, h0, hd, dp⟩ := re.ow i xs h
  have ex : Ex F (upd F a (.lst vs)) := ex_upd hf
  refine ⟨upd F a (.lst vs), ⟨by rw [List.length_set]; exact re.len, fun j d' q => ?_, fun j ys q => ?_, fun j k ys zs b q1 q2 s1 s2 => ?_, fun j C ds q => ?_, fun j k C C' ds ds' q1 q2 => ?_⟩, ⟨s.ff.trans ex, fun x u q => ?_, fun x u q => ?_, s.keep, s.dc⟩, ex⟩
  rotate_left
  rotate_left
  rotate_left
  · by_cases ej : i = j
    · subst ej
      rw [List.getElem?_set_self (List.getElem?_eq_some_iff.mp h).1] at q
      cases q
    · rw [List.getElem?_set_ne ej] at q
      refine (re.mo j C ds q).move ex (fun b u hb _ _ => hb) (fun b u hb nl n => ?_)
      by_cases eb : b = a
      · subst eb; rw [ha] at hb; cases hb; exact absurd rfl (nl _)
      · rw [upd_ne eb]; exact n
  · by_cases ej : i = j
    · subst ej
      rw [List.getElem?_set_self (List.getElem?_eq_some_iff.mp h).1] at q1
      cases q1
    · by_cases ek : i = k
      · subst ek
        rw [List.getElem?_set_self (List.getElem?_eq_some_iff.mp h).1] at q2
        cases q2
      · rw [List.getElem?_set_ne ej] at q1
        rw [List.getElem?_set_ne ek] at q2
        exact re.mu j k C C' ds ds' q1 q2
  rotate_left
  rotate_left
  · by_cases ej : i = j
    · subst ej
      rw [List.getElem?_set_self (List.getElem?_eq_some_iff.mp h).1] at q
      cases q
      exact ⟨.ref a, e, .py (.lst (SqL.of upd_same) (dpa_mono ex _ _ dp))⟩
    · rw [List.getElem?_set_ne ej] at q
      obtain ⟨v, q1, q2⟩ := re.fz j d' q
      exact ⟨v, q1, q2.mono ex⟩
  · by_cases ej : i = j
    · subst ej
      rw [List.getElem?_set_self (List.getElem?_eq_some_iff.mp h).1] at q
      cases q
    · rw [List.getElem?_set_ne ej] at q
      obtain ⟨b, us, e', hb, hfb, h0b, hdb, dpb⟩ := re.ow j ys q
      have ne : b ≠ a := fun z => by
        subst z
        exact ej (re.ap i j xs ys b h q e e')
      exact ⟨b, us, e', hb, by rw [upd_ne ne]; exact hfb, h0b, hdb, dpa_mono ex _ _ dpb⟩
  · by_cases ej : i = j
    · subst ej
      rw [List.getElem?_set_self (List.getElem?_eq_some_iff.mp h).1] at q1
      cases q1
    · by_cases ek : i = k
      · subst ek
        rw [List.getElem?_set_self (List.getElem?_eq_some_iff.mp h).1] at q2
        cases q2
      · rw [List.getElem?_set_ne ej] at q1
        rw [List.getElem?_set_ne ek] at q2
        exact re.ap j k ys zs b q1 q2 s1 s2
  · by_cases ex2 : x = a
    · rw [ex2, upd_same] at q; rw [ex2, ha]; exact q
    · rw [upd_ne ex2] at q; exact s.fh x u q
  · by_cases ex2 : x = a
    · rw [ex2]; exact .inr h0
    · rw [upd_ne ex2] at q; exact s.new x u q
theorem sd_freeze {i : Nat} {xs : List PyData} (h : ρ[i]? = some (.ow xs)) (k : SD K δ F0 H0 t (ρ.set i (.fz (.py (.list xs)))) E) : SD K δ F0 H0 t ρ E := fun σ F H Dn re w s q => by
  obtain ⟨F', re', s', ex⟩ := re.freeze w s h
  exact k σ F' H Dn re' w s' (q.mono ex)
/-- the frame's own list at slot i becomes xs' -/
theorem RepE.ownSet {F H : Hp} {σ : L2.St} {i : Nat} {xs xs' : List PyData} {a : Addr} {vs' : List V} (re : RepE K δ H0 F H σ ρ) (w : Wd δ F0 H0) (s : Stp δ F0 H0 F H) (h : ρ[i]? = some (.ow xs)) (e : σ[i]? = some (some (.ref a))) (hf : F a = none) (h0 : H0 a = none) (hd : δ ≠ some a) (dp : DpAll K F vs' xs') :
    RepE K δ H0 F (upd H a (.lst vs')) σ (ρ.set i (.ow xs')) ∧ Stp δ F0 H0 F (upd H a (.lst vs')) := by
  have hl := (List.getElem?_eq_some_iff.mp h).1
  refine ⟨⟨by rw [List.length_set]; exact re.len, fun j d' q => ?_, fun j ys q => ?_, fun j k ys zs b q1 q2 s1 s2 => ?_, fun j C ds q => ?_, fun j k C C' ds ds' q1 q2 => ?_⟩, s.mut h0 hf hd⟩
  rotate_right
  rotate_right
  · by_cases ej : i = j
    · subst ej
      rw [List.getElem?_set_self hl] at q
      cases q
    · rw [List.getElem?_set_ne ej] at q
      obtain ⟨a', vs2, e2, ha2, _⟩ := re.ow i xs h
      rw [e] at e2
      cases e2
      refine (re.mo j C ds q).move (Ex.refl F) (fun b u hb nl _ => ?_) (fun b u _ _ n => n)
      by_cases eb : b = a
      · subst eb; rw [ha2] at hb; cases hb; exact absurd rfl (nl _)
      · rw [upd_ne eb]; exact hb
  · by_cases ej : i = j
    · subst ej
      rw [List.getElem?_set_self hl] at q1
      cases q1
    · by_cases ek : i = k
      · subst ek
        rw [List.getElem?_set_self hl] at q2
        cases q2
      · rw [List.getElem?_set_ne ej] at q1
        rw [List.getElem?_set_ne ek] at q2
        exact re.mu j k C C' ds ds' q1 q2
  · by_cases ej : i = j
    · subst ej
      rw [List.getElem?_set_self hl] at q
      cases q
    · rw [List.getElem?_set_ne ej] at q
      exact re.fz j d' q
  · by_cases ej : i = j
    · subst ej
      rw [List.getElem?_set_self hl] at q
      cases q
      exact ⟨a, vs', e, upd_same, hf, h0, hd, dp⟩
    · rw [List.getElem?_set_ne ej] at q
      obtain ⟨b, us, e', hb, hfb, h0b, hdb, dpb⟩ := re.ow j ys q
      have ne : b ≠ a := fun z => by
        subst z
        exact ej (re.ap i j xs ys b h q e e')
      exact ⟨b, us, e', by rw [upd_ne ne]; exact hb, hfb, h0b, hdb, dpb⟩
  · have get : ∀ (j : Nat) (ys : List PyData), (ρ.set i (.ow xs'))[j]? = some (.ow ys) → ∃ zs, ρ[j]? = some (.ow zs) := fun j ys q => by
      by_cases ej : i = j
      · subst ej; exact ⟨xs, h⟩
      · rw [List.getElem?_set_ne ej] at q; exact ⟨ys, q⟩
    obtain ⟨z1, g1⟩ := get j ys q1
    obtain ⟨z2, g2⟩ := get k zs q2
    exact re.ap j k z1 z2 b g1 g2 s1 s2
/-- xs.append(e) -/
theorem sd_app {i : Nat} {xs : List PyData} (h : ρ[i]? = some (.ow xs)) (he : EP K δ H0 te ρ P) (hz : xs.length < 100000) (k : ∀ d, P d → ∃ y, d = .py y ∧ E.N (ρ.set i (.ow (xs ++ [y])))) :
    SD K δ F0 H0 (tDrop (tBM K "list" rAppend (tVar i) (tCons te tNil))) ρ E := fun σ F H Dn re w s q => by
  obtain ⟨a, vs, e, ha, hf, h0, hd, dp⟩ := re.ow i xs h
  refine ⟨_, e, .inl ⟨rfl, vs, SqL.of ha⟩, he σ F H re (w.step s) _ fun v F1 H1 s1 ⟨d, p, r⟩ => ?_⟩
  obtain ⟨y, rfl, n⟩ := k d p
  have ha1 : H1 a = some (.lst vs) := s1.keep _ _ ha hd
  have hf1 : F1 a = none := by
    cases z : F1 a with
    | none => rfl
    | some o =>
      rcases s1.new a o z with z1 | z1
      · rw [hf] at z1; cases z1
      · rw [ha] at z1; cases z1
  refine ⟨a, vs, v, rfl, rfl, ha1, sz_lt (by rw [dpa_len dp]; exact hz), ?_⟩
  obtain ⟨re2, s2⟩ := (re.step s1).ownSet (F0 := F0) w (s.trans w s1) h e hf1 h0 hd (dpa_app (dpa_mono s1.ff _ _ dp) (dpa_one (rep_py r)))
  exact q.nx _ _ (at_of n re2 w s2 s1.ff)
theorem sd_appD {i : Nat} {xs : List PyData} {y : PyData} (h : ρ[i]? = some (.ow xs)) (he : ED K δ H0 te ρ (.py y)) (hz : xs.length < 100000) (k : E.N (ρ.set i (.ow (xs ++ [y])))) :
    SD K δ F0 H0 (tDrop (tBM K "list" rAppend (tVar i) (tCons te tNil))) ρ E := sd_app h (he.ep (P := fun z => z = .py y) rfl) hz fun d e => ⟨y, e, k⟩
/-- xs.extend(e), e a new list -/
theorem sd_ext {i : Nat} {xs ys : List PyData} (h : ρ[i]? = some (.ow xs)) (he : EN K δ H0 te ρ ys) (hz : xs.length + ys.length ≤ 100000) (k : E.N (ρ.set i (.ow (xs ++ ys)))) :
    SD K δ F0 H0 (tDrop (tBM K "list" rExtend (tVar i) (tCons te tNil))) ρ E := fun σ F H Dn re w s q => by
  obtain ⟨a, vs, e, ha, hf, h0, hd, dp⟩ := re.ow i xs h
  refine ⟨_, e, .inl ⟨rfl, vs, SqL.of ha⟩, he σ F H re (w.step s) _ fun v F1 H1 s1 ⟨p, us, zs, e2, e3, hp, hfp, hHp, dp2⟩ => ?_⟩
  subst e2 e3
  have ha1 : H1 a = some (.lst vs) := s1.keep _ _ ha hd
  have hf1 : F1 a = none := by
    cases z : F1 a with
    | none => rfl
    | some o =>
      rcases s1.new a o z with z1 | z1
      · rw [hf] at z1; cases z1
      · rw [ha] at z1; cases z1
  refine ⟨a, p, vs, us, rfl, rfl, ha1, hp, sz_of (by rw [dpa_len dp, dpa_len dp2]; exact hz), ?_⟩
  obtain ⟨re2, s2⟩ := (re.step s1).ownSet (F0 := F0) w (s.trans w s1) h e hf1 h0 hd (dpa_app (dpa_mono s1.ff _ _ dp) dp2)
  exact q.nx _ _ (at_of k re2 w s2 s1.ff)
theorem ix_nat {n j : Nat} (h : j < n) : ixN n (j : Int) = some j := by
  unfold ixN
  rw [if_pos (Int.natCast_nonneg j), if_pos (by omega), Int.toNat_natCast]
/-- xs[j] = e -/
theorem sd_setL {i : Nat} {xs : List PyData} {j : Nat} {y : PyData} {jz : Int} (h : ρ[i]? = some (.ow xs)) (he : ED K δ H0 te ρ (.py y)) (hi : ED K δ H0 tb ρ (.py (.int jz))) (ej : jz = (j : Int)) (hj : j < xs.length) (k : E.N (ρ.set i (.ow (xs.set j y)))) :
    SD K δ F0 H0 (tAsg te (gSub (tVar i) tb rSetL)) ρ E := fun σ F H Dn re w s q =>
  he σ F H re (w.step s) _ fun v F1 H1 s1 r => by
    have re1 := re.step s1
    obtain ⟨a, vs, e, ha, hf, h0, hd, dp⟩ := re1.ow i xs h
    refine ⟨_, e, hi σ F1 H1 re1 ((w.step s).step s1) _ fun v2 F2 H2 s2 r2 => ?_⟩
    have re2 := re1.step s2
    obtain ⟨a', vs', e', ha', hf', h0', hd', dp'⟩ := re2.ow i xs h
    rw [e] at e'
    cases e'
    refine ⟨a, vs', jz, j, rfl, rep_int r2, ha', by rw [ej, dpa_len dp']; exact ix_nat hj, ?_⟩
    obtain ⟨re3, s3⟩ := re2.ownSet (F0 := F0) w ((s.trans w s1).trans w s2) h e hf' h0' hd' (dpa_set j dp' (rep_py (r.mono s2.ff)))
    exact q.nx _ _ (at_of k re3 w s3 (s1.ff.trans s2.ff))

/-! ### loops -/
theorem sd_for {wi : TI} {g : TG} {js : List Nat} {items : List D} (hw : WI K δ H0 wi ρ items) (I : Nat → List Sl → Prop) (ρ' : Nat → D → List Sl → List Sl) (h0 : I 0 ρ)
    (hg : ∀ i d ρ1, items[i]? = some d → I i ρ1 → GD K δ H0 g d ρ1 (ρ' i d ρ1) js)
    (hs : ∀ i d ρ1, items[i]? = some d → I i ρ1 → SD K δ F0 H0 t (ρ' i d ρ1) { E with N := I (i + 1), C := I (i + 1), B := E.N })
    (hd : ∀ ρ1, I items.length ρ1 → E.N ρ1) : SD K δ F0 H0 (tFor wi g t) ρ E := fun σ F H Dn re w s q =>
  hw σ F H re (w.step s) _ fun J F1 H1 s1 it => by
    refine ⟨fun i m σc Hc => m = items.length - i ∧ i ≤ items.length ∧ At K δ F0 H0 F1 (I i) σc Hc, ⟨_, rfl, Nat.zero_le _, at_of h0 (re.step s1) w (s.trans w s1) (Ex.refl F1)⟩, ?_⟩
    rintro i m σc Hc ⟨rfl, hi, Fc, ρ1, p, rc, sc, wc, ex⟩
    by_cases hlt : i < items.length
    · obtain ⟨hgo, hy⟩ := it.go Fc Hc i ex wc hlt
      refine .inr ⟨hgo, fun σ' H' => At K δ F0 H0 F1 (I (i + 1)) σ' H', fun σ' H' n => ⟨items.length - (i + 1), by omega, rfl, hlt, n⟩, fun v H2 yl => ?_⟩
      obtain ⟨F2, d, hd1, s2, r2⟩ := hy v H2 yl
      refine hg i d ρ1 hd1 p σc F2 H2 v (rc.step s2) (wc.step s2) r2 _ fun σ2 re2 _ _ => ?_
      exact hs i d ρ1 hd1 p σ2 F2 H2 _ re2 w (sc.trans w s2) ⟨fun σ' H' n => n.mono (ex.trans s2.ff), q.rt, fun σ' H' n => q.nx σ' H' (n.mono ((s1.ff.trans ex).trans s2.ff)), fun σ' H' n => n.mono (ex.trans s2.ff)⟩
    · have e : i = items.length := by omega
      subst e
      exact .inl ⟨it.stop Fc Hc _ ex wc rfl, q.nx σc Hc ⟨Fc, ρ1, hd ρ1 p, rc, sc, wc, s1.ff.trans ex⟩⟩
/-- a loop over a name -/
theorem sd_forN {wi : TI} {j : Nat} {items : List D} (hw : WI K δ H0 wi ρ items) (I : Nat → List Sl → Prop) (h0 : I 0 ρ)
    (hs : ∀ i d ρ1, items[i]? = some d → I i ρ1 → SD K δ F0 H0 t (ρ1.set j (.fz d)) { E with N := I (i + 1), C := I (i + 1), B := E.N })
    (hd : ∀ ρ1, I items.length ρ1 → E.N ρ1) : SD K δ F0 H0 (tFor wi (gName j) t) ρ E :=
  sd_for hw I (fun _ d ρ1 => ρ1.set j (.fz d)) h0 (fun _ _ _ _ _ => gd_name) hs hd
theorem sd_while {tt : TT} (I : Nat → List Sl → Prop) (m0 : Nat) (h0 : I m0 ρ)
    (hs : ∀ m ρ1, I m ρ1 → ∃ b, BD K δ H0 tt ρ1 b ∧ (b = true → SD K δ F0 H0 t ρ1 { E with N := fun ρ2 => ∃ m', m' < m ∧ I m' ρ2, C := fun ρ2 => ∃ m', m' < m ∧ I m' ρ2, B := E.N }) ∧ (b = false → E.N ρ1)) :
    SD K δ F0 H0 (tWhile tt t) ρ E := fun σ F H Dn re w s q => by
  refine ⟨fun m σc Hc => At K δ F0 H0 F (I m) σc Hc, ⟨m0, at_of h0 re w s (Ex.refl F)⟩, ?_⟩
  rintro m σc Hc ⟨Fc, ρ1, p, rc, sc, wc, ex⟩
  obtain ⟨b, hb, h1, h2⟩ := hs m ρ1 p
  refine hb σc Fc Hc rc wc _ fun c F1 H1 s1 e => ?_
  subst e
  cases c with
  | true =>
    refine ⟨fun σ' H' => ∃ m', m' < m ∧ At K δ F0 H0 F (I m') σ' H', fun σ' H' n => n, h1 rfl σc F1 H1 _ (rc.step s1) w (sc.trans w s1) ?_⟩
    have lift : ∀ σ' H', At K δ F0 H0 F1 (fun ρ2 => ∃ m', m' < m ∧ I m' ρ2) σ' H' → ∃ m', m' < m ∧ At K δ F0 H0 F (I m') σ' H' := fun σ' H' ⟨F', ρ2, ⟨m', hm, pi⟩, a, b, c, d⟩ => ⟨m', hm, F', ρ2, pi, a, b, c, (ex.trans s1.ff).trans d⟩
    exact ⟨lift, q.rt, fun σ' H' n => q.nx σ' H' (n.mono (ex.trans s1.ff)), lift⟩
  | false => exact q.nx _ _ ⟨F1, ρ1, h2 rfl, rc.step s1, sc.trans w s1, wc.step s1, ex.trans s1.ff⟩

/-! ### a def's body -/
theorem repE_start {F : Hp} : ∀ {vs : List V} {ds : List D} (n : Nat), Reps K δ F vs ds → RepE K δ H0 F H0 (vs.map some ++ List.replicate n none) (ds.map .fz ++ List.replicate n .no) := fun {vs ds} n r => by
  have hl := reps_len r
  have no : ∀ (i : Nat) (xs : List PyData), (ds.map Sl.fz ++ List.replicate n .no)[i]? = some (.ow xs) → False := fun i xs h => by
    rcases List.mem_append.mp (List.mem_of_getElem? h) with z | z
    · obtain ⟨_, _, e⟩ := List.mem_map.mp z; cases e
    · have := (List.mem_replicate.mp z).2; cases this
  have no2 : ∀ (i : Nat) (C : Addr × Addr) (es : List (Option D)), (ds.map Sl.fz ++ List.replicate n .no)[i]? = some (.mk C es) → False := fun i C es h => by
    rcases List.mem_append.mp (List.mem_of_getElem? h) with z | z
    · obtain ⟨_, _, e⟩ := List.mem_map.mp z; cases e
    · have := (List.mem_replicate.mp z).2; cases this
  refine ⟨by simp [hl], fun i d h => ?_, fun i xs h => (no i xs h).elim, fun i j xs ys a h _ _ _ => (no i xs h).elim, fun i C es h => (no2 i C es h).elim, fun i j C C' es es' h _ => (no2 i C es h).elim⟩
  by_cases hi : i < ds.length
  · rw [List.getElem?_append_left (by rw [List.length_map]; exact hi)] at h
    obtain ⟨d', h1, h2⟩ := map_get h
    cases h2
    have key : ∀ {vs : List V} {ds : List D} {i : Nat} {d : D}, Reps K δ F vs ds → ds[i]? = some d → ∃ v, vs[i]? = some v ∧ Rep K δ F v d := by
      intro vs ds i d r
      induction r generalizing i with
      | nil => intro h; simp at h
      | cons a _ ih =>
        intro h
        cases i with
        | zero => simp at h; subst h; exact ⟨_, rfl, a⟩
        | succ i => simp at h; obtain ⟨v, e1, e2⟩ := ih h; exact ⟨v, by simpa using e1, e2⟩
    obtain ⟨v, e1, e2⟩ := key r h1
    refine ⟨v, ?_, e2⟩
    rw [List.getElem?_append_left (by rw [List.length_map, hl]; exact hi), List.getElem?_map, e1]; rfl
  · rw [List.getElem?_append_right (by rw [List.length_map]; omega)] at h
    have := (List.mem_replicate.mp (List.mem_of_getElem? h)).2
    cases this
theorem body_run {t : TS} {N : List Str} {vs : List V} {H : Hp} {Q : VK} {E : XK} {C : Con} (h : spD K C vs H Q E)
    (k : ∀ (δ : Option Addr) (F0 : Hp) (a : C.α), C.ok a → SD K δ F0 H t ((C.args a).map .fz ++ List.replicate (N.length - (C.args a).length) .no) { N := fun _ => C.R a (.py .none), R := C.R a }) : t { nx := fun _ H' => Q .non H', rt := Q } (L2.start N vs) H := by
  obtain ⟨δ, F, a, p, r, w, q⟩ := h
  have hl := reps_len r
  refine k δ F a p (L2.start N vs) F H _ ?_ w w.refl ⟨fun σ' H' ⟨F', ρ', po, re, s, w', _⟩ => q .non _ F' H' po (.py .non) s, fun v d F' H' po rv s w' => q v d F' H' po rv s, fun σ' H' ⟨_, _, z, _⟩ => z.elim, fun σ' H' ⟨_, _, z, _⟩ => z.elim⟩
  unfold L2.start
  rw [hl]
  exact repE_start _ r
end
end Dl
set_option Elab.async false
set_option linter.all false
set_option maxRecDepth 100000
set_option maxHeartbeats 2000000
namespace Dl
open PySem PySem.Spec PyProof.Rows L2 SlX

/-! ### two and more targets, one of them the frame's own list -/
section
variable {K : PySem.W.Frag} {δ : Option Addr} {F0 H0 : Hp} {ρ : List Sl} {ta tb tc td te tl : TE} {x y z d : D} {P P1 : D → Prop} {E : En} {t u : TS}
theorem sd_never (h : False) : SD K δ F0 H0 tNever ρ E := h.elim
theorem fresh_ow {F H : Hp} {σ : L2.St} (re : RepE K δ H0 F H σ ρ) {p : Addr} (hp : H p = none) : ∀ (j : Nat) (ys : List PyData), ρ[j]? = some (.ow ys) → σ[j]? ≠ some (some (.ref p)) := fun j ys hy z => by
  obtain ⟨a', vs', e', ha', _⟩ := re.ow j ys hy
  rw [e'] at z
  cases z
  rw [hp] at ha'
  cases ha'
theorem ow_keep {i : Nat} {s : Sl} {ys : List PyData} {j : Nat} (h : (ρ.set i s)[j]? = some (.ow ys)) (hj : j ≠ i) : ρ[j]? = some (.ow ys) := by rwa [List.getElem?_set_ne (fun e => hj e.symm)] at h
theorem sig_keep {σ : L2.St} {i j : Nat} {v : Option V} (hj : j ≠ i) : (σ.set i v)[j]? = σ[j]? := List.getElem?_set_ne (fun e => hj e.symm)
/-- a, b = e1, a new list -/
theorem sd_parN {i j : Nat} {xs : List PyData} (ha : ED K δ H0 ta ρ x) (hb : EN K δ H0 tb ρ xs) (hij : i ≠ j) (k : E.N ((ρ.set i (.fz x)).set j (.ow xs))) : SD K δ F0 H0 (tPar i j (tCons ta (tCons tb tNil))) ρ E := fun σ F H Dn re w s q =>
  ha σ F H re (w.step s) _ fun v F1 H1 s1 r => hb σ F1 H1 (re.step s1) ((w.step s).step s1) _ fun v2 F2 H2 s2 ⟨p, vs, ys, e, ey, a, b, c, dp⟩ => by
    subst e ey
    have w2 := ((w.step s).step s1).step s2
    have re2 := (re.step s1).step s2
    have re3 := re2.set i (r.mono s2.ff)
    refine ⟨v, .ref p, rfl, q.nx _ _ (at_of k (re3.own j a b ((s.trans w s1).back c) (((w.step s).step s1).nd c) dp fun l ys hl hy z => ?_) w ((s.trans w s1).trans w s2) (s1.ff.trans s2.ff))⟩
    by_cases el : l = i
    · subst el
      rw [get_set, if_pos rfl] at hy
      split at hy <;> cases hy
    · exact fresh_ow (re.step s1) c l ys (ow_keep hy el) (by rw [← sig_keep el]; exact z)
/-- a, b, c = a new list, e2, e3 -/
theorem sd_par3N {i j l : Nat} {xs : List PyData} (ha : EN K δ H0 ta ρ xs) (hb : ED K δ H0 tb ρ y) (hc : ED K δ H0 tc ρ z) (hij : i ≠ j) (hil : i ≠ l) (k : E.N (((ρ.set i (.ow xs)).set j (.fz y)).set l (.fz z))) :
    SD K δ F0 H0 (tPar3 i j l (tCons ta (tCons tb (tCons tc tNil)))) ρ E := fun σ F H Dn re w s q =>
  ha σ F H re (w.step s) _ fun v F1 H1 s1 ⟨p, vs, ys, e, ey, a, b, c, dp⟩ => by
    subst e ey
    have w0 := w.step s
    have w1 := w0.step s1
    have nd := w0.nd c
    refine hb σ F1 H1 (re.step s1) w1 _ fun v2 F2 H2 s2 r2 => ?_
    have w2 := w1.step s2
    refine hc σ F2 H2 ((re.step s1).step s2) w2 _ fun v3 F3 H3 s3 r3 => ?_
    have s123 := ((s.trans w s1).trans w s2).trans w s3
    have fD : ∀ (Fx Hx Fy Hy : Hp), Stp δ Fx Hx Fy Hy → Hx p = some (.lst vs) → Fx p = none → Fy p = none := fun Fx Hx Fy Hy s h1 h2 => by
      cases q : Fy p with
      | none => rfl
      | some o =>
        rcases s.new p o q with z | z
        · rw [h2] at z; cases z
        · rw [h1] at z; cases z
    have a2 := s2.keep _ _ a nd
    have a3 := s3.keep _ _ a2 nd
    have b2 := fD _ _ _ _ s2 a b
    have b3 := fD _ _ _ _ s3 a2 b2
    refine ⟨.ref p, v2, v3, rfl, q.nx _ _ (at_of k ((((((re.step s1).step s2).step s3).own i a3 b3 (s.back c) nd (dpa_mono (s2.ff.trans s3.ff) _ _ dp) fun m ys hm hy zz => ?_).set j (r2.mono s3.ff)).set l r3) w s123 ((s1.ff.trans s2.ff).trans s3.ff))⟩
    exact fresh_ow re c m ys hy zz
/-- a, b, c, d = e1, a new list, e3, e4, by a tuple -/
theorem sd_tup4N {i j l m : Nat} {xs : List PyData} {x z u : PyData} (ha : ED K δ H0 ta ρ (.py x)) (hb : EN K δ H0 tb ρ xs) (hc : ED K δ H0 tc ρ (.py z)) (hd : ED K δ H0 td ρ (.py u)) (hij : i ≠ j) (hjl : j ≠ l) (hjm : j ≠ m)
    (k : E.N ((((ρ.set i (.fz (.py x))).set j (.ow xs)).set l (.fz (.py z))).set m (.fz (.py u)))) :
    SD K δ F0 H0 (tAsg (tTup (tCons ta (tCons tb (tCons tc (tCons td tNil))))) (gTup K 4 (gCons (gName i) (gCons (gName j) (gCons (gName l) (gCons (gName m) gNil)))))) ρ E := fun σ F H Dn re w s q =>
  ha σ F H re (w.step s) _ fun v0 F0' H0' s0 r0 => by
    have w00 := w.step s
    have w0 := w00.step s0
    refine hb σ F0' H0' (re.step s0) w0 _ fun v F1 H1 s1 ⟨p, vs, ys, e, ey, a, b, c, dp⟩ => ?_
    subst e ey
    have w1 := w0.step s1
    have nd := w0.nd c
    refine hc σ F1 H1 ((re.step s0).step s1) w1 _ fun v2 F2 H2 s2 r2 => ?_
    have w2 := w1.step s2
    refine hd σ F2 H2 (((re.step s0).step s1).step s2) w2 _ fun v3 F3 H3 s3 r3 => ⟨by show 4 ≤ sizeLine; decide, fun T hT => ?_⟩
    have w3 := w2.step s3
    have s4 := w3.allocU (o := .tup [v0, .ref p, v2, v3]) hT
    have sAll := (((s.trans w s0).trans w s1).trans w s2).trans w s3
    have fD : ∀ (Fx Hx Fy Hy : Hp), Stp δ Fx Hx Fy Hy → Hx p = some (.lst vs) → Fx p = none → Fy p = none := fun Fx Hx Fy Hy s h1 h2 => by
      cases q : Fy p with
      | none => rfl
      | some o =>
        rcases s.new p o q with z | z
        · rw [h2] at z; cases z
        · rw [h1] at z; cases z
    have a2 := s2.keep _ _ a nd
    have a3 := s3.keep _ _ a2 nd
    have a4 := s4.keep _ _ a3 nd
    have b2 := fD _ _ _ _ s2 a b
    have b3 := fD _ _ _ _ s3 a2 b2
    have re4 := (((re.step s0).step s1).step s2).step s3 |>.step s4
    have r0' := r0.mono (s1.ff.trans (s2.ff.trans s3.ff))
    refine ⟨T, _, rfl, SqT.of upd_same, rfl, _, _, rfl, _, _, rfl, _, _, rfl, _, _, rfl, rfl, q.nx _ _ (at_of k (((((re4.set i r0').own j a4 b3 ((s.trans w s0).back c) nd (dpa_mono (s2.ff.trans s3.ff) _ _ dp) fun n ys hn hy zz => ?_).set l (r2.mono s3.ff)).set m r3)) w (sAll.trans w s4) ((s0.ff.trans s1.ff).trans (s2.ff.trans s3.ff)))⟩
    by_cases el : n = i
    · subst el
      rw [get_set, if_pos rfl] at hy
      split at hy <;> cases hy
    · exact fresh_ow (re.step s0) c n ys (ow_keep hy el) (by rw [← sig_keep el]; exact zz)
/-- a, b = (e1, e2) by a tuple -/
theorem sd_tup2 {i j : Nat} {x y : PyData} (h : ED K δ H0 te ρ (.py (.tuple [x, y]))) (k : E.N ((ρ.set i (.fz (.py x))).set j (.fz (.py y)))) : SD K δ F0 H0 (tAsg te (gTup K 2 (gCons (gName i) (gCons (gName j) gNil)))) ρ E := fun σ F H Dn re w s q =>
  h σ F H re (w.step s) _ fun v F1 H1 s1 r => gd_two σ F1 H1 v (re.step s1) ((w.step s).step s1) r _ fun σ' re' _ _ => q.nx _ _ (at_of k re' w (s.trans w s1) s1.ff)
theorem sd_tup2P {i j : Nat} {P : D → Prop} (h : EP K δ H0 te ρ P) (k : ∀ d, P d → ∃ x y, d = .py (.tuple [x, y]) ∧ E.N ((ρ.set i (.fz (.py x))).set j (.fz (.py y)))) : SD K δ F0 H0 (tAsg te (gTup K 2 (gCons (gName i) (gCons (gName j) gNil)))) ρ E := fun σ F H Dn re w s q =>
  h σ F H re (w.step s) _ fun v F1 H1 s1 ⟨d, p, r⟩ => by
    obtain ⟨x, y, rfl, k⟩ := k d p
    exact gd_two σ F1 H1 v (re.step s1) ((w.step s).step s1) r _ fun σ' re' _ _ => q.nx _ _ (at_of k re' w (s.trans w s1) s1.ff)
theorem sd_tup3 {i j l : Nat} {x y z : PyData} (h : ED K δ H0 te ρ (.py (.tuple [x, y, z]))) (k : E.N (((ρ.set i (.fz (.py x))).set j (.fz (.py y))).set l (.fz (.py z)))) : SD K δ F0 H0 (tAsg te (gTup K 3 (gCons (gName i) (gCons (gName j) (gCons (gName l) gNil))))) ρ E := fun σ F H Dn re w s q =>
  h σ F H re (w.step s) _ fun v F1 H1 s1 r => gd_three σ F1 H1 v (re.step s1) ((w.step s).step s1) r _ fun σ' re' _ _ => q.nx _ _ (at_of k re' w (s.trans w s1) s1.ff)
end

/-! ### defs with contracts -/
section
variable {P : Program} {w : World} {K : PySem.W.Frag} {mg : Str → Option Value} {base : Heap}
/-- the module's def x keeps a contract by data, at most k calls deep -/
structure FO (P : Program) (w : World) (K : PySem.W.Frag) (mg : Str → Option Value) (base : Heap) (k : Nat) (x : Str) (C : Con) : Prop where
  ex : ∃ f fd ps, mg x = some (.ref f) ∧ PySem.W.keepIn K (.ref f) = true ∧ Binds K fd ps [] ∧ FnOk P w K mg base CX0 k f fd ps (spD K C)
theorem FO.mono {j k : Nat} {x : Str} {C : Con} (h : FO P w K mg base j x C) (e : j ≤ k) : FO P w K mg base k x C := by
  obtain ⟨f, fd, ps, a, b, c, d⟩ := h.ex
  exact ⟨f, fd, ps, a, b, c, d.mono e⟩
abbrev FD (K : PySem.W.Frag) (x : Str) (st : Stmt) (f : Addr) (fd : FuncData) : Prop := FunD K x x (defArgs st) (defBody st) (defScope st) [] [] f fd
theorem fn_mk {k : Nat} {x qual : Str} {st : Stmt} {f : Addr} {fd : FuncData} {N ps : List Str} {C : Con} (F : FunD K x qual (defArgs st) (defBody st) (defScope st) [] [] f fd) (S : FnScope N ps (defScope st))
    (hp : ∀ a, C.ok a → (C.args a).length = ps.length)
    (hbody : ∀ (cdv : Value) (A : Around) (outer : List Env) (s : Shared) (H : Hp) (E : XK), Room k (A.deeper (envOfC qual (defScope st) s.heap.objs.size f cdv)) →
      ∃ t, PSs (cxOf CX0 P w K mg base N qual (defScope st) f cdv A outer s H E).nox (defBody st) t ∧ ∀ (δ : Option Addr) (F0 : Hp) (a : C.α), C.ok a →
        SD K δ F0 H t ((C.args a).map .fz ++ List.replicate (N.length - (C.args a).length) .no) { N := fun _ => C.R a (.py .none), R := C.R a }) : FnOk P w K mg base CX0 (k + 1) f fd ps (spD K C) :=
  FunD.ok F S (fun vs H Q E ⟨δ, F, a, p, r, _⟩ => by rw [reps_len r]; exact hp a p) fun cdv A outer s H vs Q E hr h => by
    obtain ⟨t, h1, h2⟩ := hbody cdv A outer s H E hr
    exact ⟨t, h1.nox, body_run h h2⟩
theorem fo_mk {k : Nat} {x : Str} {st : Stmt} {f : Addr} {fd : FuncData} {N ps : List Str} {C : Con} (F : FD K x st f fd) (g : mg x = some (.ref f)) (S : FnScope N ps (defScope st)) (b : Binds K fd ps [])
    (hp : ∀ a, C.ok a → (C.args a).length = ps.length)
    (hbody : ∀ (cdv : Value) (A : Around) (outer : List Env) (s : Shared) (H : Hp) (E : XK), Room k (A.deeper (envOfC x (defScope st) s.heap.objs.size f cdv)) →
      ∃ t, PSs (cxOf CX0 P w K mg base N x (defScope st) f cdv A outer s H E).nox (defBody st) t ∧ ∀ (δ : Option Addr) (F0 : Hp) (a : C.α), C.ok a →
        SD K δ F0 H t ((C.args a).map .fz ++ List.replicate (N.length - (C.args a).length) .no) { N := fun _ => C.R a (.py .none), R := C.R a }) : FO P w K mg base (k + 1) x C :=
  ⟨f, fd, ps, g, F.kp, b, fn_mk F S hp hbody⟩
end
section
variable {X : Cx} {e : Expr} {es : List Expr} {t : TA} {x : Str} {p pos : Pos} {j k : Nat} {C : Con}
theorem pe_fo (G : FO X.prog X.w X.K X.mg X.base j x C) (hr : Room k X.A) (hjk : j ≤ k) (hg : Gl X x) (ha : PA X (e :: es) t) (hdb : (x == ("__debug__" : Str)) = false := by decide)
    (he : starEach (e :: es) X.env = (false, eval e X.env) :: starEach es X.env := by rfl) (hpl : (backTo pos (starEach es X.env)).any (·.1) = false := by rfl) :
    PE X (.Call (.Name x p) (e :: es) [] pos) (tCall (spD X.K C) [] E0 t) := by
  obtain ⟨f, fd, ps, a, b, c, d⟩ := G.ex
  exact pe_call d (hr.mono hjk) hg a b c .nil pass0 ha hdb he hpl
end

/-! ### constants of the module -/
/-- a value of the written part read as data -/
def readK (K : PySem.W.Frag) : Nat → Value → Option PyData
  | _, .none => some .none
  | _, .bool b => some (.bool b)
  | _, .int i _ => some (.int i)
  | n + 1, .ref a => match K.lookup a with
    | some ⟨.type c, _, .seq its _, _⟩ => if c = "tuple" ∧ its.size ≤ 1000 then (its.toList.mapM (readK K n)).map .tuple else none
    | _ => none
  | _, _ => none
theorem readK_ok {K : PySem.W.Frag} : ∀ (n : Nat) (u : Value) (d : PyData), readK K n u = some d → ∃ v, RelV v u ∧ ∀ F, Dp K F v d
  | n, .none, d, h => by
    have e : d = .none := by cases n <;> exact (Option.some.inj h).symm
    subst e
    exact ⟨.non, rfl, fun _ => .non⟩
  | n, .bool b, d, h => by
    have e : d = .bool b := by cases n <;> exact (Option.some.inj h).symm
    subst e
    exact ⟨.bl b, rfl, fun _ => .bl b⟩
  | n, .int i t, d, h => by
    have e : d = .int i := by cases n <;> exact (Option.some.inj h).symm
    subst e
    exact ⟨.int i, ⟨t, rfl⟩, fun _ => .int i⟩
  | n + 1, .ref a, d, h => by
    have key : ∀ (l : List Value) (ds : List PyData), l.mapM (readK K n) = some ds → ∃ vs, Vals vs l ∧ ∀ F, DpAll K F vs ds := by
      intro l
      induction l with
      | nil =>
        intro ds h
        cases (show some [] = some ds from h)
        exact ⟨[], .nil, fun _ => .nil⟩
      | cons u l ih =>
        intro ds h
        rw [List.mapM_cons] at h
        cases q : readK K n u with
        | none => rw [q] at h; cases h
        | some d =>
          rw [q] at h
          cases q2 : l.mapM (readK K n) with
          | none => rw [q2] at h; cases h
          | some es =>
            rw [q2] at h
            cases (show some (d :: es) = some ds from h)
            obtain ⟨v, r, dd⟩ := readK_ok n u d q
            obtain ⟨vs, rs, dds⟩ := ih es q2
            exact ⟨v :: vs, .cons r rs, fun F => .cons (dd F) (dds F)⟩
    unfold readK at h
    cases q : K.lookup a with
    | none => rw [q] at h; cases h
    | some o =>
      obtain ⟨oc, od, dt, osl⟩ := o
      rw [q] at h
      cases oc with
      | type c =>
        cases dt with
        | seq its m =>
          have h1 : (if c = "tuple" ∧ its.size ≤ 1000 then (its.toList.mapM (readK K n)).map .tuple else none) = some d := h
          split at h1
          · rename_i hc
            cases q2 : its.toList.mapM (readK K n) with
            | none => rw [q2] at h1; cases h1
            | some ds =>
              rw [q2] at h1
              cases (show some (PyData.tuple ds) = some d from h1)
              obtain ⟨vs, rs, dds⟩ := key _ _ q2
              refine ⟨.ref a, rfl, fun F => .tup (.inr ⟨_, its, m, q, congrArg Value.type hc.1, rfl, Nat.le_trans hc.2 (by decide), rs⟩) (dds F)⟩
          · cases h1
        | _ => cases h
      | _ => cases dt <;> cases h
  | 0, .ref a, d, h => by cases h
  | n, .str _ _, d, h => by cases n <;> cases h
  | n, .bytes _ _, d, h => by cases n <;> cases h
  | n, .float _ _, d, h => by cases n <;> cases h
  | n, .type _, d, h => by cases n <;> cases h
  | n, .builtin _, d, h => by cases n <;> cases h
  | n, .notImplemented, d, h => by cases n <;> cases h
  | n, .ellipsis, d, h => by cases n <;> cases h

/-- the value of the module's name x -/
def gv (K : PySem.W.Frag) (x : Str) : V := match PySem.W.nsIn K mainGlobals x with
  | some (some u) => (absV u).getD .non
  | _ => .non
structure GDat (K : PySem.W.Frag) (mg : Str → Option Value) (x : Str) (d : PyData) : Prop where
  ex : ∃ u, mg x = some u ∧ RelV (gv K x) u
  dp : ∀ F, Dp K F (gv K x) d
def gdatB (K : PySem.W.Frag) (x : Str) : Option PyData := match PySem.W.nsIn K mainGlobals x with
  | some (some u) => readK K 3 u
  | _ => none
theorem gdat_ok {K : PySem.W.Frag} {mg : Str → Option Value} {h : Heap} {x : Str} {d : PyData} (X : K.In h) (G : h.Ns mainGlobals mg) (e : gdatB K x = some d) : GDat K mg x d := by
  unfold gdatB at e
  cases q : PySem.W.nsIn K mainGlobals x with
  | none => rw [q] at e; cases e
  | some r =>
    rw [q] at e
    cases r with
    | none => cases e
    | some u =>
      obtain ⟨v, r, dd⟩ := readK_ok 3 u d e
      have ev : gv K x = v := by
        unfold gv
        rw [q]
        show (absV u).getD .non = v
        rw [r.abs]; rfl
      exact ⟨⟨u, PySem.W.mg_of X G q, by rw [ev]; exact r⟩, by rw [ev]; exact dd⟩
theorem pe_gd {X : Cx} {x : Str} {pos : Pos} {d : PyData} (h : GDat X.K X.mg x d) (hg : Gl X x) (hdb : (x == ("__debug__" : Str)) = false := by decide) (hcd : (x == ("__classdict__" : Str)) = false := by decide) : PE X (.Name x pos) (tC (gv X.K x)) := by
  obtain ⟨u, a, b⟩ := h.ex
  exact pe_glob hg a b hdb
theorem ed_gd {K : PySem.W.Frag} {mg : Str → Option Value} {δ : Option Addr} {H0 : Hp} {ρ : List Sl} {x : Str} {d : PyData} (h : GDat K mg x d) : ED K δ H0 (tC (gv K x)) ρ (.py d) := ed_c h.dp
/-! ### a dict of the module with int keys -/
structure IDk (K : PySem.W.Frag) (a : Addr) (kvs : List (Int × PyData)) : Prop where
  ex : ∃ (es : Array DictEntry) (n : Nat), K.lookup a = some ⟨.type "dict", none, .dict es n, #[]⟩ ∧ (a == sysModules) = false ∧ (∀ e, e ∈ es → ∃ k, (∃ t, e.key = .int k t) ∧ e.hash = hashInt k) ∧
    ∀ i, (findBy Value.isInt es i = none ∧ kvs.lookup i = none) ∨ ∃ u d v, findBy Value.isInt es i = some u ∧ kvs.lookup i = some d ∧ RelV v u ∧ ∀ F, Dp K F v d
def entK (K : PySem.W.Frag) (e : DictEntry) : Option (Int × PyData) := match e.key with
  | .int k _ => if e.hash = hashInt k then (readK K 2 e.val).map fun d => (k, d) else none
  | _ => none
def idkB (K : PySem.W.Frag) (a : Addr) : Option (List (Int × PyData)) := match K.lookup a with
  | some ⟨.type c, none, .dict es _, sl⟩ => if c = "dict" ∧ sl = #[] ∧ (a == sysModules) = false then es.toList.mapM (entK K) else none
  | _ => none
theorem mapM_get {α β : Type} {f : α → Option β} : ∀ {l : List α} {r : List β}, l.mapM f = some r → Paired (fun a b => f a = some b) l r
  | [], r, h => by cases (show some [] = some r from h); exact .nil
  | a :: l, r, h => by
    rw [List.mapM_cons] at h
    cases q : f a with
    | none => rw [q] at h; cases h
    | some b =>
      rw [q] at h
      cases q2 : l.mapM f with
      | none => rw [q2] at h; cases h
      | some bs =>
        rw [q2] at h
        cases (show some (b :: bs) = some r from h)
        exact .cons q (mapM_get q2)
theorem entK_ok {K : PySem.W.Frag} {e : DictEntry} {k : Int} {d : PyData} (h : entK K e = some (k, d)) : (∃ t, e.key = .int k t) ∧ e.hash = hashInt k ∧ ∃ v, RelV v e.val ∧ ∀ F, Dp K F v d := by
  unfold entK at h
  split at h
  · rename_i k' t hk
    split at h
    · rename_i hh
      cases q : readK K 2 e.val with
      | none => rw [q] at h; cases h
      | some d' =>
        rw [q] at h
        cases (show some (k', d') = some (k, d) from h)
        exact ⟨⟨t, hk⟩, hh, readK_ok 2 _ _ q⟩
    · cases h
  · cases h
theorem idk_ok {K : PySem.W.Frag} {a : Addr} {kvs : List (Int × PyData)} (h : idkB K a = some kvs) : IDk K a kvs := by
  unfold idkB at h
  cases q : K.lookup a with
  | none => rw [q] at h; cases h
  | some o =>
    obtain ⟨oc, od, dt, osl⟩ := o
    rw [q] at h
    cases oc with
    | type c =>
      cases od with
      | none =>
        cases dt with
        | dict es n =>
          have h1 : (if c = "dict" ∧ osl = #[] ∧ (a == sysModules) = false then es.toList.mapM (entK K) else none) = some kvs := h
          split at h1
          · rename_i hc
            obtain ⟨c1, c2, c3⟩ := hc
            subst c1 c2
            have pr := mapM_get h1
            refine ⟨es, n, q, c3, fun e he => ?_, fun i => ?_⟩
            · have key : ∀ {l : List DictEntry} {r : List (Int × PyData)}, Paired (fun a b => entK K a = some b) l r → e ∈ l → ∃ k, (∃ t, e.key = .int k t) ∧ e.hash = hashInt k := by
                intro l r p
                induction p with
                | nil => intro m; cases m
                | @cons e0 b0 l0 r0 a _ ih =>
                  intro m
                  rcases List.mem_cons.mp m with z | z
                  · subst z
                    obtain ⟨z1, z2, _⟩ := entK_ok (k := b0.1) (d := b0.2) a
                    exact ⟨b0.1, z1, z2⟩
                  · exact ih z
              exact key pr (Array.mem_toList_iff.mpr he)
            · have key : ∀ {l : List DictEntry} {r : List (Int × PyData)}, Paired (fun a b => entK K a = some b) l r →
                  ((l.find? fun e => Value.isInt i e.key).map (·.val) = none ∧ r.lookup i = none) ∨ ∃ u d v, (l.find? fun e => Value.isInt i e.key).map (·.val) = some u ∧ r.lookup i = some d ∧ RelV v u ∧ ∀ F, Dp K F v d := by
                intro l r p
                induction p with
                | nil => exact .inl ⟨rfl, rfl⟩
                | @cons e b l0 r0 a _ ih =>
                  obtain ⟨k, d⟩ := b
                  obtain ⟨⟨t, z1⟩, z2, v, rv, dv⟩ := entK_ok a
                  have ei : Value.isInt i e.key = (i == k) := by rw [z1]; show (k == i) = (i == k); exact Bool.beq_comm
                  rw [List.find?_cons, List.lookup_cons, ei]
                  cases ek : (i == k) with
                  | true => exact .inr ⟨e.val, d, v, rfl, rfl, rv, dv⟩
                  | false => exact ih
              have k2 := key pr
              unfold findBy
              obtain ⟨l⟩ := es
              rw [List.find?_toArray]
              exact k2
          · cases h1
        | _ => cases h
      | some b => cases dt <;> cases h
    | _ => cases od <;> cases dt <;> cases h
section
variable {X : Cx} {a : Addr} {kvs : List (Int × PyData)}
theorem IDk.map (h : IDk X.K a kvs) {pins : List (Addr × Obj)} {σ : L2.St} {H : Hp} {s : Shared} (I : Inv X pins σ H s) : ∃ es n, X.K.lookup a = some ⟨.type "dict", none, .dict es n, #[]⟩ ∧ s.heap.MapOf (intKind X.prog X.w) a (fun k => findBy Value.isInt es k) := by
  obtain ⟨es, n, h1, h2, h3, h4⟩ := h.ex
  exact ⟨es, n, h1, _, es, n, I.kIn _ _ h1, ⟨rfl, rfl, rfl⟩, rfl, fun e he => by
    obtain ⟨k, ⟨t, e1⟩, e2⟩ := h3 e he
    exact ⟨k, by rw [e1]; exact intKind_is X.prog X.w k t, e2⟩, fun _ => rfl⟩
/-- N[i] of such a dict -/
def rIxI (K : PySem.W.Frag) (a : Addr) (kvs : List (Int × PyData)) : R2 := fun x y H Q => ∃ i d, x = .ref a ∧ y = .int i ∧ kvs.lookup i = some d ∧ ∀ v, (∀ F, Dp K F v d) → Q v H
theorem ix_idk (h : IDk X.K a kvs) : IxR X (rIxI X.K a kvs) := by
  intro value slice pins s σ H x y v u Q I rx ry h0 hsub
  obtain ⟨i, d, ex, ey, e, q⟩ := h0
  subst ex ey
  cases rx
  obtain ⟨t, rfl⟩ := ry
  obtain ⟨es, n, h1, h2, h3, h4⟩ := h.ex
  obtain ⟨es', n', h1', hm⟩ := h.map I
  rw [h1] at h1'
  cases h1'
  rcases h4 i with ⟨_, z⟩ | ⟨u', d', v', z1, z2, z3, z4⟩
  · rw [e] at z; cases z
  · rw [e] at z2
    cases z2
    exact tail_any hm.typeIs slot_dict_getitem.lookup (wpAny_getItem_of (intKind_is X.prog X.w i t) hm z1 ⟨v', H, I.tok _, z3, q v' z4⟩) hsub
/-- i in N, i not in N -/
theorem op_in_idk (h : IDk X.K a kvs) : OpR X (compareOp .In) (fun x y H Q => ∃ i, x = .int i ∧ y = .ref a ∧ Q (.bl (kvs.lookup i).isSome) H) := by
  intro pins s σ H x y v u Q I rx ry ⟨i, ex, ey, q⟩
  subst ex ey
  cases ry
  obtain ⟨t, rfl⟩ := rx
  obtain ⟨es, n, h1, h2, h3, h4⟩ := h.ex
  obtain ⟨es', n', h1', hm⟩ := h.map I
  rw [h1] at h1'
  cases h1'
  refine wpAny_in_of (intKind_is X.prog X.w i t) h2 hm ?_
  have e : (findBy Value.isInt es i).isSome = (kvs.lookup i).isSome := by
    rcases h4 i with ⟨z1, z2⟩ | ⟨u', d', v', z1, z2, _⟩ <;> rw [z1, z2] <;> rfl
  exact ⟨.bl _, H, I.tok _, by rw [← e]; rfl, q⟩
theorem op_notIn_idk (h : IDk X.K a kvs) : OpR X (compareOp .NotIn) (fun x y H Q => ∃ i, x = .int i ∧ y = .ref a ∧ Q (.bl (!(kvs.lookup i).isSome)) H) := by
  intro pins s σ H x y v u Q I rx ry ⟨i, ex, ey, q⟩
  subst ex ey
  cases ry
  obtain ⟨t, rfl⟩ := rx
  obtain ⟨es, n, h1, h2, h3, h4⟩ := h.ex
  obtain ⟨es', n', h1', hm⟩ := h.map I
  rw [h1] at h1'
  cases h1'
  refine wpAny_notIn_of (intKind_is X.prog X.w i t) h2 hm ?_
  have e : (findBy Value.isInt es i).isSome = (kvs.lookup i).isSome := by
    rcases h4 i with ⟨z1, z2⟩ | ⟨u', d', v', z1, z2, _⟩ <;> rw [z1, z2] <;> rfl
  exact ⟨.bl _, H, I.tok _, by rw [← e]; rfl, q⟩
/-- the module's name x is such a dict -/
structure GDic (K : PySem.W.Frag) (mg : Str → Option Value) (x : Str) (kvs : List (Int × PyData)) : Prop where
  mg_ : mg x = some (.ref (He.ga K x))
  at_ : IDk K (He.ga K x) kvs
theorem pe_gref {x : Str} {pos : Pos} (h : GDic X.K X.mg x kvs) (hg : Gl X x) (hdb : (x == ("__debug__" : Str)) = false := by decide) (hcd : (x == ("__classdict__" : Str)) = false := by decide) : PE X (.Name x pos) (tC (.ref (He.ga X.K x))) := pe_glob hg h.mg_ (show RelV (.ref (He.ga X.K x)) (.ref (He.ga X.K x)) from rfl) hdb
end
section
variable {K : PySem.W.Frag} {δ : Option Addr} {H0 : Hp} {ρ : List Sl} {te : TE} {a : Addr} {kvs : List (Int × PyData)}
theorem ed_ixI {i : Int} {d : PyData} (h : ED K δ H0 te ρ (.py (.int i))) (e : kvs.lookup i = some d) : ED K δ H0 (tOp (rIxI K a kvs) (tC (.ref a)) te) ρ (.py d) := fun σ F H re w Q q =>
  h σ F H re w _ fun v F1 H1 s1 r => ⟨i, d, rfl, rep_int r, e, fun v dv => q v F1 H1 s1 (.py (dv F1))⟩
theorem ed_inI {i : Int} (h : ED K δ H0 te ρ (.py (.int i))) : ED K δ H0 (tOp (fun x y H Q => ∃ i, x = .int i ∧ y = .ref a ∧ Q (.bl (kvs.lookup i).isSome) H) te (tC (.ref a))) ρ (.py (.bool (kvs.lookup i).isSome)) := fun σ F H re w Q q =>
  h σ F H re w _ fun v F1 H1 s1 r => ⟨i, rep_int r, rfl, q _ F1 H1 s1 (.py (.bl _))⟩
theorem ed_notInI {i : Int} (h : ED K δ H0 te ρ (.py (.int i))) : ED K δ H0 (tOp (fun x y H Q => ∃ i, x = .int i ∧ y = .ref a ∧ Q (.bl (!(kvs.lookup i).isSome)) H) te (tC (.ref a))) ρ (.py (.bool (!(kvs.lookup i).isSome))) := fun σ F H re w Q q =>
  h σ F H re w _ fun v F1 H1 s1 r => ⟨i, rep_int r, rfl, q _ F1 H1 s1 (.py (.bl _))⟩
end
end Dl
set_option Elab.async false
set_option linter.all false
set_option maxRecDepth 100000
set_option maxHeartbeats 2000000
namespace Dl
open PySem PySem.Spec PyProof.Rows L2 SlX
/-! ### a != b by the class's own == -/
section
variable {M : Model} {prog : Program} {w : World} {A : Around} {E : Value → Shared → Prop} {s : Shared} {K : PySem.W.Frag} {x C f : Addr} {ox : Obj} {od : Option Obj} {b : Value}
theorem ifBound_objNe {args : List Value} {Q : Option Value → Shared → Prop} (X : K.In s.heap) (I : PySem.W.InstAt s.heap x ox C od) (hs : PySem.W.findIn K (.ref C) "__ne__" = some (some (.builtin "object.__ne__")))
    (h : wpAny M A (call (.builtin "object.__ne__") (.ref x :: args)) (fun v => Q (some v)) E s) : wpAny M A (callSpecialIfBound? (.ref x) "__ne__" args) Q E s := by
  simp only [callSpecialIfBound?, bindSpecialIfBound?]
  refine wpAny_holding (wpAny_bind (wpAny_bind (wpAny_bind (I.type.here ((PySem.W.looks_findIn X hs).here ?_)))))
  refine wpAny_bind (wpAny_askSetting (wpAny_ite ?_))
  have fin : wpAny M A (call (.builtin "object.__ne__") ([.ref x] ++ args) >>= fun v => pure (some v)) Q E s := wpAny_bind (wpAny_mono h (fun v s' h' => wpAny_pure h') fun _ _ h' => h')
  split
  · exact wpAny_bind (wpAny_of_eq (F.cmp_object.ne.bind _) (wpAny_pure (by exact fin)))
  · exact wpAny_tryCatch (wpAny_bind (wpAny_of_eq (F.cmp_object.ne.bind _) (wpAny_pure (by exact fin))))
theorem entry_objNe (hu : A.units < cLine) (X : K.In s.heap) (I : PySem.W.InstAt s.heap x ox C od) (he : PySem.W.findIn K (.ref C) "__eq__" = some (some (.ref f))) (hf : PySem.W.isFn K (.ref f) = true) {Q : Fin → Shared → Prop}
    (hcall : wpAny (model prog w) A (call (.ref f) [.ref x, b]) (fun v s' => ∃ k, v = .bool k ∧ Q (.done (.ret (.bool (!k)))) s') E s) : wpAny (model prog w) A (Builtin.«object.__ne__» ⟨[.ref x, b], []⟩) Q E s := by
  unfold Builtin.«object.__ne__»
  repeat (first
    | with_reducible refine wpAny_cRoomFor hu ?_
    | (refine wpAny_bind (m := callSpecialIfBound? (.ref x) (Str.ofString "__eq__") [b])
        (PySem.W.ifBound_K X I he hf (wpAny_mono hcall (fun r s' hr => by
          obtain ⟨b, rfl, hq⟩ := hr
          repeat (first | exact hq | exact wpAny_pure hq | exact wpAny_truthy_bool hq | (refine wpAny_bind (m := truthy (.bool _)) (wpAny_truthy_bool ?_)) | wp_step)) fun _ _ e => e)))
    | wp_step)
theorem call_objNe {Q : Value → Shared → Prop} (hu : A.in1.units < cLine) (X : K.In s.heap) (I : PySem.W.InstAt s.heap x ox C od) (hm : PySem.W.mroIn K C (.type "object") = some true) (he : PySem.W.findIn K (.ref C) "__eq__" = some (some (.ref f))) (hf : PySem.W.isFn K (.ref f) = true)
    (hcall : wpAny (model prog w) A.in1 (call (.ref f) [.ref x, b]) (fun v s' => ∃ k, v = .bool k ∧ Q (.bool (!k)) s') E s) :
    wpAny (model prog w) A (call (.builtin "object.__ne__") [.ref x, b]) Q E s :=
  wpAny_call (codeAny_call_builtin F.cmp_object.ne.plain F.cmpEntry_ne (PySem.W.check_slot F.cmpKind_ne F.cmpSplit_ne (I.type.andThen (PySem.W.looks_mroIn X hm)) (F.cmpArgs_ne _ _) (entry_objNe hu X I he hf (wpAny_mono hcall (fun v s' ⟨k, e, q⟩ => ⟨k, e, q⟩) fun _ _ e => e))))
theorem ne_own {h₀ : Heap} {L : Addr} {m : Str → Option Value} {tb : Value} {Q : Value → Shared → Prop} (hu : A.units + 1 < cLine) (hu2 : A.in1.units < cLine) (F : PyProof.Rows.Fr h₀ L s.heap m) (X₀ : K.In h₀) (I : PySem.W.InstAt s.heap x ox C od) (hb : PySem.W.Looks (model prog w) s.heap (typeOf b) tb) (hn : PySem.W.notFirst K C tb = true)
    (hm : PySem.W.mroIn K C (.type "object") = some true) (hs : PySem.W.findIn K (.ref C) "__ne__" = some (some (.builtin "object.__ne__"))) (he : PySem.W.findIn K (.ref C) "__eq__" = some (some (.ref f))) (hf : PySem.W.isFn K (.ref f) = true)
    (h : wpAny (model prog w) A.in1 (call (.ref f) [.ref x, b]) (fun v s' => ∃ k, v = .bool k ∧ Q (.bool (!k)) s') E s) : wpAny (model prog w) A (compareOp .NotEq (.ref x) b) Q E s := by
  have X := X₀.keeps F.keep
  have one : wpAny (model prog w) A (tryCompare (.ref x) "__ne__" b) (fun r s' => ∃ v, r = some v ∧ Q v s') E s := by
    unfold tryCompare
    refine wpAny_bind (ifBound_objNe X I hs (call_objNe hu2 X I hm he hf (wpAny_mono h (fun v s' hv => ?_) fun _ _ e => e)))
    obtain ⟨k, e, q⟩ := hv
    exact ⟨k, e, wpAny_pure ⟨_, rfl, q⟩⟩
  show wpAny (model prog w) A (richCompare .NotEq (.ref x) b) Q E s
  unfold richCompare
  simp only [oneThing_ref]
  refine wpAny_holding (wpAny_bind (wpAny_cRoomFor (Nat.lt_of_succ_lt hu) ?_))
  rw [cmpInfo_NotEq]
  dsimp only
  refine wpAny_bind (I.type.here (wpAny_bind (hb.here ?_)))
  split
  · rename_i q
    have e : PySem.W.subIn K tb (.ref C) = some false := by
      rcases Bool.or_eq_true_iff.mp hn with e | e
      · rw [beq_iff_eq.mp e] at q; simp at q
      · exact beq_iff_eq.mp e
    refine wpAny_bind ((PySem.W.looks_subIn X e).here ?_)
    simp only [Bool.false_eq_true, if_false]
    refine wpAny_bind (wpAny_mono one (fun r s' z => ?_) fun _ _ e => e)
    obtain ⟨v, rfl, hq⟩ := z
    exact wpAny_pure hq
  · refine wpAny_bind (wpAny_pure ?_)
    simp only [Bool.false_eq_true, if_false]
    refine wpAny_bind (wpAny_mono one (fun r s' z => ?_) fun _ _ e => e)
    obtain ⟨v, rfl, hq⟩ := z
    exact wpAny_pure hq
end
section
variable {X : Cx} {CX : CXT} {C g : Addr} {n : Nat} {sp : Sp} {E : XK}
def rNeOwn (K : PySem.W.Frag) (C : Addr) (sp : Sp) (E : XK) : R2 := fun x y H Q => ∃ a dx vs b C' dy ws, x = .ref a ∧ y = .ref b ∧ Slt H a C dx vs ∧ Slt H b C' dy ws ∧ PySem.W.notFirst K C (.ref C') = true ∧ sp [x, y] H (fun z H' => ∃ k, z = .bl k ∧ Q (.bl (!k)) H') E
theorem op_neOwn (hm : PySem.W.mroIn X.K C (.type "object") = some true) (hne : PySem.W.findIn X.K (.ref C) "__ne__" = some (some (.builtin "object.__ne__"))) (hs : PySem.W.findIn X.K (.ref C) "__eq__" = some (some (.ref g))) (hf : PySem.W.isFn X.K (.ref g) = true)
    (F : FnR X.prog X.w X.K X.mg X.base CX n g sp) (hr : Room (n + 1) X.A) (hx : Passes CX X E) : OpR X (compareOp .NotEq) (rNeOwn X.K C sp E) := by
  intro pins s σ H x y v u Q I rx ry h
  obtain ⟨a, dx, vs, b, C', dy, ws, rfl, rfl, ha, hb, hn, q⟩ := h
  cases (show v = Value.ref a from rx)
  cases (show u = Value.ref b from ry)
  obtain ⟨sl, od, _, J, _⟩ := slt_inst I ha
  obtain ⟨sl', od', _, J', _⟩ := slt_inst I hb
  obtain ⟨m, hF⟩ := I.fr
  have hr2 : Room n X.A.in1 := Room.in1 hr
  refine ne_own (tb := .ref C') (Nat.lt_of_le_of_lt (Nat.add_le_add_left (by decide : 1 ≤ 64) _) hr.units) hr2.units0 hF I.ok.mod.kin J J'.type hn hm hne hs hf ?_
  refine wpAny_mono (wpAny_call (run_at (us := [.ref a, .ref b]) (ws := [.ref a, .ref b]) F hr2 I.env0.in1 hx I (.cons rfl (.cons rfl .nil)) q)) (fun w s' z => ?_) fun _ _ x => x
  obtain ⟨z', H', I', rz, k, ek, qz⟩ := z
  subst ek
  cases (show w = Value.bool k from rz)
  exact ⟨k, rfl, .bl (!k), H', I', rfl, qz⟩
/-- len(x), x of a class with its own __len__ -/
def rLenOwn (C : Addr) (sp : Sp) (E : XK) : List V → Hp → VK → Prop := fun xs H Q => ∃ a dx vs, xs = [V.ref a] ∧ Slt H a C dx vs ∧ sp [.ref a] H (fun z H' => ∃ i, z = .int i ∧ (0 ≤ i ∧ i < 2 ^ 63) ∧ Q z H') E
theorem call_lenOwn (hs : PySem.W.findIn X.K (.ref C) "__len__" = some (some (.ref g))) (hf : PySem.W.isFn X.K (.ref g) = true) (F : FnR X.prog X.w X.K X.mg X.base CX n g sp) (hr : Room (n + 1) X.A) (hx : Passes CX X E) : CallR X (.builtin "len") (rLenOwn C sp E) := by
  intro pins s σ H xs us Q I r h
  obtain ⟨a, dx, vs, rfl, hsl, q⟩ := h
  obtain ⟨u, rfl, ru⟩ := r.one
  cases (show u = Value.ref a from ru)
  obtain ⟨sl, od, _, J, _⟩ := slt_inst I hsl
  obtain ⟨m, hF⟩ := I.fr
  have hr2 : Room n X.A.in1 := Room.in1 hr
  refine PySem.W.len_K hF I.ok.mod.kin J hs hf (wpAny_mono (wpAny_call (run_at (us := [.ref a]) (ws := [.ref a]) F hr2 I.env0.in1 hx I (.cons rfl .nil) q)) (fun w s' z => ?_) fun _ _ x => x)
  obtain ⟨z', H', I', rz, i, ei, hb, qz⟩ := z
  subst ei
  obtain ⟨t, e⟩ := (show ∃ t, w = Value.int i t from rz)
  cases e
  exact ⟨hb, .int i, H', I'.tok _, ⟨_, rfl⟩, qz⟩
/-- v in x, v not in x: x of a class with its own __contains__ -/
def rInOwn (C : Addr) (neg : Bool) (sp : Sp) (E : XK) : R2 := fun y x H Q => ∃ a dx vs, x = V.ref a ∧ Slt H a C dx vs ∧ sp [.ref a, y] H (fun z H' => ∃ k, z = .bl k ∧ Q (.bl (if neg then !k else k)) H') E
theorem op_inOwn (hs : PySem.W.findIn X.K (.ref C) "__contains__" = some (some (.ref g))) (hf : PySem.W.isFn X.K (.ref g) = true) (F : FnR X.prog X.w X.K X.mg X.base CX n g sp) (hr : Room n X.A) (hx : Passes CX X E) : OpR X (compareOp .In) (rInOwn C false sp E) := by
  intro pins s σ H y x u v Q I ry rx h
  obtain ⟨a, dx, vs, rfl, hsl, q⟩ := h
  cases (show v = Value.ref a from rx)
  obtain ⟨sl, od, _, J, _⟩ := slt_inst I hsl
  obtain ⟨m, hF⟩ := I.fr
  refine PySem.W.in_K hF I.ok.mod.kin J hs hf (wpAny_mono (wpAny_call (run_fnR (us := [.ref a, u]) (vs := [.ref a, y]) F hr hx I (.cons rfl (.cons ry .nil)) q)) (fun w s' z => ?_) fun _ _ x => x)
  obtain ⟨z', H', I', rz, k, ek, qz⟩ := z
  subst ek
  cases (show w = Value.bool k from rz)
  exact wpAny_truthy_bool ⟨.bl _, H', I', rfl, qz⟩
theorem op_notInOwn (hs : PySem.W.findIn X.K (.ref C) "__contains__" = some (some (.ref g))) (hf : PySem.W.isFn X.K (.ref g) = true) (F : FnR X.prog X.w X.K X.mg X.base CX n g sp) (hr : Room n X.A) (hx : Passes CX X E) : OpR X (compareOp .NotIn) (rInOwn C true sp E) := by
  intro pins s σ H y x u v Q I ry rx h
  obtain ⟨a, dx, vs, rfl, hsl, q⟩ := h
  cases (show v = Value.ref a from rx)
  obtain ⟨sl, od, _, J, _⟩ := slt_inst I hsl
  obtain ⟨m, hF⟩ := I.fr
  refine PySem.W.notIn_K hF I.ok.mod.kin J hs hf (wpAny_mono (wpAny_call (run_fnR (us := [.ref a, u]) (vs := [.ref a, y]) F hr hx I (.cons rfl (.cons ry .nil)) q)) (fun w s' z => ?_) fun _ _ x => x)
  obtain ⟨z', H', I', rz, k, ek, qz⟩ := z
  subst ek
  cases (show w = Value.bool k from rz)
  exact wpAny_truthy_bool ⟨.bl _, H', I', rfl, qz⟩
/-- x + y, both of a class with its own __add__ -/
def rAddOwn (C : Addr) (sp : Sp) (E : XK) : R2 := fun x y H Q => ∃ a dx vs b dy ws, x = V.ref a ∧ y = V.ref b ∧ Slt H a C dx vs ∧ Slt H b C dy ws ∧ sp [x, y] H Q E
theorem op_addOwn (hc : PySem.W.selfFirst X.K C = true) (hs : PySem.W.findIn X.K (.ref C) "__add__" = some (some (.ref g))) (hf : PySem.W.isFn X.K (.ref g) = true) (F : FnR X.prog X.w X.K X.mg X.base CX n g sp) (hr : Room n X.A) (hx : Passes CX X E) :
    OpR X (binaryOp .Add) (rAddOwn C sp E) := by
  intro pins s σ H x y v u Q I rx ry h
  obtain ⟨a, dx, vs, b, dy, ws, rfl, rfl, ha, hb, q⟩ := h
  cases (show v = Value.ref a from rx)
  cases (show u = Value.ref b from ry)
  obtain ⟨sl, od, _, J, _⟩ := slt_inst I ha
  obtain ⟨sl', od', _, J', _⟩ := slt_inst I hb
  obtain ⟨m, hF⟩ := I.fr
  refine PySem.W.binop_K (op := .Add) hF I.ok.mod.kin J J'.type hc hs hf ?_
  refine wpAny_mono (wpAny_call (run_fnR (us := [.ref a, .ref b]) (vs := [.ref a, .ref b]) F hr hx I (.cons rfl (.cons rfl .nil)) q)) (fun w s' z => ?_) fun _ _ x => x
  obtain ⟨z', H', I', rz, qz⟩ := z
  exact cmpback rz ⟨z', H', I', rz, qz⟩
end
end Dl
set_option Elab.async false
set_option linter.all false
set_option maxRecDepth 100000
set_option maxHeartbeats 2000000
namespace Dl
open PySem PySem.Spec PyProof.Rows L2 SlX
/-! ### isinstance -/
section
variable {K : PySem.W.Frag} {δ : Option Addr} {H0 : Hp} {ρ : List Sl} {te : TE}
theorem ed_isiI {i : Int} {T : String} {b : Bool} (h : ED K δ H0 te ρ (.py (.int i))) (e : kitB "int" T = some b) : ED K δ H0 (tCB (rIsi K) (tCons te (tCons (tC (.ty T)) tNil))) ρ (.py (.bool b)) := fun σ F H re w Q q =>
  h σ F H re w _ fun v F1 H1 s1 r => ⟨v, .ty T, .type "int", .type T, b, rfl, .ty T, by rw [rep_int r]; exact .base (.int i), kit_ty e, q _ F1 H1 s1 (.py (.bl _))⟩
theorem ed_isiT {xs : List PyData} {T : String} {b : Bool} (h : ED K δ H0 te ρ (.py (.tuple xs))) (e : kitB "tuple" T = some b) : ED K δ H0 (tCB (rIsi K) (tCons te (tCons (tC (.ty T)) tNil))) ρ (.py (.bool b)) := fun σ F H re w Q q =>
  h σ F H re w _ fun v F1 H1 s1 r => by
    obtain ⟨a, vs, ev, sq, dp⟩ := rep_tup r
    refine ⟨v, .ty T, .type "tuple", .type T, b, rfl, .ty T, ?_, kit_ty e, q _ F1 H1 s1 (.py (.bl _))⟩
    rw [ev]
    rcases (w.step s1).fh.sqt sq with (z | ⟨o, z⟩) | ⟨o, its, n, hk, hc, _⟩
    · exact .base (.tup z)
    · exact .fTuple z
    · exact .kTuple hk hc
end
/-! ### the text -/
def tp (i : Nat) : Stmt := PySem.Challenge.pw_slantways_k63_whole_rooms_by_rows_and_fa.main.body.getD i (.Pass ⟨0, 0, 0, 0⟩)
def primesD : List (Int × PyData) := [(2, .int 2), (3, .int 3), (4, .int 2), (5, .int 5), (7, .int 7), (8, .int 2), (9, .int 3)]
def carriesD : List (Int × PyData) := [(4, .tuple [.int 1, .int 1]), (8, .tuple [.int 1, .int 1, .int 0]), (9, .tuple [.int 2, .int 0])]
def sizesD : PyData := .tuple [.int 2, .int 3, .int 4, .int 5, .int 7, .int 8, .int 9]
structure Tx (K : PySem.W.Frag) (mg : Str → Option Value) : Prop where
  isinstance_ : mg "isinstance" = none
  len_ : mg "len" = none
  range_ : mg "range" = none
  zip_ : mg "zip" = none
  enumerate_ : mg "enumerate" = none
  tuple_ : mg "tuple" = none
  list_ : mg "list" = none
  int_ : mg "int" = none
  bool_ : mg "bool" = none
  all_ : mg "all" = none
  any_ : mg "any" = none
  sorted_ : mg "sorted" = none
  abs_ : mg "abs" = none
  max_ : mg "max" = none
  min_ : mg "min" = none
  repr_ : mg "repr" = none
  GREATEST : GDat K mg "GREATEST" (.int (10 ^ 60))
  MAX_SIDE : GDat K mg "MAX_SIDE" (.int 60)
  MAX_LENGTH : GDat K mg "MAX_LENGTH" (.int 60)
  MAX_ROWS : GDat K mg "MAX_ROWS" (.int 60)
  MAX_WIDTH : GDat K mg "MAX_WIDTH" (.int 24)
  SIZES : GDat K mg "SIZES" sizesD
  PRIMES : GDic K mg "PRIMES" primesD
  CARRIES : GDic K mg "CARRIES" carriesD
theorem pe_ty {X : Cx} {x : Str} {n : String} {pos : Pos} (hg : Gl X x) (hm : X.mg x = none) (hv : bootBuiltins x = some (.type n)) (hn : x ≠ "__name__" := by decide) (hd : (x == ("__debug__" : Str)) = false := by decide) : PE X (.Name x pos) (tC (.ty n)) := pe_bltn hg hm hv rfl hn hd
/-! ### ints, tests -/
abbrev I (i : Int) : D := .py (.int i)
abbrev Bo (b : Bool) : D := .py (.bool b)
end Dl
set_option Elab.async false
set_option linter.all false
set_option maxRecDepth 100000
set_option maxHeartbeats 2000000
namespace Dl
open PySem PySem.Spec PyProof.Rows L2 SlX
/-! ### objects with slots, by data -/
section
variable {K : PySem.W.Frag} {δ : Option Addr} {F0 H0 : Hp} {ρ : List Sl} {te ta tb tv : TE} {d x y : D} {P : D → Prop} {E : En}
theorem rep_obj {F : Hp} {v : V} {C : Addr} {ds : List D} (h : Rep K δ F v (.obj C ds)) : ∃ a dx vs, v = .ref a ∧ Slt F a C dx vs ∧ (∀ (i : Nat) (d : D), ds[i]? = some d → ∃ v : V, vs[i]? = some (some v)) ∧ ∀ (i : Nat) (v : V) (d : D), vs[i]? = some (some v) → ds[i]? = some d → Rep K δ F v d := by
  cases h with
  | obj h1 h2 h3 => exact ⟨_, _, _, rfl, h1, h2, h3⟩
theorem ed_sl {C p : Addr} {ds : List D} {f : Str} {i : Nat} (h : ED K δ H0 te ρ (.obj C ds)) (c : SCls K C) (t : Slot1 K C f p i) (e : ds[i]? = some d) : ED K δ H0 (tSl K te f) ρ d := fun σ F H re w Q q =>
  h σ F H re w _ fun v F1 H1 s1 r => by
    obtain ⟨a, dx, vs, rfl, hs, h1, h2⟩ := rep_obj r
    obtain ⟨v, hv⟩ := h1 i d e
    exact ⟨a, C, dx, p, vs, i, v, rfl, (w.step s1).fh.slt hs, c, t, hv, q v F1 H1 s1 (h2 i v d hv e)⟩
theorem ed_slM {C : Addr × Addr} {p : Addr} {ds : List (Option D)} {f : Str} {i j : Nat} (h : ρ[j]? = some (.mk C ds)) (c : SCls K C.1) (t : Slot1 K C.1 f p i) (e : ds[i]? = some (some d)) : ED K δ H0 (tSl K (tVar j) f) ρ d := fun σ F H re w Q q => by
  obtain ⟨dx, vs, u, es, sl, _, _, _, _, _, g⟩ := re.mo j C ds h
  obtain ⟨v, hv, rv⟩ := g i d e
  exact ⟨_, es, C.2, C.1, dx, p, vs, i, v, rfl, sl, c, t, hv, q v F H w.refl rv⟩
theorem RepE.slot {F H : Hp} {σ : L2.St} {C a : Addr} {ds : List (Option D)} {i j : Nat} {y : V} (re : RepE K δ H0 F H σ ρ) (w : Wd δ F0 H0) (s : Stp δ F0 H0 F H) (h : ρ[i]? = some (.mk (C, a) ds)) (hj : j < ds.length) (ry : Rep K δ F y d) :
    ∃ dx vs, σ[i]? = some (some (.ref a)) ∧ Slt H a C dx vs ∧ RepE K δ H0 F (slH H a C dx (putS j y vs)) σ (ρ.set i (.mk (C, a) (ds.set j (some d)))) ∧ Stp δ F0 H0 F (slH H a C dx (putS j y vs)) := by
  obtain ⟨dx, vs, u, es, sl, ne, hu, nl, ⟨f1, f2, f3, f4, f5, f6⟩, g0, g⟩ := re.mo i (C, a) ds h
  obtain ⟨ua, ha, nla⟩ := slt_ext sl
  have hl := (List.getElem?_eq_some_iff.mp h).1
  have hne : ∀ b, b ≠ a → b ≠ dx → slH H a C dx (putS j y vs) b = H b := fun b h1 h2 => slH_ne h1 h2
  refine ⟨dx, vs, es, sl, ⟨by rw [List.length_set]; exact re.len, fun k d' q => ?_, fun k xs q => ?_, fun k l xs ys b q1 q2 s1 s2 => ?_, fun k C' ds' q => ?_, fun k l C1 C2 d1 d2 q1 q2 => ?_⟩, ⟨s.ff, fun b o q => ?_, fun b o q => ?_, fun b o q n => ?_, fun b n => ?_⟩⟩
  · by_cases ek : i = k
    · subst ek
      rw [List.getElem?_set_self hl] at q
      cases q
    · rw [List.getElem?_set_ne ek] at q
      exact re.fz k d' q
  · by_cases ek : i = k
    · subst ek
      rw [List.getElem?_set_self hl] at q
      cases q
    · rw [List.getElem?_set_ne ek] at q
      obtain ⟨b, us, e', hb, hfb, h0b, hdb, dpb⟩ := re.ow k xs q
      refine ⟨b, us, e', ?_, hfb, h0b, hdb, dpb⟩
      rw [hne b (fun z => ?_) (fun z => ?_)]
      · exact hb
      · subst z; rw [ha] at hb; cases hb; exact nla _ rfl
      · subst z; rw [hu] at hb; cases hb; exact nl _ rfl
  · have get : ∀ (k : Nat) (ys : List PyData), (ρ.set i (.mk (C, a) (ds.set j (some d))))[k]? = some (.ow ys) → ρ[k]? = some (.ow ys) := fun k ys q => by
      by_cases ej : i = k
      · subst ej; rw [List.getElem?_set_self hl] at q; cases q
      · rwa [List.getElem?_set_ne ej] at q
    exact re.ap k l xs ys b (get k xs q1) (get l ys q2) s1 s2
  · by_cases ek : i = k
    · subst ek
      rw [List.getElem?_set_self hl] at q
      cases q
      refine ⟨dx, putS j y vs, .xd [], es, slH_slt ne, ne, by unfold slH; rw [upd_ne ne, upd_same], fun _ z => (nomatch z), ⟨f1, f2, f3, f4, f5, f6⟩, fun k v q => ?_, fun k d' q => ?_⟩
      · by_cases e : k = j
        · subst e; exact ⟨d, List.getElem?_set_self hj⟩
        · obtain ⟨d', hd⟩ := g0 k v ((putS_ne e).mp q)
          exact ⟨d', by rw [List.getElem?_set_ne (fun z => e z.symm)]; exact hd⟩
      · by_cases e : k = j
        · subst e
          rw [List.getElem?_set_self hj] at q
          cases q
          exact ⟨y, putS_get k y vs, ry⟩
        · rw [List.getElem?_set_ne (fun z => e z.symm)] at q
          obtain ⟨v, hv, rv⟩ := g k d' q
          exact ⟨v, (putS_ne e).mpr hv, rv⟩
    · rw [List.getElem?_set_ne ek] at q
      exact absurd (re.mu i k (C, a) C' ds ds' h q) ek
  · have get : ∀ (k : Nat) (C' : Addr × Addr) (es : List (Option D)), (ρ.set i (.mk (C, a) (ds.set j (some d))))[k]? = some (.mk C' es) → i = k := fun k C' es q => by
      by_cases ej : i = k
      · exact ej
      · rw [List.getElem?_set_ne ej] at q; exact re.mu i k (C, a) C' ds es h q
    rw [← get k _ _ q1, ← get l _ _ q2]
  · have e1 : b ≠ a := fun z => by subst z; rw [f1] at q; cases q
    have e2 : b ≠ dx := fun z => by subst z; rw [f2] at q; cases q
    rw [hne b e1 e2]; exact s.fh b o q
  · exact s.new b o q
  · have e1 : b ≠ a := fun z => by subst z; rw [f3] at q; cases q
    have e2 : b ≠ dx := fun z => by subst z; rw [f4] at q; cases q
    rw [hne b e1 e2]; exact s.keep b o q n
  · obtain ⟨z1, z2, z3, z4⟩ := s.dc b n
    exact ⟨z1, z2, z3, by rw [hne b (fun z => f5 (z ▸ n)) (fun z => f6 (z ▸ n))]; exact z4⟩
/-- self.f = value, in __init__ -/
theorem sd_sl {C a p : Addr} {ds : List (Option D)} {f : Str} {i j : Nat} (hv : EP K δ H0 tv ρ P) (h : ρ[i]? = some (.mk (C, a) ds)) (c : SCls K C) (t : Slot1 K C f p j) (hj : j < ds.length) (k : ∀ d, P d → E.N (ρ.set i (.mk (C, a) (ds.set j (some d))))) : SD K δ F0 H0 (sSl K (tVar i) tv f) ρ E := fun σ F H Dn re w s q =>
  hv σ F H re (w.step s) _ fun v F1 H1 s1 ⟨d, p1, r⟩ => by
    obtain ⟨dx, vs, es, sl, re2, st2⟩ := (re.step s1).slot w (s.trans w s1) h hj r
    exact ⟨_, es, a, C, dx, p, vs, j, rfl, sl, c, t, q.nx _ _ (at_of (k d p1) re2 w st2 s1.ff)⟩
theorem sd_slD {C a p : Addr} {ds : List (Option D)} {f : Str} {i j : Nat} (hv : ED K δ H0 tv ρ d) (h : ρ[i]? = some (.mk (C, a) ds)) (c : SCls K C) (t : Slot1 K C f p j) (hj : j < ds.length) (k : E.N (ρ.set i (.mk (C, a) (ds.set j (some d))))) : SD K δ F0 H0 (sSl K (tVar i) tv f) ρ E :=
  sd_sl (hv.ep (P := fun z => z = d) rfl) h c t hj fun _ e => by rw [e]; exact k
/-! ### making -/
def spI (K : PySem.W.Frag) (C : Addr) (c : Con) : Sp := fun vs H Q _ => ∃ (δ : Option Addr) (F H1 : Hp) (a : c.α) (o dx : Addr) (ws : List V), vs = .ref o :: ws ∧ H = upd (upd H1 dx (.own o)) o (.ins C dx []) ∧ H1 o = none ∧ H1 dx = none ∧ dx ≠ o ∧ c.ok a ∧ Reps K δ F ws (c.args a) ∧ Wd δ F H1 ∧
  ∀ ds F' H', c.R a (.obj C ds) → Rep K δ F' (.ref o) (.obj C ds) → Stp δ F H1 F' H' → Q .non H'
theorem ep_make {C : Addr} {c : Con} {E : XK} {t : TA} {Ps : List D → Prop} (ha : AP K δ H0 t ρ Ps) (hp : ∀ ds, Ps ds → ∃ a, c.ok a ∧ c.args a = ds ∧ ∀ es, c.R a (.obj C es) → P (.obj C es)) : EP K δ H0 (tMake C (spI K C c) [] E t) ρ P := fun σ F H re w Q q =>
  ha σ F H re w _ fun vs ds F1 H1 s1 p r o dx ho hd ne => by
    obtain ⟨a, ok, e, k⟩ := hp ds p
    exact ⟨δ, F1, H1, a, o, dx, vs, by rw [List.append_nil], rfl, ho, hd, ne, ok, by rw [e]; exact r, w.step s1, fun es F2 H2 po rv s2 => ⟨rfl, q _ F2 H2 (s1.trans w s2) ⟨_, k es po, rv⟩⟩⟩
theorem ed_make {C : Addr} {c : Con} {E : XK} {t : TA} {es : List D} (a : c.α) (ha : AD K δ H0 t ρ (c.args a)) (hp : c.ok a) (hq : ∀ zs, c.R a (.obj C zs) → zs = es) : ED K δ H0 (tMake C (spI K C c) [] E t) ρ (.obj C es) :=
  EP.ed (ep_make ha fun ds e => ⟨a, hp, e.symm, fun zs h => by rw [hq zs h]⟩)
theorem init_run {t : TS} {N : List Str} {vs : List V} {H : Hp} {Q : VK} {E : XK} {C : Addr} {n : Nat} {c : Con} (h : spI K C c vs H Q E)
    (k : ∀ (δ : Option Addr) (F0 H0 : Hp) (o : Addr) (a : c.α), c.ok a → SD K δ F0 H0 t (.mk (C, o) (List.replicate n none) :: ((c.args a).map .fz ++ List.replicate (N.length - ((c.args a).length + 1)) .no)) { N := fun ρ' => ∃ ds, ρ'[0]? = some (.mk (C, o) (ds.map some)) ∧ c.R a (.obj C ds), R := fun _ => False }) :
    t { nx := fun _ H' => Q .non H', rt := Q } (L2.start N vs) H := by
  obtain ⟨δ, F, H1, a, o, dx, ws, rfl, rfl, ho, hd, ne, ok, r, w, q⟩ := h
  have hl := reps_len r
  have fo : F o = none := w.nn ho
  have fd : F dx = none := w.nn hd
  have no : ∀ b, b ≠ o → b ≠ dx → (upd (upd H1 dx (.own o)) o (.ins C dx [])) b = H1 b := fun b h1 h2 => by rw [upd_ne h1, upd_ne h2]
  have neF : ∀ b u, F b = some u → b ≠ o ∧ b ≠ dx := fun b u z => ⟨fun e => (by rw [e, fo] at z; cases z), fun e => (by rw [e, fd] at z; cases z)⟩
  have neH : ∀ b u, H1 b = some u → b ≠ o ∧ b ≠ dx := fun b u z => ⟨fun e => (by rw [e, ho] at z; cases z), fun e => (by rw [e, hd] at z; cases z)⟩
  have st : Stp δ F H1 F (upd (upd H1 dx (.own o)) o (.ins C dx [])) := by
    refine ⟨Ex.refl F, fun b u z => ?_, fun b u z => .inl z, fun b u z _ => ?_, fun b e => ?_⟩
    · rw [no b (neF b u z).1 (neF b u z).2]; exact w.fh b u z
    · rw [no b (neH b u z).1 (neH b u z).2]; exact z
    · obtain ⟨x, y, z, e2⟩ := w.dc b e
      exact ⟨x, y, z, by rw [no b (neH b _ e2).1 (neH b _ e2).2]; exact e2⟩
  have tail : ∀ (i : Nat) (x : Sl), ((c.args a).map Sl.fz ++ List.replicate (N.length - ((c.args a).length + 1)) Sl.no)[i]? = some x → (∃ d, x = .fz d) ∨ x = .no := fun i x z => by
    rcases List.mem_append.mp (List.mem_of_getElem? z) with z | z
    · obtain ⟨d, _, e⟩ := List.mem_map.mp z
      exact .inl ⟨d, e.symm⟩
    · exact .inr (List.mem_replicate.mp z).2
  refine k δ F H1 o a ok (L2.start N (V.ref o :: ws)) F _ _ ?_ w st ⟨fun σ' H' ⟨F', ρ', po, re, s, w', _⟩ => ?_, fun v d F' H' po _ _ _ => po.elim, fun σ' H' ⟨_, _, z, _⟩ => z.elim, fun σ' H' ⟨_, _, z, _⟩ => z.elim⟩
  · have r0 := repE_start (K := K) (δ := δ) (H0 := upd (upd H1 dx (.own o)) o (.ins C dx [])) (N.length - (ws.length + 1)) r
    have es : L2.start N (V.ref o :: ws) = some (V.ref o) :: (ws.map some ++ List.replicate (N.length - (ws.length + 1)) none) := rfl
    rw [es, hl]
    rw [hl] at r0
    refine ⟨by rw [List.length_cons, List.length_cons, r0.len], fun i d q => ?_, fun i xs q => ?_, fun i j xs ys b q1 q2 s1 s2 => ?_, fun i C' ds q => ?_, fun i j C1 C2 d1 d2 q1 q2 => ?_⟩
    · cases i with
      | zero => cases q
      | succ i => exact r0.fz i d q
    · cases i with
      | zero => cases q
      | succ i => rcases tail i _ q with ⟨_, e⟩ | e <;> cases e
    · cases i with
      | zero => cases q1
      | succ i => rcases tail i _ q1 with ⟨_, e⟩ | e <;> cases e
    · cases i with
      | zero =>
        cases q
        refine ⟨dx, [], .own o, rfl, .inl ⟨upd_same, rfl⟩, ne, by rw [upd_ne ne, upd_same], fun _ z => (nomatch z), ⟨fo, fd, ho, hd, w.nd ho, w.nd hd⟩, fun j v q => by simp at q, fun j d q => ?_⟩
        rw [List.getElem?_replicate] at q
        split at q <;> cases q
      | succ i => rcases tail i _ q with ⟨_, e⟩ | e <;> cases e
    · have z : ∀ (i : Nat) (C' : Addr × Addr) (es : List (Option D)), (Sl.mk (C, o) (List.replicate n none) :: ((c.args a).map Sl.fz ++ List.replicate (N.length - ((c.args a).length + 1)) .no))[i]? = some (.mk C' es) → i = 0 := fun i C' es q => by
        cases i with
        | zero => rfl
        | succ i => rcases tail i _ q with ⟨_, e⟩ | e <;> cases e
      rw [z i _ _ q1, z j _ _ q2]
  · obtain ⟨ds, h0, hR⟩ := po
    obtain ⟨dy, vs, u, es, sl, ny, hu, nl, ⟨f1, f2, f3, f4, f5, f6⟩, g0, g⟩ := re.mo 0 (C, o) _ h0
    obtain ⟨ua, hua, nla⟩ := slt_ext sl
    have hua' : H' o = some ua := hua
    have ny' : dy ≠ o := ny
    have f1' : F' o = none := f1
    have f3' : H1 o = none := f3
    have ex : Ex F' (upd (upd F' dy u) o ua) := fun b x z => by
      rw [upd_ne (fun e => by rw [e, f1'] at z; cases z), upd_ne (fun e => by rw [e, f2] at z; cases z)]; exact z
    refine q ds (upd (upd F' dy u) o ua) H' hR (.obj (dx := dy) (vs := vs) ?_ (fun i d z => ?_) (fun i v d z1 z2 => ?_)) ⟨s.ff.trans ex, fun b x z => ?_, fun b x z => ?_, s.keep, s.dc⟩
    · rcases sl with ⟨z1, z2⟩ | ⟨z1, z2⟩
      · have : ua = .ins C dy [] := Option.some.inj (hua.symm.trans z1)
        exact .inl ⟨by rw [upd_same, this], z2⟩
      · have e1 : ua = SlO o C dy vs := Option.some.inj (hua.symm.trans z1)
        have e2 : u = .xd [] := Option.some.inj (hu.symm.trans z2)
        exact .inr ⟨by rw [upd_same, e1], by rw [upd_ne ny', upd_same, e2]⟩
    · obtain ⟨v, hv, _⟩ := g i d (by rw [List.getElem?_map, z]; rfl)
      exact ⟨v, hv⟩
    · obtain ⟨v', hv, rv⟩ := g i d (by rw [List.getElem?_map, z2]; rfl)
      rw [z1] at hv
      cases hv
      exact rv.mono ex
    · by_cases e : b = o
      · subst e; rw [upd_same] at z; rw [hua']; exact z
      · by_cases e2 : b = dy
        · subst e2; rw [upd_ne e, upd_same] at z; rw [hu]; exact z
        · rw [upd_ne e, upd_ne e2] at z; exact s.fh b x z
    · by_cases e : b = o
      · subst e; exact .inr f3'
      · by_cases e2 : b = dy
        · subst e2; exact .inr f4
        · rw [upd_ne e, upd_ne e2] at z; exact s.new b x z
end
end Dl
set_option Elab.async false
set_option linter.all false
set_option maxRecDepth 100000
set_option maxHeartbeats 2000000
namespace Dl
open PySem PySem.Spec PyProof.Rows L2 SlX
/-! ### classes, methods, properties by contracts -/
section
variable {P : Program} {w : World} {K : PySem.W.Frag} {mg : Str → Option Value} {base : Heap}
structure CLS (K : PySem.W.Frag) (mg : Str → Option Value) (x : Str) : Prop where
  mg_ : mg x = some (.ref (He.ga K x))
  sc : SCls K (He.ga K x)
  si : SIsi K (He.ga K x)
/-- the slot f of the class x stands at i -/
def Sf (K : PySem.W.Frag) (x f : Str) (i : Nat) : Prop := ∃ p, Slot1 K (He.ga K x) f p i
/-- a method of the class x keeps a contract -/
structure MO (P : Program) (w : World) (K : PySem.W.Frag) (mg : Str → Option Value) (base : Heap) (k : Nat) (x m : Str) (C : Con) : Prop where
  ex : ∃ g, Meth K (He.ga K x) m g ∧ FnR P w K mg base CX0 k g (spD K C)
theorem MO.mono {j k : Nat} {x m : Str} {C : Con} (h : MO P w K mg base j x m C) (e : j ≤ k) : MO P w K mg base k x m C :=
  let ⟨g, a, b⟩ := h.ex; ⟨g, a, b.mono e⟩
/-- a property of the class x keeps a contract -/
structure PO (P : Program) (w : World) (K : PySem.W.Frag) (mg : Str → Option Value) (base : Heap) (k : Nat) (x f : Str) (C : Con) : Prop where
  ex : ∃ p g, PySem.W.findIn K (.ref (He.ga K x)) f = some (some (.ref p)) ∧ PySem.W.specialIn K (.ref p) "__get__" = some (some (.builtin "property.__get__")) ∧ PySem.W.takesIn K (.ref p) = some true ∧ (∃ rest, PySem.W.recIn K p "property" = some (.ref g :: rest)) ∧ FnR P w K mg base CX0 k g (spD K C)
theorem PO.mono {j k : Nat} {x m : Str} {C : Con} (h : PO P w K mg base j x m C) (e : j ≤ k) : PO P w K mg base k x m C :=
  let ⟨p, g, a, b, c, d, f⟩ := h.ex; ⟨p, g, a, b, c, d, f.mono e⟩
/-- the class x makes objects by a contract -/
structure CO (P : Program) (w : World) (K : PySem.W.Frag) (mg : Str → Option Value) (base : Heap) (k : Nat) (x : Str) (C : Con) : Prop where
  ex : ∃ f fd ps, mg x = some (.ref (He.ga K x)) ∧ Mk K (He.ga K x) f ∧ Binds K fd ps [] ∧ FnOk P w K mg base CX0 k f fd ps (spI K (He.ga K x) C)
theorem CO.mono {j k : Nat} {x : Str} {C : Con} (h : CO P w K mg base j x C) (e : j ≤ k) : CO P w K mg base k x C :=
  let ⟨f, fd, ps, a, b, c, d⟩ := h.ex; ⟨f, fd, ps, a, b, c, d.mono e⟩
/-- what a class has at m as a def: its address, its data -/
structure MD (K : PySem.W.Frag) (x m qual : Str) (st : Stmt) (g : Addr) (fd : FuncData) : Prop where
  mt : Meth K (He.ga K x) m g
  fn : FunD K m qual (defArgs st) (defBody st) (defScope st) [] [] g fd
structure PD (K : PySem.W.Frag) (x m qual : Str) (st : Stmt) (p g : Addr) (fd : FuncData) : Prop where
  at_ : PySem.W.findIn K (.ref (He.ga K x)) m = some (some (.ref p))
  get : PySem.W.specialIn K (.ref p) "__get__" = some (some (.builtin "property.__get__"))
  tk : PySem.W.takesIn K (.ref p) = some true
  rc : ∃ rest, PySem.W.recIn K p "property" = some (.ref g :: rest)
  fn : FunD K m qual (defArgs st) (defBody st) (defScope st) [] [] g fd
theorem fnr_of {k : Nat} {f : Addr} {fd : FuncData} {ps : List Str} {sp : Sp} (F : FnOk P w K mg base CX0 k f fd ps sp) (b : Binds K fd ps []) : FnR P w K mg base CX0 k f sp :=
  (F.raw b .nil).imp fun vs H Q E h => by rw [List.append_nil]; exact h
theorem mo_mk {k : Nat} {x m qual : Str} {st : Stmt} {g : Addr} {fd : FuncData} {N ps : List Str} {C : Con} (F : MD K x m qual st g fd) (S : FnScope N ps (defScope st)) (b : Binds K fd ps [])
    (hp : ∀ a, C.ok a → (C.args a).length = ps.length)
    (hbody : ∀ (cdv : Value) (A : Around) (outer : List Env) (s : Shared) (H : Hp) (E : XK), Room k (A.deeper (envOfC qual (defScope st) s.heap.objs.size g cdv)) →
      ∃ t, PSs (cxOf CX0 P w K mg base N qual (defScope st) g cdv A outer s H E).nox (defBody st) t ∧ ∀ (δ : Option Addr) (F0 : Hp) (a : C.α), C.ok a →
        SD K δ F0 H t ((C.args a).map .fz ++ List.replicate (N.length - (C.args a).length) .no) { N := fun _ => C.R a (.py .none), R := C.R a }) : MO P w K mg base (k + 1) x m C :=
  ⟨g, F.mt, fnr_of (fn_mk F.fn S hp hbody) b⟩
theorem po_mk {k : Nat} {x m qual : Str} {st : Stmt} {p g : Addr} {fd : FuncData} {N ps : List Str} {C : Con} (F : PD K x m qual st p g fd) (S : FnScope N ps (defScope st)) (b : Binds K fd ps [])
    (hp : ∀ a, C.ok a → (C.args a).length = ps.length)
    (hbody : ∀ (cdv : Value) (A : Around) (outer : List Env) (s : Shared) (H : Hp) (E : XK), Room k (A.deeper (envOfC qual (defScope st) s.heap.objs.size g cdv)) →
      ∃ t, PSs (cxOf CX0 P w K mg base N qual (defScope st) g cdv A outer s H E).nox (defBody st) t ∧ ∀ (δ : Option Addr) (F0 : Hp) (a : C.α), C.ok a →
        SD K δ F0 H t ((C.args a).map .fz ++ List.replicate (N.length - (C.args a).length) .no) { N := fun _ => C.R a (.py .none), R := C.R a }) : PO P w K mg base (k + 1) x m C :=
  ⟨p, g, F.at_, F.get, F.tk, F.rc, fnr_of (fn_mk F.fn S hp hbody) b⟩
theorem co_mk {k n : Nat} {x qual : Str} {st : Stmt} {g : Addr} {fd : FuncData} {dvs : List V} {N ps : List Str} {C : Con} (M : Mk K (He.ga K x) g) (hm : mg x = some (.ref (He.ga K x))) (F : FunD K "__init__" qual (defArgs st) (defBody st) (defScope st) dvs [] g fd) (S : FnScope N ps (defScope st)) (b : Binds K fd ps [])
    (hp : ∀ a, C.ok a → (C.args a).length + 1 = ps.length)
    (hbody : ∀ (cdv : Value) (A : Around) (outer : List Env) (s : Shared) (H : Hp) (E : XK), Room k (A.deeper (envOfC qual (defScope st) s.heap.objs.size g cdv)) →
      ∃ t, PSs (cxOf CX0 P w K mg base N qual (defScope st) g cdv A outer s H E).nox (defBody st) t ∧ ∀ (δ : Option Addr) (F0 H0 : Hp) (o : Addr) (a : C.α), C.ok a →
        SD K δ F0 H0 t (.mk (He.ga K x, o) (List.replicate n none) :: ((C.args a).map .fz ++ List.replicate (N.length - ((C.args a).length + 1)) .no)) { N := fun ρ' => ∃ ds, ρ'[0]? = some (.mk (He.ga K x, o) (ds.map some)) ∧ C.R a (.obj (He.ga K x) ds), R := fun _ => False }) : CO P w K mg base (k + 1) x C :=
  ⟨g, fd, ps, hm, M, b, FunD.ok F S (fun vs H Q E ⟨δ, F, H1, a, o, dx, ws, e, _, _, _, _, p, r, _⟩ => by rw [e, List.length_cons, reps_len r]; exact hp a p) fun cdv A outer s H vs Q E hr h => by
    obtain ⟨t, h1, h2⟩ := hbody cdv A outer s H E hr
    exact ⟨t, h1.nox, init_run h h2⟩⟩
end
section
variable {X : Cx} {o e : Expr} {es : List Expr} {t : TA} {ta : TE} {x m f : Str} {p pos apos : Pos} {j k : Nat} {C : Con}
def mAt (K : PySem.W.Frag) (x m : Str) : Addr := He.ma K (He.ga K x) m
theorem pe_co (G : CO X.prog X.w X.K X.mg X.base j x C) (hr : Room k X.A) (hjk : j + 1 ≤ k) (hg : Gl X x) (ha : PA X (e :: es) t) (hdb : (x == ("__debug__" : Str)) = false := by decide)
    (he : starEach (e :: es) X.env = (false, eval e X.env) :: starEach es X.env := by rfl) (hpl : (backTo pos (starEach es X.env)).any (·.1) = false := by rfl) :
    PE X (.Call (.Name x p) (e :: es) [] pos) (tMake (He.ga X.K x) (spI X.K (He.ga X.K x) C) [] E0 t) := by
  obtain ⟨f, fd, ps, a, M, b, F⟩ := G.ex
  exact pe_make M F (hr.mono hjk) hg a b .nil pass0 ha hdb he hpl
theorem pe_mo {pl : Sem Bool} (G : MO X.prog X.w X.K X.mg X.base j x m C) (c : CLS X.K X.mg x) (hr : Room k X.A) (hjk : j ≤ k) (he : PE X o ta) (ha : PA X (e :: es) t)
    (hst : starEach (e :: es) X.env = (false, eval e X.env) :: starEach es X.env := by rfl) (hpl : (backTo pos (starEach es X.env)).any (·.1) = false := by rfl)
    (ht : eval (.Call (.Attribute o m apos) (e :: es) [] pos) X.env = (do
      let ov ← eval o X.env
      standAt apos.atName
      let (f, first) ← holding [ov] (getMethod ov m pl)
      callWith pos f first (backTo pos (starEach (e :: es) X.env)) (backToKw pos (keywordEach [] X.env))) := by rfl) :
    PE X (.Call (.Attribute o m apos) (e :: es) [] pos) (tMethSl (He.ga X.K x) (spD X.K C) E0 ta t) := by
  obtain ⟨g, M, F⟩ := G.ex
  exact pe_methSl he c.sc M F (hr.mono hjk) pass0 ha hst hpl ht
theorem pe_po (G : PO X.prog X.w X.K X.mg X.base j x f C) (c : CLS X.K X.mg x) (hr : Room k X.A) (hjk : j + 1 ≤ k) (he : PE X e ta) (hb : attributeBase e f X.env (eval e X.env) = eval e X.env := by rfl) :
    PE X (.Attribute e f pos) (tPropSl (He.ga X.K x) (spD X.K C) E0 ta) := by
  obtain ⟨p, g, h1, h2, h3, h4, F⟩ := G.ex
  exact pe_propSl he c.sc h1 h2 h3 h4 F (hr.mono hjk) (fun _ _ _ _ h => h.elim) hb
theorem pe_cls {pos : Pos} (c : CLS X.K X.mg x) (hg : Gl X x) (hd : (x == ("__debug__" : Str)) = false := by decide) : PE X (.Name x pos) (tC (.ref (He.ga X.K x))) := pe_glob hg c.mg_ rfl hd
/-- x == y by the own == of the class -/
theorem op_eqO (G : MO X.prog X.w X.K X.mg X.base j x "__eq__" C) (hr : Room k X.A) (hjk : j ≤ k) : OpR X (compareOp .Eq) (rOwn X.K (He.ga X.K x) (spD X.K C) E0) := by
  obtain ⟨g, M, F⟩ := G.ex
  exact op_own (fun _ _ => rfl) M.at_ M.fn F (hr.mono hjk) pass0
theorem op_neO (G : MO X.prog X.w X.K X.mg X.base j x "__eq__" C) (c : CLS X.K X.mg x) (hne : PySem.W.findIn X.K (.ref (He.ga X.K x)) "__ne__" = some (some (.builtin "object.__ne__"))) (hr : Room k X.A) (hjk : j + 1 ≤ k) : OpR X (compareOp .NotEq) (rNeOwn X.K (He.ga X.K x) (spD X.K C) E0) := by
  obtain ⟨g, M, F⟩ := G.ex
  exact op_neOwn c.si.cm hne M.at_ M.fn F (hr.mono hjk) pass0
theorem op_inO (G : MO X.prog X.w X.K X.mg X.base j x "__contains__" C) (hr : Room k X.A) (hjk : j ≤ k) : OpR X (compareOp .In) (rInOwn (He.ga X.K x) false (spD X.K C) E0) := by
  obtain ⟨g, M, F⟩ := G.ex
  exact op_inOwn M.at_ M.fn F (hr.mono hjk) pass0
theorem op_notInO (G : MO X.prog X.w X.K X.mg X.base j x "__contains__" C) (hr : Room k X.A) (hjk : j ≤ k) : OpR X (compareOp .NotIn) (rInOwn (He.ga X.K x) true (spD X.K C) E0) := by
  obtain ⟨g, M, F⟩ := G.ex
  exact op_notInOwn M.at_ M.fn F (hr.mono hjk) pass0
theorem op_addO (G : MO X.prog X.w X.K X.mg X.base j x "__add__" C) (hc : PySem.W.selfFirst X.K (He.ga X.K x) = true) (hr : Room k X.A) (hjk : j ≤ k) : OpR X (binaryOp .Add) (rAddOwn (He.ga X.K x) (spD X.K C) E0) := by
  obtain ⟨g, M, F⟩ := G.ex
  exact op_addOwn hc M.at_ M.fn F (hr.mono hjk) pass0
theorem call_lenO (G : MO X.prog X.w X.K X.mg X.base j x "__len__" C) (hr : Room k X.A) (hjk : j + 1 ≤ k) : CallR X (.builtin "len") (rLenOwn (He.ga X.K x) (spD X.K C) E0) := by
  obtain ⟨g, M, F⟩ := G.ex
  exact call_lenOwn M.at_ M.fn F (hr.mono hjk) pass0
end
section
variable {K : PySem.W.Frag} {δ : Option Addr} {F0 H0 : Hp} {ρ : List Sl} {te ta tb tv : TE} {d x y : D} {P Px : D → Prop} {E : XK} {C : Con} {t : TA} {A : Addr}
/-- calls by sp, the arguments told -/
theorem sp_go {F H : Hp} {vs : List V} (a : C.α) (ok : C.ok a) (r : Reps K δ F vs (C.args a)) (w : Wd δ F H) {Q : VK} (q : ∀ v d F' H', C.R a d → Rep K δ F' v d → Stp δ F H F' H' → Q v H') : spD K C vs H Q E := ⟨δ, F, a, ok, r, w, q⟩
theorem ep_meth {ds : List D} {Ps : List D → Prop} (ho : ED K δ H0 ta ρ (.obj A ds)) (ha : AP K δ H0 t ρ Ps) (hp : ∀ es, Ps es → ∃ a, C.ok a ∧ C.args a = .obj A ds :: es ∧ ∀ d, C.R a d → P d) : EP K δ H0 (tMethSl A (spD K C) E ta t) ρ P := fun σ F H re w Q q =>
  ho σ F H re w _ fun v F1 H1 s1 r => by
    obtain ⟨a, dx, vs, rfl, hs, _⟩ := rep_obj r
    refine ⟨a, dx, vs, rfl, (w.step s1).fh.slt hs, ha σ F1 H1 (re.step s1) (w.step s1) _ fun ws es F2 H2 s2 p r2 => ?_⟩
    obtain ⟨c, ok, e, k⟩ := hp es p
    exact sp_go c ok (by rw [e]; exact .cons (r.mono s2.ff) r2) ((w.step s1).step s2) fun v d F3 H3 po rv s3 => q v F3 H3 ((s1.trans w s2).trans w s3) ⟨d, k d po, rv⟩
theorem ed_meth {ds es : List D} (a : C.α) (ho : ED K δ H0 ta ρ (.obj A ds)) (ha : AD K δ H0 t ρ es) (e : C.args a = .obj A ds :: es) (ok : C.ok a) (hq : ∀ z, C.R a z → z = d) : ED K δ H0 (tMethSl A (spD K C) E ta t) ρ d :=
  EP.ed (ep_meth ho ha fun zs ez => ⟨a, ok, by rw [e, ez], hq⟩)
theorem ep_prop {ds : List D} (a : C.α) (ho : ED K δ H0 ta ρ (.obj A ds)) (e : C.args a = [.obj A ds]) (ok : C.ok a) (hq : ∀ z, C.R a z → P z) : EP K δ H0 (tPropSl A (spD K C) E ta) ρ P := fun σ F H re w Q q =>
  ho σ F H re w _ fun v F1 H1 s1 r => by
    obtain ⟨o, dx, vs, rfl, hs, _⟩ := rep_obj r
    exact ⟨o, dx, vs, rfl, (w.step s1).fh.slt hs, sp_go a ok (by rw [e]; exact .cons r .nil) (w.step s1) fun v d F3 H3 po rv s3 => q v F3 H3 (s1.trans w s3) ⟨d, hq d po, rv⟩⟩
theorem ed_prop {ds : List D} (a : C.α) (ho : ED K δ H0 ta ρ (.obj A ds)) (e : C.args a = [.obj A ds]) (ok : C.ok a) (hq : ∀ z, C.R a z → z = d) : ED K δ H0 (tPropSl A (spD K C) E ta) ρ d := EP.ed (ep_prop a ho e ok hq)
theorem ed_isiO {ds : List D} {B : Addr} {b : Bool} {mg : Str → Option Value} (h : ED K δ H0 te ρ (.obj A ds)) (sc : SCls K A) (si : SIsi K A) (e : PySem.W.kitOne K (.ref A) (.ref B) = some b) : ED K δ H0 (tCB (rIsiSl K (.ref B)) (tCons te (tCons (tC (.ref B)) tNil))) ρ (.py (.bool b)) := fun σ F H re w Q q =>
  h σ F H re w _ fun v F1 H1 s1 r => by
    obtain ⟨o, dx, vs, rfl, hs, _⟩ := rep_obj r
    exact ⟨o, A, dx, vs, .ref B, b, rfl, rfl, fun w hw => hw, (w.step s1).fh.slt hs, sc, si, e, q _ F1 H1 s1 (.py (.bl _))⟩
theorem ed_eqO {ds es : List D} {b : Bool} (a : C.α) (ha : ED K δ H0 ta ρ (.obj A ds)) (hb : ED K δ H0 tb ρ (.obj A es)) (hn : PySem.W.notFirst K A (.ref A) = true) (e : C.args a = [.obj A ds, .obj A es]) (ok : C.ok a) (hq : ∀ z, C.R a z → z = .py (.bool b)) : ED K δ H0 (tOp (rOwn K A (spD K C) E) ta tb) ρ (.py (.bool b)) :=
  ed_op ha hb fun F H v u Q wd r1 r2 q => by
    obtain ⟨o, dx, vs, rfl, hs, _⟩ := rep_obj r1
    obtain ⟨o', dx', vs', rfl, hs', _⟩ := rep_obj r2
    exact ⟨o, dx, vs, o', A, dx', vs', rfl, rfl, wd.fh.slt hs, wd.fh.slt hs', hn, sp_go a ok (by rw [e]; exact .cons r1 (.cons r2 .nil)) wd fun v d F3 H3 po rv s3 => q v F3 H3 s3 (by rw [← hq d po]; exact rv)⟩
theorem ed_neO {ds es : List D} {b : Bool} (a : C.α) (ha : ED K δ H0 ta ρ (.obj A ds)) (hb : ED K δ H0 tb ρ (.obj A es)) (hn : PySem.W.notFirst K A (.ref A) = true) (e : C.args a = [.obj A ds, .obj A es]) (ok : C.ok a) (hq : ∀ z, C.R a z → z = .py (.bool b)) : ED K δ H0 (tOp (rNeOwn K A (spD K C) E) ta tb) ρ (.py (.bool (!b))) :=
  ed_op ha hb fun F H v u Q wd r1 r2 q => by
    obtain ⟨o, dx, vs, rfl, hs, _⟩ := rep_obj r1
    obtain ⟨o', dx', vs', rfl, hs', _⟩ := rep_obj r2
    exact ⟨o, dx, vs, o', A, dx', vs', rfl, rfl, wd.fh.slt hs, wd.fh.slt hs', hn, sp_go a ok (by rw [e]; exact .cons r1 (.cons r2 .nil)) wd fun v d F3 H3 po rv s3 => by
      rw [hq d po] at rv
      exact ⟨b, rep_bool rv, q _ F3 H3 s3 (.py (.bl _))⟩⟩
theorem ed_inO {ds : List D} {b neg : Bool} (a : C.α) (hy : ED K δ H0 ta ρ y) (ho : ED K δ H0 tb ρ (.obj A ds)) (e : C.args a = [.obj A ds, y]) (ok : C.ok a) (hq : ∀ z, C.R a z → z = .py (.bool b)) : ED K δ H0 (tOp (rInOwn A neg (spD K C) E) ta tb) ρ (.py (.bool (if neg then !b else b))) :=
  ed_op hy ho fun F H v u Q wd r1 r2 q => by
    obtain ⟨o, dx, vs, rfl, hs, _⟩ := rep_obj r2
    exact ⟨o, dx, vs, rfl, wd.fh.slt hs, sp_go a ok (by rw [e]; exact .cons r2 (.cons r1 .nil)) wd fun v d F3 H3 po rv s3 => by
      rw [hq d po] at rv
      exact ⟨b, rep_bool rv, q _ F3 H3 s3 (.py (.bl _))⟩⟩
theorem ed_addO {ds es : List D} (a : C.α) (ha : ED K δ H0 ta ρ (.obj A ds)) (hb : ED K δ H0 tb ρ (.obj A es)) (e : C.args a = [.obj A ds, .obj A es]) (ok : C.ok a) (hq : ∀ z, C.R a z → z = d) : ED K δ H0 (tOp (rAddOwn A (spD K C) E) ta tb) ρ d :=
  ed_op ha hb fun F H v u Q wd r1 r2 q => by
    obtain ⟨o, dx, vs, rfl, hs, _⟩ := rep_obj r1
    obtain ⟨o', dx', vs', rfl, hs', _⟩ := rep_obj r2
    exact ⟨o, dx, vs, o', dx', vs', rfl, rfl, wd.fh.slt hs, wd.fh.slt hs', sp_go a ok (by rw [e]; exact .cons r1 (.cons r2 .nil)) wd fun v d' F3 H3 po rv s3 => q v F3 H3 s3 (by rw [← hq d' po]; exact rv)⟩
theorem ed_lenO {ds : List D} {n : Int} (a : C.α) (ho : ED K δ H0 te ρ (.obj A ds)) (hn : 0 ≤ n ∧ n < 2 ^ 63) (e : C.args a = [.obj A ds]) (ok : C.ok a) (hq : ∀ z, C.R a z → z = .py (.int n)) : ED K δ H0 (tCB (rLenOwn A (spD K C) E) (tCons te tNil)) ρ (.py (.int n)) := fun σ F H re w Q q =>
  ho σ F H re w _ fun v F1 H1 s1 r => by
    obtain ⟨o, dx, vs, rfl, hs, _⟩ := rep_obj r
    exact ⟨o, dx, vs, rfl, (w.step s1).fh.slt hs, sp_go a ok (by rw [e]; exact .cons r .nil) (w.step s1) fun v d F3 H3 po rv s3 => by
      rw [hq d po] at rv
      exact ⟨n, rep_int rv, hn, q v F3 H3 (s1.trans w s3) rv⟩⟩
end
end Dl
set_option Elab.async false
set_option linter.all false
set_option maxRecDepth 100000
set_option maxHeartbeats 2000000
namespace Dl
open PySem PySem.Spec PyProof.Rows L2 SlX
/-! ### tuple * int, any small int -/
theorem tuple_mul_one (l : Addr) (items : Array Value) (n : Nat) (dd : Option Addr) (sl : Array (Option Value)) (u : Tok) :
    Meets (Builtin.«tuple.__mul__» ⟨[.ref l, .int 1 u], []⟩) (fun _ R s => s.heap.get? l = some { cls := .type "tuple", dict := dd, data := .seq items n, slots := sl } ∧ R (.ok (.ret (Value.ref l))) s) :=
  .of_wp fun prog w A R s h => by
    obtain ⟨hp, g, d, tk, os⟩ := s
    obtain ⟨hl, h⟩ := h
    have f1 := AutoSeq1.idx_int
    wp_walk using wpAny_loadPart' hl
    have c1 : (items.isEmpty || (1 : Int) == 1) = true := by simp
    repeat (first
      | (refine wpAny_ite_false (decide_eq_false (by decide)) ?_; wp_walk using wpAny_loadPart' hl)
      | (refine wpAny_ite_true (decide_eq_true c1) ?_; wp_walk using wpAny_loadPart' hl))
    exact ⟨_, rfl, h⟩
theorem tuple_mul_non (l : Addr) (items : Array Value) (n : Nat) (dd : Option Addr) (sl : Array (Option Value)) (x : Int) (u : Tok) (c0 : (decide (x < -(2 ^ 63)) || decide (x ≥ 2 ^ 63)) = false) (c1 : (items.isEmpty || x == 1) = false) (c2 : (decide (x ≤ 0) || items.isEmpty) = true) :
    Meets (Builtin.«tuple.__mul__» ⟨[.ref l, .int x u], []⟩) (fun _ R s => s.heap.get? l = some { cls := .type "tuple", dict := dd, data := .seq items n, slots := sl } ∧
      R (.ok (.ret (Value.ref s.heap.objs.size))) { s with heap := s.heap.push { cls := Value.type "tuple", data := Data.seq #[] }, toks := s.toks }) :=
  .of_wp fun prog w A R s h => by
    obtain ⟨hp, g, d, tk, os⟩ := s
    obtain ⟨hl, h⟩ := h
    have f1 := AutoSeq1.idx_int
    wp_walk using wpAny_loadPart' hl
    repeat (first
      | (refine wpAny_ite_false (decide_eq_false (by rw [c0]; exact Bool.false_ne_true)) ?_; wp_walk using wpAny_loadPart' hl)
      | (refine wpAny_ite_false (decide_eq_false (by rw [c1]; exact Bool.false_ne_true)) ?_; wp_walk using wpAny_loadPart' hl)
      | (refine wpAny_ite_true (decide_eq_true c2) ?_; wp_walk using wpAny_loadPart' hl))
    exact ⟨_, rfl, h⟩
/-- t * k, 0 ≤ k -/
def rRepA (K : PySem.W.Frag) : R2 := fun x y H Q => ∃ l k xs, x = .ref l ∧ y = .int k ∧ SqT K H l xs ∧ xs ≠ [] ∧ 0 ≤ k ∧ k ≤ 1000 ∧ xs.length ≤ 1000 ∧ (k = 1 → Q (.ref l) H) ∧ (k ≠ 1 → ∀ p, H p = none → Q (.ref p) (upd H p (.tup (List.replicate k.toNat xs).flatten)))
section
variable {X : Cx}
theorem op_repA : OpR X (binaryOp .Mult) (rRepA X.K) := by
  intro pins s σ H x y v u Q I rx ry h
  obtain ⟨l, k, xs, rfl, rfl, hT, hne, h1, h2, hz, q1, q2⟩ := h
  by_cases big : 2 ≤ k
  · exact op_repT pins s σ H _ _ v u Q I rx ry ⟨l, k, xs, rfl, rfl, hT, hne, big, h2, hz, q2 (by omega)⟩
  · cases rx
    obtain ⟨t, rfl⟩ := ry
    obtain ⟨its, r, ⟨⟨cls, dd, data, sl⟩, ho, hc, n, hd⟩, hs⟩ := I.tuple hT
    simp only at hc hd
    subst hc hd
    have hle : its.length = xs.length := r.length.symm
    have hi : its.toArray.isEmpty = false := by
      cases its with
      | nil => exact absurd (List.eq_nil_of_length_eq_zero hle.symm) hne
      | cons a b => rfl
    have go : ∀ {R}, wpAny (model X.prog X.w) X.A (call (.builtin "tuple.__mul__") [.ref l, .int k t]) R X.xe s → wpAny (model X.prog X.w) X.A (binaryOp .Mult (.ref l) (.int k t)) R X.xe s := fun {R} hcall =>
      wpAny_binaryOp_repeat_ref (T := "tuple") (U := "int") (by decide) ⟨_, ho, rfl⟩ (fun s' => typeIs_int s' k t) noFill_tuple_mul F.fills_int_mul F.slot_int_rmul repeat_tuple F.slot_int_index.lookup
        (call_meets F.slot_int_rmul (typeIs_int s k t) F.entry_int_rmul (F.args_int_rmul_2 _ _) (int_rmul_tuple k t l its.toArray n dd sl) ⟨ho, rfl, ⟨_, ho, rfl⟩, hcall⟩)
    by_cases one : k = 1
    · subst one
      exact go (call_meets F.slot_tuple_mul ⟨_, ho, rfl⟩ F.entry_tuple_mul (F.args_tuple_mul_2 _ _) (tuple_mul_one l its.toArray n dd sl t) ⟨ho, .ref l, H, I.tok s.toks, rfl, q1 rfl⟩)
    · have k0 : k = 0 := by omega
      subst k0
      have e0 : (List.replicate (0 : Int).toNat xs).flatten = [] := rfl
      have q3 := q2 one
      rw [e0] at q3
      refine go (call_meets F.slot_tuple_mul ⟨_, ho, rfl⟩ F.entry_tuple_mul (F.args_tuple_mul_2 _ _) (tuple_mul_non l its.toArray n dd sl 0 t (by decide) (by rw [hi]; rfl) (by rfl)) ⟨ho, ?_⟩)
      exact ⟨.ref s.heap.objs.size, _, I.laid (t' := s.toks) (o := .tup []) (fun b ob q => Heap.get?_push_of_some _ q) (Nat.le_refl _) ⟨Nat.zero_le _, [], .nil, IsTup.new _ _⟩, rfl, q3 _ (I.hok.fresh (Nat.le_refl _))⟩
end
section
variable {K : PySem.W.Frag} {δ : Option Addr} {F0 H0 : Hp} {ρ : List Sl} {ta tb : TE}
theorem flat_one {α : Type} (x : α) : ∀ n : Nat, (List.replicate n [x]).flatten = List.replicate n x
  | 0 => rfl
  | n + 1 => by rw [List.replicate_succ, List.flatten_cons, flat_one x n]; rfl
/-- (x,) * n -/
theorem ed_rep1 {d : PyData} {n : Nat} (ha : ED K δ H0 ta ρ (.py (.tuple [d]))) (hb : ED K δ H0 tb ρ (.py (.int (n : Int)))) (hn : n ≤ 1000) : ED K δ H0 (tOp (rRepA K) ta tb) ρ (.py (.tuple (List.replicate n d))) :=
  ed_op ha hb fun F H v u Q w r1 r2 q => by
    obtain ⟨a, vs, rfl, sq, dp⟩ := rep_tup r1
    cases dp with
    | cons dv dn =>
      cases dn
      rename_i x
      refine ⟨a, (n : Int), [x], rfl, rep_int r2, w.fh.sqt sq, by simp, by omega, by omega, by simp, fun e => ?_, fun e p hp => ?_⟩
      · have : n = 1 := by omega
        subst this
        exact q _ F H w.refl (.py (.tup sq (.cons dv .nil)))
      · rw [Int.toNat_natCast, flat_one]
        exact q _ _ _ (w.alloc hp) (.py (.tup (SqT.of upd_same) (dpa_mono (ex_upd (w.nn hp)) _ _ (dpa_rep dv n))))
end
end Dl
set_option Elab.async false
set_option linter.all false
set_option maxRecDepth 100000
set_option maxHeartbeats 2000000
namespace Dl
open PySem PySem.Spec PyProof.Rows L2 SlX
/-! ### enumerate of a tuple -/
theorem meets_enum1 {v : Value} {o : Obj} {H : Heap → Prop} (B : Begins v o H) :
    Meets (Builtin.«enumerate.__new__» ⟨[.type "enumerate", v], []⟩) (fun _ R s => H s.heap ∧
      R (.ok (.ret (.ref (s.heap.push o).objs.size))) { s with heap := (s.heap.push o).push { cls := .type "enumerate", data := .fields #[.none, .bool false, .ref s.heap.objs.size, rawInt 0, .none, .none] } }) :=
  .of_wp fun prog w A R s h => by
    obtain ⟨hp, g, d, tk, os⟩ := s; obtain ⟨h1, h⟩ := h
    have hsub := sub_enumerate
    have go : ∀ {A' : Around} {E : Value → Shared → Prop} {Q : Value → Shared → Prop}, Q (.ref hp.objs.size) ⟨hp.push o, g, d, tk, os⟩ → wpAny (model prog w) A' (pyIter v) Q E ⟨hp, g, d, tk, os⟩ :=
      fun q => B.iter prog w _ _ ⟨hp, g, d, tk, os⟩ _ h1 q
    wp_walk using go
    refine wpAny_stack_any fun st => wpAny_pure ?_
    split
    · rename_i c _ _ _ _ _
      cases (c == Value.type "enumerate") <;> (wp_walk using go; exact ⟨_, rfl, h⟩)
    · wp_walk using go; exact ⟨_, rfl, h⟩
theorem call_enumT {prog : Program} {w : World} {A : Around} {E : Value → Shared → Prop} {s : Shared} {l : Addr} {items : Array Value} {Q : Value → Shared → Prop} (hL : s.heap.IsTuple l items)
    (h : ∀ h', IsEnum h' (s.heap.objs.size + 1) s.heap.objs.size 0 .none → h'.IsTupleIter s.heap.objs.size l 0 → h'.objs.size = s.heap.objs.size + 2 → (∀ b o, s.heap.get? b = some o → h'.get? b = some o) → Q (.ref (s.heap.objs.size + 1)) { s with heap := h' }) :
    wpAny (model prog w) A (call (.type "enumerate") [.ref l]) Q E s := by
  refine callType_new F.called_enumerate (by decide) (F.typeCall_enumerate_1 _) (F.newCall_enumerate_1 _) (fun obj => F.args_object_init_2 obj _) F.entry_enumerate_new (meets_enum1 (begins_tuple l items)) ⟨hL, ?_⟩
  have hz : (s.heap.push { cls := .type "tuple_iterator", data := .fields #[.ref l, .int 0 0] }).objs.size = s.heap.objs.size + 1 := Heap.size_push ..
  show _ ∧ _
  rw [hz]
  have he : IsEnum ((s.heap.push { cls := .type "tuple_iterator", data := .fields #[.ref l, .int 0 0] }).push { cls := .type "enumerate", data := .fields #[.none, .bool false, .ref s.heap.objs.size, rawInt 0, .none, .none] }) (s.heap.objs.size + 1) s.heap.objs.size 0 .none := by
    have := Heap.get?_push_size (s.heap.push { cls := .type "tuple_iterator", data := .fields #[.ref l, .int 0 0] }) (o := { cls := .type "enumerate", data := .fields #[.none, .bool false, .ref s.heap.objs.size, rawInt 0, .none, .none] }) rfl
    rw [hz] at this; exact this
  exact ⟨⟨_, he, rfl⟩, h _ he ⟨_, Heap.get?_push_of_some _ (Heap.get?_push_size _ rfl), rfl, rfl⟩ (by rw [Heap.size_push, hz]) fun b o x => Heap.get?_push_of_some _ (Heap.get?_push_of_some _ x)⟩
theorem enumT_end {prog : Program} {w : World} {A : Around} {E : Value → Shared → Prop} {s : Shared} {e it l : Addr} {i : Nat} {items : Array Value} {old : Value} {c : Int} {Q : Option Value → Shared → Prop} (hh : A.handled = none)
    (he : IsEnum s.heap e it c old) (hit : s.heap.IsTupleIter it l i) (hl : s.heap.IsTuple l items) (hx : items[i]? = none) (hQ : ∀ h', Heap.ExtBut it s.heap h' → Q none { s with heap := h' }) : wpAny (model prog w) A (pyNext (.ref e)) Q E s := by
  have tE : s.TypeIs (.ref e) "enumerate" := ⟨_, he, rfl⟩
  unfold pyNext
  refine wpAny_bind (wpAny_attempt (wpAny_callSpecial?_slot (name := Str.ofString "__next__") tE F.slot_enumerate_next (wpAny_call_entry F.slot_enumerate_next tE F.entry_enumerate_next ?_ (F.args_enumerate_next_1 _))))
  show wpAny _ _ (field (.ref e) 2 >>= _) _ _ _
  refine wpAny_bind (wpAny_field he rfl (x := .ref it) rfl (wpAny_bind (wpAny_nextOf_tuple_end hh hit hl hx fun h' x eb xc => ?_)))
  obtain ⟨o, ho, hc⟩ := xc
  exact wpAny_bind (wpAny_isInstance (T := "StopIteration") (b := true) ⟨o, ho, hc⟩ isSubtype_stop (wpAny_pure (hQ _ eb)))
/-- the tuple at a, each item in a new pair -/
def IteT (K : PySem.W.Frag) (a : Addr) : It :=
  ⟨fun i H => ∃ (xs : List V) (x : V), SqT K H a xs ∧ xs[i]? = some x, fun i H v H' => ∃ T x, v = .ref T ∧ H T = none ∧ H' = upd H T (.tup [.int (i : Nat), x]) ∧ ∀ xs, SqT K H a xs → xs[i]? = some x, fun i H => ∃ xs : List V, SqT K H a xs ∧ xs.length ≤ i⟩
theorem turn_enumT {P : Program} {w : World} {K : PySem.W.Frag} {elts : List Expr} {kk : Nat} {tpos : Pos} (a e it : Addr) :
    Turn P w K (.Tuple elts kk tpos) (IteT K a) [e, it] e (fun i h => (∃ old, IsEnum h e it ((i : Nat) : Int) old) ∧ h.IsTupleIter it a i ∧ e ≠ it ∧ e ≠ a ∧ a ≠ it) where
  mem := by simp
  obj := fun i h st b hb => by
    obtain ⟨⟨old, he⟩, ⟨o, ho, hc, hd⟩, _⟩ := st
    rcases (show b = e ∨ b = it by simpa using hb) with z | z
    · rw [z]; exact ⟨_, he, fun v q => nomatch q⟩
    · rw [z]; exact ⟨o, ho, fun v q => by rw [hd] at q; cases q⟩
  keep := fun i h h' st k => by
    obtain ⟨⟨old, he⟩, hi, r⟩ := st
    exact ⟨⟨old, k e (by simp) _ he⟩, hi.at fun o q => k it (by simp) o q, r⟩
  item := by
    intro X hP hw hK hc i pins s σ H E I hf st hg
    subst hP hw hK
    obtain ⟨⟨old, he⟩, hit, hne, hea, hai⟩ := st
    obtain ⟨xs, x, hq, hx⟩ := hg
    obtain ⟨its, rv, p, hz⟩ := I.tuple hq
    obtain ⟨u, hu, ru⟩ := rv.get hx
    have hT0 : s.heap.IsTuple a its.toArray := p
    have hil : i < its.toArray.size := by simpa using (List.getElem?_eq_some_iff.mp hu).1
    have hh : X.A.in1.handled = none := I.ok.hd hc
    refine wpAny_pyNext_enum_itemC (Draws.tuple hh it a hai its.toArray) he ⟨hit, hT0⟩ hil hne (by simp [hne, hea]) fun x' h' tk hP ho hit' hT hsz hk => ?_
    have ex : x' = u := by
      have e1 : its[i]? = some x' := by simpa using hP
      rw [hu] at e1; exact (Option.some.inj e1).symm
    subst ex
    refine ⟨_, rfl, wpAny_letOwnedTupleGo_enum (s := { s with heap := h', toks := tk + 1 }) ho fun h'' he' sb => ?_⟩
    have hel : e < s.heap.objs.size := Heap.lt_size he
    have hil2 : it < s.heap.objs.size := by obtain ⟨_, q, _⟩ := hit; exact Heap.lt_size q
    have hT2 : h''.get? s.heap.objs.size = some { cls := .type "tuple", data := .seq #[.int i tk, x'] } := (sb.2 _ (Nat.ne_of_gt hel)).trans hT
    have new : ObjOk X.prog X.w (upd H s.heap.objs.size (.tup [.int (i : Nat), x])) h'' s.heap.objs.size (.tup [.int (i : Nat), x]) := ⟨by show 2 ≤ sizeLine; decide, [.int i tk, x'], .cons ⟨_, rfl⟩ (.cons ru .nil), ⟨_, hT2, rfl, _, rfl⟩⟩
    have I1 : Inv X pins σ (upd H s.heap.objs.size (.tup [.int (i : Nat), x])) { s with heap := h'', toks := tk + 1 } :=
      I.turnedNew (ch := [e, it]) (fun b ob hb q => (sb.2 b (fun z => hb (by simp [z]))).trans (hk b ob (fun z => hb (by simp [z])) (fun z => hb (by simp [z])) q)) hf (Nat.le_refl _) new
    refine ⟨.ref s.heap.objs.size, _, I1, rfl, ⟨_, x, rfl, I.hok.fresh (Nat.le_refl _), rfl, fun ys hy => by rw [I.tuple_inj hy hq]; exact hx⟩, ⟨⟨x', ?_⟩, hit'.1.at fun o q => (sb.2 it (Ne.symm hne)).trans q, hne, hea, hai⟩, fun b hb => ?_⟩
    · rw [show ((i + 1 : Nat) : Int) = (i : Int) + 1 from by omega]; exact he'
    · have hb' : b < s.heap.objs.size := by
        rcases (show b = e ∨ b = it by simpa using hb) with z | z
        · exact z ▸ hel
        · exact z ▸ hil2
      rw [upd_ne (Nat.ne_of_lt hb')]; exact (hf b hb).1
  done := by
    intro X hP hw hK hc i pins s σ H E I hf st hg
    subst hP hw hK
    obtain ⟨⟨old, he⟩, hit, hne, hea, hai⟩ := st
    obtain ⟨xs, hq, hx⟩ := hg
    obtain ⟨its, rv, p, hz⟩ := I.tuple hq
    have hT0 : s.heap.IsTuple a its.toArray := p
    obtain ⟨f0, f1, f2, f3, f4, f5⟩ := hf it (by simp)
    have hh : X.A.handled = none := I.ok.hd hc
    have hl := rv.length
    exact enumT_end hh he hit hT0 (by simp; omega) fun h' eb => ⟨rfl, I.turned (t' := s.toks) (fun b o hb q => eb b o hb q) f0 f1 f3 f4 f5⟩
  self := fun A i s Q E st h => let ⟨⟨_, he⟩, _⟩ := st; wpAny_pyIter_enum he h
def iEnumT (K : PySem.W.Frag) (ta : TA) : TI := fun σ H R => ta σ H fun vs H1 => ∃ a xs, vs = [.ref a] ∧ SqT K H1 a xs ∧ R (IteT K a) H1
theorem pi_enumT {X : Cx} {e : Expr} {ta : TA} {p pos tpos : Pos} {elts : List Expr} {kk : Nat} (hg : Gl X "enumerate") (hm : X.mg "enumerate" = none) (ha : PA X [e] ta) (hs : starEach [e] X.env = [(false, eval e X.env)] := by rfl) :
    PI X (.Tuple elts kk tpos) (.Call (.Name "enumerate" p) [e] [] pos) (iEnumT X.K ta) := by
  refine ⟨fun pins s σ H R I h => ?_⟩
  refine Call_ (ld_blt I hg hm boot_enumerate (PyProof.Rows.callWith_type1 (thn (ha.run pos pins s σ H _ I h) fun us s1 ⟨vs, H1, I1, r1, q1⟩ => ?_) hs rfl))
  obtain ⟨a, xs, ex, hq, q⟩ := q1
  subst ex
  obtain ⟨u, rfl, r⟩ := r1.one
  cases (show u = Value.ref a from r)
  obtain ⟨its, rv, p', hz⟩ := I1.tuple hq
  have hT0 : s1.heap.IsTuple a its.toArray := p'
  refine call_enumT hT0 fun h' he hit hsz hk => wpAny_pyIter_enum he ?_
  have al : a < s1.heap.objs.size := by obtain ⟨o, q, _⟩ := hT0; exact Heap.lt_size q
  have I2 : Inv X pins σ H1 { s1 with heap := h' } := I1.kept (t' := s1.toks) hk
  refine ⟨s1.heap.objs.size + 1, [s1.heap.objs.size + 1, s1.heap.objs.size], _, _, H1, rfl, I2, turn_enumT a (s1.heap.objs.size + 1) s1.heap.objs.size, ⟨⟨.none, he⟩, hit, Nat.succ_ne_self _, Nat.ne_of_gt (Nat.lt_succ_of_lt al), Nat.ne_of_lt al⟩, fun b hb => ?_, q⟩
  have hle : s1.heap.objs.size ≤ b := by
    rcases (show b = s1.heap.objs.size + 1 ∨ b = s1.heap.objs.size by simpa using hb) with z | z <;> rw [z]
    · exact Nat.le_add_right _ _
    · exact Nat.le_refl _
  exact I1.fpOk hle (I1.hok.fresh hle)
/-! by data -/
section
variable {K : PySem.W.Frag} {δ : Option Addr} {F0 H0 : Hp} {ρ : List Sl} {te : TE}
/-- enumerate over a tuple -/
theorem wi_enumT {xs : List PyData} (h : ED K δ H0 te ρ (.py (.tuple xs))) : WI K δ H0 (iEnumT K (tCons te tNil)) ρ (enumD xs) := fun σ F H re w R q =>
  h σ F H re w _ fun v F1 H1 s1 r => by
    obtain ⟨a, vs, e, sq, dp⟩ := rep_tup r
    refine ⟨a, vs, by rw [e], (w.step s1).fh.sqt sq, q _ F1 H1 s1 (IterD.of (fun F2 H2 i ex w2 hi => ?_) (fun F2 H2 i ex w2 hi => ?_))⟩
    · have sq2 : SqT K H2 a vs := w2.fh.sqt (ex.sqt sq)
      rw [enumD_len] at hi
      have hv : i < vs.length := by rw [dpa_len dp]; exact hi
      refine ⟨⟨vs, _, sq2, List.getElem?_eq_getElem hv⟩, fun x H3 ⟨T, y, e3, hT, e4, hx⟩ => ?_⟩
      obtain ⟨d, hd, dd⟩ := dpa_get2 dp (hx vs sq2)
      obtain ⟨F3, st, rr⟩ := pair_new (K := K) (a := .int (i : Int)) w2 hT (.int _) (dp_mono ex _ _ dd)
      exact ⟨F3, _, enumD_get hd, by rw [e4]; exact st, by rw [e3]; exact rr⟩
    · rw [enumD_len] at hi
      exact ⟨vs, w2.fh.sqt (ex.sqt sq), by rw [dpa_len dp]; exact hi⟩
end
end Dl
set_option Elab.async false
set_option linter.all false
set_option maxRecDepth 100000
set_option maxHeartbeats 2000000
namespace Dl
open PySem PySem.Spec PyProof.Rows L2 SlX
/-! ### zip of three lists of one length -/
def Itz3 (K : PySem.W.Frag) (a b c : Addr) : It :=
  ⟨fun i H => ∃ (xs ys zs : List V) (x y z : V), SqL K H a xs ∧ SqL K H b ys ∧ SqL K H c zs ∧ xs[i]? = some x ∧ ys[i]? = some y ∧ zs[i]? = some z,
    fun i H v H' => ∃ T x y z, v = .ref T ∧ H T = none ∧ H' = upd H T (.tup [x, y, z]) ∧ (∀ xs, SqL K H a xs → xs[i]? = some x) ∧ (∀ ys, SqL K H b ys → ys[i]? = some y) ∧ ∀ zs, SqL K H c zs → zs[i]? = some z,
    fun i H => ∃ xs ys zs : List V, SqL K H a xs ∧ SqL K H b ys ∧ SqL K H c zs ∧ xs.length = i ∧ ys.length = i ∧ zs.length = i⟩
theorem sep3 {N a b c : Addr} (ha : a < N) (hb : b < N) (hc : c < N) : ZipSep3 (N + 5) (N + 3) (N + 4) N (N + 1) (N + 2) [N, a] [N + 1, b] [N + 2, c] :=
  zip_sep3 (fp1 := [a]) (fp2 := [b]) (fp3 := [c]) (fun d hd => by rw [List.mem_singleton.mp hd]; exact ha) (fun d hd => by rw [List.mem_singleton.mp hd]; exact hb) (fun d hd => by rw [List.mem_singleton.mp hd]; exact hc)
theorem mem5 {N d : Addr} (h : d ∈ [N + 5, N + 3, N + 4, N, N + 1, N + 2]) : d = N + 5 ∨ d = N + 3 ∨ d = N + 4 ∨ d = N ∨ d = N + 1 ∨ d = N + 2 := by simpa using h
theorem turn_zip3 {P : Program} {w : World} {K : PySem.W.Frag} {elts : List Expr} {kk : Nat} {tpos : Pos} {a b c N : Addr} (ha : a < N) (hb : b < N) (hc : c < N) :
    Turn P w K (.Tuple elts kk tpos) (Itz3 K a b c) [N + 5, N + 3, N + 4, N, N + 1, N + 2] (N + 5) (fun i h => IsZip h (N + 5) (N + 3) (N + 4) .none ∧ IsTupOf3 h (N + 3) (.ref N) (.ref (N + 1)) (.ref (N + 2)) ∧ (∃ x y z, IsTupOf3 h (N + 4) x y z) ∧ h.IsListIter N a i ∧ h.IsListIter (N + 1) b i ∧ h.IsListIter (N + 2) c i) where
  mem := by simp
  obj := fun i h st d hd => by
    obtain ⟨hz, hTI, ⟨x, y, z, hTO⟩, ⟨o1, e1, _, d1⟩, ⟨o2, e2, _, d2⟩, ⟨o3, e3, _, d3⟩⟩ := st
    rcases mem5 hd with q | q | q | q | q | q <;> rw [q]
    · exact ⟨_, hz, fun v q => nomatch q⟩
    · exact ⟨_, hTI, fun v q => nomatch q⟩
    · exact ⟨_, hTO, fun v q => nomatch q⟩
    · exact ⟨o1, e1, fun v q => by rw [d1] at q; cases q⟩
    · exact ⟨o2, e2, fun v q => by rw [d2] at q; cases q⟩
    · exact ⟨o3, e3, fun v q => by rw [d3] at q; cases q⟩
  keep := fun i h h' st k => by
    obtain ⟨hz, hTI, ⟨x, y, z, hTO⟩, h1, h2, h3⟩ := st
    exact ⟨k _ (by simp) _ hz, k _ (by simp) _ hTI, ⟨x, y, z, k _ (by simp) _ hTO⟩, h1.at fun o q => k _ (by simp) o q, h2.at fun o q => k _ (by simp) o q, h3.at fun o q => k _ (by simp) o q⟩
  item := by
    intro X hP hw hK hcalm i pins s σ H E I hf st hg
    subst hP hw hK
    obtain ⟨hz, hTI, ⟨x0, y0, z0, hTO⟩, h1, h2, h3⟩ := st
    obtain ⟨xs, ys, zs, x, y, z, hqx, hqy, hqz, hx, hy, hzz⟩ := hg
    obtain ⟨its, rv, p, _⟩ := I.list hqx
    obtain ⟨its2, rv2, p2, _⟩ := I.list hqy
    obtain ⟨its3, rv3, p3, _⟩ := I.list hqz
    obtain ⟨u, hu, ru⟩ := rv.get hx
    obtain ⟨u2, hu2, ru2⟩ := rv2.get hy
    obtain ⟨u3, hu3, ru3⟩ := rv3.get hzz
    have S := sep3 ha hb hc
    have hh : X.A.in1.handled = none := I.ok.hd hcalm
    have ne : ∀ {q : Nat} {m : Nat}, q < N → q ≠ N + m := fun hq e => by omega
    have l1 : i < its.toArray.size := by simpa using (List.getElem?_eq_some_iff.mp hu).1
    have l2 : i < its2.toArray.size := by simpa using (List.getElem?_eq_some_iff.mp hu2).1
    have l3 : i < its3.toArray.size := by simpa using (List.getElem?_eq_some_iff.mp hu3).1
    refine wpAny_pyNext_zipD3_item S (Draws.list hh N a (Nat.ne_of_lt ha) its.toArray) (Draws.list hh (N + 1) b (ne hb) its2.toArray) (Draws.list hh (N + 2) c (ne hc) its3.toArray) hz hTI hTO ⟨h1, p.isList⟩ ⟨h2, p2.isList⟩ ⟨h3, p3.isList⟩ l1 l2 l3 fun x1 x2 x3 h' tk y1 y2 y3 b1 b2 d1 d2 d3 b5 b6 hk => ?_
    have e1 : x1 = u := by have e : its[i]? = some x1 := by simpa using y1
                           rw [hu] at e; exact (Option.some.inj e).symm
    have e2 : x2 = u2 := by have e : its2[i]? = some x2 := by simpa using y2
                            rw [hu2] at e; exact (Option.some.inj e).symm
    have e3 : x3 = u3 := by have e : its3[i]? = some x3 := by simpa using y3
                            rw [hu3] at e; exact (Option.some.inj e).symm
    subst e1 e2 e3
    have lt : ∀ {q o}, s.heap.get? q = some o → q < s.heap.objs.size := fun e => Heap.lt_size e
    refine ⟨_, rfl, wpAny_letOwnedTupleGo_zip (s := { s with heap := h', toks := tk }) b1 fun h'' z'' sb => ?_⟩
    have hT2 : h''.get? s.heap.objs.size = some { cls := .type "tuple", data := .seq #[x1, x2, x3] } := (sb.2 _ (Nat.ne_of_gt (lt hz))).trans b5
    have new : ObjOk X.prog X.w (upd H s.heap.objs.size (.tup [x, y, z])) h'' s.heap.objs.size (.tup [x, y, z]) := ⟨by show 3 ≤ sizeLine; decide, [x1, x2, x3], .cons ru (.cons ru2 (.cons ru3 .nil)), ⟨_, hT2, rfl, _, rfl⟩⟩
    have I1 : Inv X pins σ (upd H s.heap.objs.size (.tup [x, y, z])) { s with heap := h'', toks := tk } :=
      I.turnedNew (t' := tk) (ch := [N + 5, N + 3, N + 4, N, N + 1, N + 2]) (fun d o hd q => (sb.2 d (fun q' => hd (by simp [q']))).trans (hk d o (fun q' => hd (by simp [q'])) (fun q' => hd (by simp [q'])) (fun q' => hd (by simp [q'])) (fun q' => hd (by simp [q'])) (fun q' => hd (by simp [q'])) q)) hf (Nat.le_refl _) new
    refine ⟨.ref s.heap.objs.size, _, I1, rfl, ⟨_, x, y, z, rfl, I.hok.fresh (Nat.le_refl _), rfl, fun l hl => by rw [I.list_inj hl hqx]; exact hx, fun l hl => by rw [I.list_inj hl hqy]; exact hy, fun l hl => by rw [I.list_inj hl hqz]; exact hzz⟩, ⟨z'', ?_, ⟨x1, x2, x3, ?_⟩, ?_, ?_, ?_⟩, fun d hd => ?_⟩
    · exact (sb.2 _ S.TIz).trans (hk _ _ S.TIz S.TITO S.TIi1 S.TIi2 S.TIi3 hTI)
    · exact (sb.2 _ S.TOz).trans b2
    · exact d1.1.at fun o q => (sb.2 _ (Ne.symm S.zi1)).trans q
    · exact d2.1.at fun o q => (sb.2 _ (Ne.symm S.zi2)).trans q
    · exact d3.1.at fun o q => (sb.2 _ (Ne.symm S.zi3)).trans q
    · have hlt : d < s.heap.objs.size := by
        rcases mem5 hd with q | q | q | q | q | q <;> rw [q]
        · exact lt hz
        · exact lt hTI
        · exact lt hTO
        · obtain ⟨_, e1, _⟩ := h1; exact lt e1
        · obtain ⟨_, e1, _⟩ := h2; exact lt e1
        · obtain ⟨_, e1, _⟩ := h3; exact lt e1
      rw [upd_ne (Nat.ne_of_lt hlt)]; exact (hf d hd).1
  done := by
    intro X hP hw hK hcalm i pins s σ H E I hf st hg
    subst hP hw hK
    obtain ⟨hz, hTI, ⟨x0, y0, z0, hTO⟩, h1, h2, h3⟩ := st
    obtain ⟨xs, ys, zs, hqx, hqy, hqz, n1, n2, n3⟩ := hg
    obtain ⟨its, rv, p, _⟩ := I.list hqx
    obtain ⟨its2, rv2, p2, _⟩ := I.list hqy
    obtain ⟨its3, rv3, p3, _⟩ := I.list hqz
    have S := sep3 ha hb hc
    have hh : X.A.in1.handled = none := I.ok.hd hcalm
    have ne : ∀ {q : Nat} {m : Nat}, q < N → q ≠ N + m := fun hq e => by omega
    have m1 := rv.length
    have m2 := rv2.length
    have m3 := rv3.length
    refine wpAny_pyNext_zipD3_end S (Draws.list hh N a (Nat.ne_of_lt ha) its.toArray) (Draws.list hh (N + 1) b (ne hb) its2.toArray) (Draws.list hh (N + 2) c (ne hc) its3.toArray) hz hTI hTO ⟨h1, p.isList⟩ ⟨h2, p2.isList⟩ ⟨h3, p3.isList⟩ (by simp; omega) (by simp; omega) (by simp; omega) (.inl (by simp; omega)) fun h' tk hk => ⟨rfl, ?_⟩
    exact I.turnedL (t' := tk) (ch := [N + 5, N + 3, N + 4, N, N + 1, N + 2]) (fun d o hd q => hk d o (fun q' => hd (by simp [q'])) (fun q' => hd (by simp [q'])) (fun q' => hd (by simp [q'])) (fun q' => hd (by simp [q'])) (fun q' => hd (by simp [q'])) q) hf
  self := fun A i s Q E st h => wpAny_pyIter_zip st.1 h
def iZip3 (K : PySem.W.Frag) (ta : TA) : TI := fun σ H R => ta σ H fun vs H1 => ∃ a b c xs ys zs, vs = [.ref a, .ref b, .ref c] ∧ SqL K H1 a xs ∧ SqL K H1 b ys ∧ SqL K H1 c zs ∧ R (Itz3 K a b c) H1
theorem pi_zip3 {X : Cx} {e e2 e3 : Expr} {ta : TA} {p pos tpos : Pos} {elts : List Expr} {kk : Nat} (hg : Gl X "zip") (hm : X.mg "zip" = none) (ha : PA X [e, e2, e3] ta)
    (hs : starEach [e, e2, e3] X.env = (false, eval e X.env) :: starEach [e2, e3] X.env := by rfl) (hpl : (backTo pos (starEach [e2, e3] X.env)).any (·.1) = false := by rfl) :
    PI X (.Tuple elts kk tpos) (.Call (.Name "zip" p) [e, e2, e3] [] pos) (iZip3 X.K ta) := by
  refine ⟨fun pins s σ H R I h => ?_⟩
  refine Call_ (ld_blt I hg hm PyProof.Rows.boot_zip (PyProof.Rows.callWith_type1 (thn (ha.run pos pins s σ H _ I h) fun us s1 ⟨vs, H1, I1, r1, q1⟩ => ?_) hs hpl))
  obtain ⟨a, b, c, xs, ys, zs, ex, qa, qb, qc, q⟩ := q1
  subst ex
  cases r1 with
  | cons r rr =>
    cases rr with
    | cons r2 rr =>
    cases rr with
    | cons r3 rr =>
    cases rr
    cases r
    cases r2
    cases r3
    obtain ⟨its, rv, p1, _⟩ := I1.list qa
    obtain ⟨its2, rv2, p2, _⟩ := I1.list qb
    obtain ⟨its3, rv3, p3, _⟩ := I1.list qc
    refine zip_begins3 (begins_list a its.toArray) (begins_list b its2.toArray) (begins_list c its3.toArray) p1.isList p2.isList p3.isList fun h' hz hTI hTO h1 h2 h3 hsz hk => wpAny_pyIter_zip hz ?_
    have I2 : Inv X pins σ H1 { s1 with heap := h' } := I1.kept (t' := s1.toks) hk
    refine ⟨s1.heap.objs.size + 5, [s1.heap.objs.size + 5, s1.heap.objs.size + 3, s1.heap.objs.size + 4, s1.heap.objs.size, s1.heap.objs.size + 1, s1.heap.objs.size + 2], _, _, H1, rfl, I2, turn_zip3 p1.lt p2.lt p3.lt, ⟨hz, hTI, ⟨_, _, _, hTO⟩, ⟨_, h1, rfl, rfl⟩, ⟨_, h2, rfl, rfl⟩, ⟨_, h3, rfl, rfl⟩⟩, fun d hd => ?_, q⟩
    have hle : s1.heap.objs.size ≤ d := by
      rcases mem5 hd with z | z | z | z | z | z <;> rw [z]
      · exact Nat.le_add_right _ _
      · exact Nat.le_add_right _ _
      · exact Nat.le_add_right _ _
      · exact Nat.le_refl _
      · exact Nat.le_add_right _ _
      · exact Nat.le_add_right _ _
    exact I1.fpOk hle (I1.hok.fresh hle)
section
variable {K : PySem.W.Frag} {δ : Option Addr} {F0 H0 : Hp} {ρ : List Sl} {ta tb tc : TE}
def zip3D (xs ys zs : List PyData) : List D := (xs.zip (ys.zip zs)).map fun p => .py (.tuple [p.1, p.2.1, p.2.2])
theorem zip3_get {xs ys zs : List PyData} {i : Nat} {x y z : PyData} (h : xs[i]? = some x) (h2 : ys[i]? = some y) (h3 : zs[i]? = some z) : (zip3D xs ys zs)[i]? = some (.py (.tuple [x, y, z])) := by
  unfold zip3D
  have e : (xs.zip (ys.zip zs))[i]? = some (x, y, z) := List.getElem?_zip_eq_some.mpr ⟨h, List.getElem?_zip_eq_some.mpr ⟨h2, h3⟩⟩
  rw [List.getElem?_map, e]; rfl
theorem wi_zip3 {xs ys zs : List PyData} (h : ED K δ H0 ta ρ (.py (.list xs))) (h2 : ED K δ H0 tb ρ (.py (.list ys))) (h3 : ED K δ H0 tc ρ (.py (.list zs))) (l1 : xs.length = ys.length) (l2 : ys.length = zs.length) :
    WI K δ H0 (iZip3 K (tCons ta (tCons tb (tCons tc tNil)))) ρ (zip3D xs ys zs) := fun σ F H re w R q =>
  h σ F H re w _ fun v F1 H1 s1 r => h2 σ F1 H1 (re.step s1) (w.step s1) _ fun v2 F2 H2 s2 r2 => h3 σ F2 H2 ((re.step s1).step s2) ((w.step s1).step s2) _ fun v3 F3 H3 s3 r3 => by
    obtain ⟨a, vs, e, sq, dp⟩ := rep_lst ((r.mono s2.ff).mono s3.ff)
    obtain ⟨b, us, e2, sqb, dpb⟩ := rep_lst (r2.mono s3.ff)
    obtain ⟨c, ws, e3, sqc, dpc⟩ := rep_lst r3
    have w3 := ((w.step s1).step s2).step s3
    have len : (zip3D xs ys zs).length = xs.length := by unfold zip3D; rw [List.length_map, List.length_zip, List.length_zip]; omega
    refine ⟨a, b, c, vs, us, ws, by rw [e, e2, e3], w3.fh.sql sq, w3.fh.sql sqb, w3.fh.sql sqc, q _ F3 H3 ((s1.trans w s2).trans w s3) ⟨fun F4 H4 i ex w4 hi => ?_, fun F4 H4 i ex w4 hi => ?_⟩⟩
    · have q1 := w4.fh.sql (ex.sql sq)
      have q2 := w4.fh.sql (ex.sql sqb)
      have q3 := w4.fh.sql (ex.sql sqc)
      rw [len] at hi
      have hv : i < vs.length := by rw [dpa_len dp]; omega
      have hu : i < us.length := by rw [dpa_len dpb]; omega
      have hw : i < ws.length := by rw [dpa_len dpc]; omega
      refine ⟨⟨vs, us, ws, _, _, _, q1, q2, q3, List.getElem?_eq_getElem hv, List.getElem?_eq_getElem hu, List.getElem?_eq_getElem hw⟩, fun x H5 ⟨T, y, z, t, e4, hT, e5, hx, hy, hz⟩ => ?_⟩
      obtain ⟨d, hd, dd⟩ := dpa_get2 dp (hx vs q1)
      obtain ⟨d2, hd2, dd2⟩ := dpa_get2 dpb (hy us q2)
      obtain ⟨d3, hd3, dd3⟩ := dpa_get2 dpc (hz ws q3)
      have eu := ex_upd (o := .tup [y, z, t]) (w4.nn hT)
      refine ⟨_, _, zip3_get hd hd2 hd3, by rw [e5]; exact w4.alloc hT, ?_⟩
      rw [e4]
      exact .py (.tup (SqT.of upd_same) (.cons (dp_mono (ex.trans eu) _ _ dd) (.cons (dp_mono (ex.trans eu) _ _ dd2) (.cons (dp_mono (ex.trans eu) _ _ dd3) .nil))))
    · rw [len] at hi
      exact ⟨vs, us, ws, w4.fh.sql (ex.sql sq), w4.fh.sql (ex.sql sqb), w4.fh.sql (ex.sql sqc), by rw [dpa_len dp]; omega, by rw [dpa_len dpb]; omega, by rw [dpa_len dpc]; omega⟩
end
end Dl
set_option Elab.async false
set_option linter.all false
set_option maxRecDepth 100000
set_option maxHeartbeats 2000000
namespace Dl
open PySem PySem.Spec PyProof.Rows L2 SlX
/-! ### dicts with int keys, by data -/
abbrev Kvs := List (Int × PyData)
def KvR (K : PySem.W.Frag) (F : Hp) (kvs : List (L2.Key × V)) (ks : Kvs) : Prop := kvs.map (·.1) = ks.map (fun p => Sum.inl p.1) ∧ DpAll K F (kvs.map (·.2)) (ks.map (·.2))
section
variable {K : PySem.W.Frag} {δ : Option Addr} {F H : Hp}
theorem KvR.mono {F' : Hp} {kvs : List (L2.Key × V)} {ks : Kvs} (e : Ex F F') (h : KvR K F kvs ks) : KvR K F' kvs ks := ⟨h.1, dpa_mono e _ _ h.2⟩
theorem KvR.len {kvs : List (L2.Key × V)} {ks : Kvs} (h : KvR K F kvs ks) : kvs.length = ks.length := by
  have := congrArg List.length h.1
  simpa using this
theorem KvR.snoc {kvs : List (L2.Key × V)} {ks : Kvs} {k : Int} {v : V} {d : PyData} (h : KvR K F kvs ks) (r : Dp K F v d) : KvR K F (kvs ++ [(.inl k, v)]) (ks ++ [(k, d)]) := by
  refine ⟨by rw [List.map_append, List.map_append, h.1]; rfl, ?_⟩
  rw [List.map_append, List.map_append]
  exact dpa_app h.2 (dpa_one r)
theorem KvR.look : ∀ {kvs : List (L2.Key × V)} {ks : Kvs} (i : Int), KvR K F kvs ks → (∃ d v, ks.lookup i = some d ∧ valV kvs (.inl i) = some v ∧ Dp K F v d) ∨ (ks.lookup i = none ∧ valV kvs (.inl i) = none)
  | [], [], i, _ => .inr ⟨rfl, rfl⟩
  | [], _ :: _, _, h => by have := h.len; simp at this
  | _ :: _, [], _, h => by have := h.len; simp at this
  | (a, v) :: kvs, (k, d) :: ks, i, h => by
    have h1 := h.1
    rw [List.map_cons, List.map_cons, List.cons.injEq] at h1
    have h2 := h.2
    rw [List.map_cons, List.map_cons] at h2
    cases h2 with
    | cons dv dt =>
      have ea : a = .inl k := h1.1
      rw [List.lookup_cons]
      by_cases e : i = k
      · subst e
        left
        exact ⟨d, v, by simp, valV_pos ea, dv⟩
      · have q : (i == k) = false := by simpa using e
        rw [q]
        have q2 : ¬ a = .inl i := fun z => e (by rw [ea] at z; cases z; rfl)
        rcases KvR.look i (⟨h1.2, dt⟩ : KvR K F kvs ks) with ⟨d', v', e1, e2, e3⟩ | ⟨e1, e2⟩
        · exact .inl ⟨d', v', e1, (valV_neg (p := (a, v)) q2).trans e2, e3⟩
        · exact .inr ⟨e1, (valV_neg (p := (a, v)) q2).trans e2⟩
theorem rep_dic {v : V} {ks : Kvs} (h : Rep K δ F v (.dic ks)) : ∃ a kvs, v = .ref a ∧ Rd F a (.dK kvs) ∧ KvR K F kvs ks := by
  cases h with
  | dic h1 h2 h3 => exact ⟨_, _, rfl, h1, h2, h3⟩
theorem putK_new {kvs : List (L2.Key × V)} {ks : Kvs} {k : Int} {v : V} (h : KvR K F kvs ks) (n : k ∉ ks.map (·.1)) : putK kvs (.inl k) v = kvs ++ [(.inl k, v)] := by
  unfold putK
  rw [if_neg]
  intro q
  rw [List.any_eq_true] at q
  obtain ⟨p, hp, e⟩ := q
  have e' : p.1 = .inl k := by simpa using e
  have : (Sum.inl k : L2.Key) ∈ kvs.map (·.1) := List.mem_map.mpr ⟨p, hp, e'⟩
  rw [h.1] at this
  obtain ⟨z, hz, ez⟩ := List.mem_map.mp this
  cases ez
  exact n (List.mem_map.mpr ⟨z, hz, rfl⟩)
end
/-! ### dicts that are locked -/
structure Tr (F G : Hp) : Prop where
  rd : ∀ a u, (∀ o' u', u ≠ .frz o' u') → Rd F a u → Rd G a u
  ob : ∀ a o, F a = some o → (∀ kvs, o ≠ .dK kvs) → (∀ o' u', o ≠ .frz o' u') → G a = some o
  fz : ∀ a o xs, F a = some (.frz o (.tup xs)) → G a = some (.frz o (.tup xs))
section
variable {K : PySem.W.Frag} {δ : Option Addr} {F G H : Hp}
theorem Tr.sql (t : Tr F G) {a : Addr} {xs : List V} (h : SqL K F a xs) : SqL K G a xs := by
  rcases h with h | h
  · exact .inl (t.rd a _ (fun _ _ z => nomatch z) h)
  · exact .inr h
theorem Tr.sqt (t : Tr F G) {a : Addr} {xs : List V} (h : SqT K F a xs) : SqT K G a xs := by
  rcases h with h | h
  · exact .inl (t.rd a _ (fun _ _ z => nomatch z) h)
  · exact .inr h
mutual
theorem dp_tr (t : Tr F G) : ∀ (d : PyData) (v : V), Dp K F v d → Dp K G v d
  | .none, _, h => by cases h; exact .non
  | .bool b, _, h => by cases h; exact .bl b
  | .int i, _, h => by cases h; exact .int i
  | .str x, _, h => by cases h; exact .str x
  | .list ds, _, h => by
    cases h with
    | lst hs ha => exact .lst (t.sql hs) (dpa_tr t ds _ ha)
  | .tuple ds, _, h => by
    cases h with
    | tup hs ha => exact .tup (t.sqt hs) (dpa_tr t ds _ ha)
  | .dict _, _, h => by cases h
theorem dpa_tr (t : Tr F G) : ∀ (ds : List PyData) (vs : List V), DpAll K F vs ds → DpAll K G vs ds
  | [], _, h => by cases h; exact .nil
  | d :: ds, _, h => by
    cases h with
    | cons h1 h2 => exact .cons (dp_tr t d _ h1) (dpa_tr t ds _ h2)
end
theorem slO_dk {a C dx : Addr} {vs : List (Option V)} {kvs : List (L2.Key × V)} : SlO a C dx vs ≠ .dK kvs := fun z => by unfold SlO at z; cases z
theorem slO_frz {a C dx : Addr} {vs : List (Option V)} {o : Obj} {u : HO} : SlO a C dx vs ≠ .frz o u := fun z => by unfold SlO at z; cases z
theorem Tr.slt (t : Tr F G) {a C dx : Addr} {vs : List (Option V)} (h : Slt F a C dx vs) : Slt G a C dx vs := by
  rcases h with ⟨h1, h2⟩ | ⟨h1, h2⟩
  · exact .inl ⟨t.ob a _ h1 (fun _ z => nomatch z) (fun _ _ z => nomatch z), h2⟩
  · exact .inr ⟨t.ob a _ h1 (fun _ => slO_dk) (fun _ _ => slO_frz), t.ob dx _ h2 (fun _ z => nomatch z) (fun _ _ z => nomatch z)⟩
theorem Rep.tr (t : Tr F G) {v : V} {d : D} (h : Rep K δ F v d) : Rep K δ G v d := by
  induction h with
  | py h => exact .py (dp_tr t _ _ h)
  | obj h1 h2 _ ih => exact .obj (t.slt h1) h2 ih
  | dic h1 h2 h3 => exact .dic (t.rd _ _ (fun _ _ z => nomatch z) h1) h2 (dpa_tr t _ _ h3)
  | dice h => exact .dice h
  | tupN h1 h2 h3 => exact .tupN (t.fz _ _ _ h1) h2 h3
  | tab h1 h2 h3 => exact .tab (t.sqt h1) h2 fun i u ns a b => let ⟨c, o, p, q, r⟩ := h3 i u ns a b; ⟨c, o, p, t.fz _ _ _ q, r⟩
theorem tr_lock {d : Addr} {kvs : List (L2.Key × V)} {od : Obj} (h : F d = some (.dK kvs)) : Tr F (upd F d (.frz od (.dK kvs))) := by
  refine ⟨fun a u n r => ?_, fun a o e n1 n2 => ?_, fun a o xs e => by rw [upd_ne (fun z => by rw [z, h] at e; cases e)]; exact e⟩
  · by_cases z : a = d
    · subst z
      right
      rcases r with r | ⟨o, r⟩
      · rw [h] at r; cases r; exact ⟨od, upd_same⟩
      · rw [h] at r; cases r
    · rcases r with r | ⟨o, r⟩
      · exact .inl (by rw [upd_ne z]; exact r)
      · exact .inr ⟨o, by rw [upd_ne z]; exact r⟩
  · by_cases z : a = d
    · subst z; rw [h] at e; cases e; exact absurd rfl (n1 _)
    · rw [upd_ne z]; exact e
theorem tr_free {d : Addr} {kvs : List (L2.Key × V)} {od : Obj} (h : F d = some (.frz od (.dK kvs))) : Tr F (upd F d (.dK kvs)) := by
  refine ⟨fun a u n r => ?_, fun a o e n1 n2 => ?_, fun a o xs e => by rw [upd_ne (fun z => by rw [z, h] at e; cases e)]; exact e⟩
  · by_cases z : a = d
    · subst z
      left
      rcases r with r | ⟨o, r⟩
      · rw [h] at r; cases r; exact absurd rfl (n _ _)
      · rw [h] at r; cases r; exact upd_same
    · rcases r with r | ⟨o, r⟩
      · exact .inl (by rw [upd_ne z]; exact r)
      · exact .inr ⟨o, by rw [upd_ne z]; exact r⟩
  · by_cases z : a = d
    · subst z; rw [h] at e; cases e; exact absurd rfl (n2 _ _)
    · rw [upd_ne z]; exact e
theorem RepE.lock {H0 : Hp} {σ : L2.St} {ρ : List Sl} {d : Addr} {kvs : List (L2.Key × V)} {od : Obj} (re : RepE K δ H0 F H σ ρ) (w : Wd δ F H) (h : F d = some (.dK kvs)) :
    RepE K δ H0 (upd F d (.frz od (.dK kvs))) (upd H d (.frz od (.dK kvs))) σ ρ ∧ Wd δ (upd F d (.frz od (.dK kvs))) (upd H d (.frz od (.dK kvs))) := by
  have t := tr_lock (od := od) h
  have hd := w.fh d _ h
  have ne : ∀ a o, H a = some o → (∀ l, o ≠ .dK l) → a ≠ d := fun a o e n z => by subst z; rw [hd] at e; cases e; exact n _ rfl
  have nf : ∀ a, F a = none → a ≠ d := fun a e z => by subst z; rw [h] at e; cases e
  refine ⟨⟨re.len, fun i x q => ?_, fun i xs q => ?_, re.ap, fun i C ds q => ?_, re.mu⟩, ⟨fun a o q => ?_, fun a e => ?_, fun a e => ?_⟩⟩
  · obtain ⟨v, e, r⟩ := re.fz i x q
    exact ⟨v, e, r.tr t⟩
  · obtain ⟨a, vs, e, ha, hf, h0, hn, dp⟩ := re.ow i xs q
    have n := ne a _ ha (fun _ z => nomatch z)
    exact ⟨a, vs, e, by rw [upd_ne n]; exact ha, by rw [upd_ne n]; exact hf, h0, hn, dpa_tr t _ _ dp⟩
  · obtain ⟨dx, vs, u, e, sl, nx, hu, nl, ⟨f1, f2, f3⟩, g0, g⟩ := re.mo i C ds q
    have n1 := nf _ f1
    have n2 := nf _ f2
    refine ⟨dx, vs, u, e, ?_, nx, by rw [upd_ne n2]; exact hu, nl, ⟨by rw [upd_ne n1]; exact f1, by rw [upd_ne n2]; exact f2, f3⟩, g0, fun j x z => let ⟨v, y, r⟩ := g j x z; ⟨v, y, r.tr t⟩⟩
    rcases sl with ⟨z, y⟩ | ⟨z, y⟩
    · exact .inl ⟨by rw [upd_ne n1]; exact z, y⟩
    · exact .inr ⟨by rw [upd_ne n1]; exact z, by rw [upd_ne n2]; exact y⟩
  · by_cases z : a = d
    · subst z; rw [upd_same] at q ⊢; exact q
    · rw [upd_ne z] at q ⊢; exact w.fh a o q
  · have z := nf a (w.dn a e)
    rw [upd_ne z]; exact w.dn a e
  · obtain ⟨x, y, u, q⟩ := w.dc a e
    exact ⟨x, y, u, by rw [upd_ne (nf a (w.dn a e))]; exact q⟩
theorem Stp.free {F' H' : Hp} {d : Addr} {kvs : List (L2.Key × V)} {od : Obj} (w : Wd δ F H) (h : F d = some (.dK kvs)) (s : Stp δ (upd F d (.frz od (.dK kvs))) (upd H d (.frz od (.dK kvs))) F' H') :
    Stp δ F H (upd F' d (.dK kvs)) (upd H' d (.dK kvs)) ∧ F' d = some (.frz od (.dK kvs)) ∧ H' d = some (.frz od (.dK kvs)) := by
  have hd := w.fh d _ h
  have f1 : F' d = some (.frz od (.dK kvs)) := s.ff d _ upd_same
  refine ⟨⟨fun a o q => ?_, fun a o q => ?_, fun a o q => ?_, fun a o q n => ?_, fun a e => ?_⟩, f1, s.fh d _ f1⟩
  · by_cases z : a = d
    · subst z; rw [upd_same, ← h]; exact q
    · rw [upd_ne z]; exact s.ff a o (by rw [upd_ne z]; exact q)
  · by_cases z : a = d
    · subst z; rw [upd_same] at q ⊢; exact q
    · rw [upd_ne z] at q ⊢; exact s.fh a o q
  · by_cases z : a = d
    · subst z; rw [upd_same] at q; exact .inl (by rw [h]; exact q)
    · rw [upd_ne z] at q
      rcases s.new a o q with y | y
      · rw [upd_ne z] at y; exact .inl y
      · rw [upd_ne z] at y; exact .inr y
  · by_cases z : a = d
    · subst z; rw [upd_same, ← hd]; exact q
    · rw [upd_ne z]; exact s.keep a o (by rw [upd_ne z]; exact q) n
  · have z : a ≠ d := fun y => by have := w.dn a e; rw [y, h] at this; cases this
    obtain ⟨x, y, u, q⟩ := s.dc a e
    exact ⟨x, y, u, by rw [upd_ne z]; exact q⟩
end
end Dl
set_option Elab.async false
set_option linter.all false
set_option maxRecDepth 100000
set_option maxHeartbeats 2000000
namespace Dl
open PySem PySem.Spec PyProof.Rows L2 SlX
section
variable {K : PySem.W.Frag} {δ : Option Addr} {F0 H0 : Hp} {ρ : List Sl} {te td ty tx tk tv : TE} {d : D} {E : En}
/-! ### reading dicts -/
theorem ed_dget {ks : Kvs} {i : Int} {e : PyData} (hd : ED K δ H0 td ρ (.dic ks)) (hi : ED K δ H0 ty ρ (.py (.int i))) (he : ks.lookup i = some e) : ED K δ H0 (tDGet td ty) ρ (.py e) := fun σ F H re w Q q =>
  hd σ F H re w _ fun v F1 H1 s1 r => hi σ F1 H1 (re.step s1) (w.step s1) _ fun u F2 H2 s2 r2 => by
    obtain ⟨a, kvs, rfl, rd, kr⟩ := rep_dic (r.mono s2.ff)
    rcases kr.look i with ⟨d', v', e1, e2, e3⟩ | ⟨e1, _⟩
    · rw [he] at e1
      cases e1
      exact ⟨a, v', rfl, .inl ⟨kvs, .inl i, ((w.step s1).step s2).fh.rd rd, rep_int r2, e2.symm⟩, q v' F2 H2 (s1.trans w s2) (.py e3)⟩
    · rw [he] at e1; cases e1
theorem ed_dnotin {ks : Kvs} {i : Int} (hi : ED K δ H0 ty ρ (.py (.int i))) (hd : ED K δ H0 td ρ (.dic ks)) : ED K δ H0 (tDNotIn ty td) ρ (.py (.bool (!(ks.lookup i).isSome))) := fun σ F H re w Q q =>
  hi σ F H re w _ fun u F1 H1 s1 r => hd σ F1 H1 (re.step s1) (w.step s1) _ fun v F2 H2 s2 r2 => by
    obtain ⟨a, kvs, rfl, rd, kr⟩ := rep_dic r2
    refine ⟨a, valV kvs (.inl i), rfl, .inl ⟨kvs, .inl i, ((w.step s1).step s2).fh.rd rd, rep_int r, rfl⟩, ?_⟩
    have e : (valV kvs (.inl i)).isSome = (ks.lookup i).isSome := by
      rcases kr.look i with ⟨d', v', e1, e2, _⟩ | ⟨e1, e2⟩ <;> rw [e1, e2] <;> rfl
    rw [e]; exact q _ F2 H2 (s1.trans w s2) (.py (.bl _))
theorem ed_din {ks : Kvs} {i : Int} (hi : ED K δ H0 ty ρ (.py (.int i))) (hd : ED K δ H0 td ρ (.dic ks)) : ED K δ H0 (tDIn ty td) ρ (.py (.bool (ks.lookup i).isSome)) := fun σ F H re w Q q =>
  hi σ F H re w _ fun u F1 H1 s1 r => hd σ F1 H1 (re.step s1) (w.step s1) _ fun v F2 H2 s2 r2 => by
    obtain ⟨a, kvs, rfl, rd, kr⟩ := rep_dic r2
    refine ⟨a, valV kvs (.inl i), rfl, .inl ⟨kvs, .inl i, ((w.step s1).step s2).fh.rd rd, rep_int r, rfl⟩, ?_⟩
    have e : (valV kvs (.inl i)).isSome = (ks.lookup i).isSome := by
      rcases kr.look i with ⟨d', v', e1, e2, _⟩ | ⟨e1, e2⟩ <;> rw [e1, e2] <;> rfl
    rw [e]; exact q _ F2 H2 (s1.trans w s2) (.py (.bl _))
theorem ed_dget2 {ks : Kvs} {i : Int} {e : PyData} (hd : ED K δ H0 td ρ (.dic ks)) (hi : ED K δ H0 ty ρ (.py (.int i))) (hx : ED K δ H0 tx ρ (.py e)) : ED K δ H0 (tDGet2 td ty tx) ρ (.py ((ks.lookup i).getD e)) := fun σ F H re w Q q =>
  hd σ F H re w _ fun v F1 H1 s1 r => by
    obtain ⟨a, kvs, rfl, rd, kr⟩ := rep_dic r
    refine ⟨a, rfl, .inl ⟨kvs, (w.step s1).fh.rd rd⟩, hi σ F1 H1 (re.step s1) (w.step s1) _ fun u F2 H2 s2 r2 => hx σ F2 H2 ((re.step s1).step s2) ((w.step s1).step s2) _ fun z F3 H3 s3 r3 => ?_⟩
    refine ⟨valV kvs (.inl i), .inl ⟨kvs, .inl i, (((w.step s1).step s2).step s3).fh.rd ((s2.ff.trans s3.ff).rd rd), rep_int (r2.mono s3.ff), rfl⟩, ?_⟩
    refine q _ F3 H3 ((s1.trans w s2).trans w s3) ?_
    rcases kr.look i with ⟨d', v', e1, e2, e3⟩ | ⟨e1, e2⟩ <;> rw [e1, e2]
    · exact .py (dp_mono (s2.ff.trans s3.ff) _ _ e3)
    · exact r3
/-- sorted(d): the keys from below -/
theorem ed_sortedD {ks : Kvs} {ys : List Int} {r : List V → Hp → VK → Prop} (hr : r = fun xs H Q => ∃ (a : Addr) (kvs : List (L2.Key × V)) (ks : List Int), xs = [.ref a] ∧ Rd H a (.dK kvs) ∧ kvs.map (·.1) = ks.map Sum.inl ∧ ks.length < 64 ∧ ∀ (ys : List Int) (p : Addr), ys.Perm ks → ys.Pairwise (· ≤ ·) → H p = none → Q (.ref p) (upd H p (.lst (ys.map V.int))))
    (hd : ED K δ H0 td ρ (.dic ks)) (hl : ks.length < 64) (hy : ys.Perm (ks.map (·.1))) (hs : ys.Pairwise (· ≤ ·)) : EN K δ H0 (tCB r (tCons td tNil)) ρ (ys.map .int) := fun σ F H re w Q q =>
  hd σ F H re w _ fun v F1 H1 s1 rp => by
    obtain ⟨a, kvs, rfl, rd, kr⟩ := rep_dic rp
    subst hr
    refine ⟨a, kvs, ks.map (·.1), rfl, (w.step s1).fh.rd rd, by rw [kr.1, List.map_map]; rfl, by rw [List.length_map]; exact hl, fun zs p pz sz hp => ?_⟩
    have e : zs = ys := (pz.trans hy.symm).eq_of_pairwise (fun a b _ _ h1 h2 => Int.le_antisymm h1 h2) sz hs
    subst e
    exact q _ F1 _ (s1.trans w ((w.step s1).allocU hp)) ⟨p, _, _, rfl, rfl, upd_same, (w.step s1).nn hp, s1.back hp, dpa_ofInts zs⟩
/-! ### new dicts -/
/-- a new dict, not frozen yet -/
def EDD (K : PySem.W.Frag) (δ : Option Addr) (H0 : Hp) (te : TE) (ρ : List Sl) (ks : Kvs) : Prop := EQ K δ H0 te ρ fun H v F' H' => ∃ p kvs, v = .ref p ∧ H' p = some (.dK kvs) ∧ F' p = none ∧ H p = none ∧ KvR K F' kvs ks
theorem ed_edd {ks : Kvs} (h : EDD K δ H0 te ρ ks) : ED K δ H0 te ρ (.dic ks) := fun σ F H re w Q q => h σ F H re w Q fun v F' H' s ⟨p, kvs, e, a, b, c, kr⟩ => by
  subst e
  exact q _ _ H' (s.freeze a b c) (.dic (.inl upd_same) kr.1 (dpa_mono (ex_upd b) _ _ kr.2))
theorem dc_core {wi : TI} {g : TG} {vs js : List Nat} {items : List D} (ρ' : D → List Sl) (kf : D → Int) (vf : D → PyData) {σ : L2.St} {F H : Hp} (re : RepE K δ H0 F H σ ρ) (w : Wd δ F H)
    (hw : ∀ R : It → Hp → Prop, (∀ J F' H', Stp δ F H F' H' → IterD K δ J F' items → R J H') → wi σ H R)
    (hg : ∀ d, d ∈ items → GD K δ H0 g d (wipeS ρ vs) (ρ' d) js) (hj : ∀ j, j ∈ js → j ∈ vs) (hl : items.length ≤ 100000) (hnd : (items.map kf).Nodup)
    (hk : ∀ d, d ∈ items → ED K δ H0 tk (ρ' d) (.py (.int (kf d)))) (hv : ∀ d, d ∈ items → ED K δ H0 tv (ρ' d) (.py (vf d))) {Q : VK}
    (q : ∀ v F' H', Stp δ F H F' H' → (∃ p kvs, v = .ref p ∧ H' p = some (.dK kvs) ∧ F' p = none ∧ H p = none ∧ KvR K F' kvs (items.map fun d => (kf d, vf d))) → Q v H') : tDc wi g tYes tk tv vs σ H Q :=
  hw _ fun It F1 H1 s1 it Dl hD => by
    have w1 := w.step s1
    have nd := w1.nd hD
    refine ⟨fun i m Hc => m = items.length - i ∧ i ≤ items.length ∧ ∃ (Fc : Hp) (kvs : List (L2.Key × V)), Stp δ F1 H1 Fc Hc ∧ Hc Dl = some (.dK kvs) ∧ Fc Dl = none ∧ KvR K Fc kvs ((items.take i).map fun d => (kf d, vf d)),
      ⟨items.length, rfl, Nat.zero_le _, F1, [], w1.refl.mut hD (w1.nn hD) nd, upd_same, w1.nn hD, rfl, .nil⟩, ?_⟩
    rintro i m Hc ⟨rfl, hi, Fc, kvs, sc, hDc, hFD, kr⟩
    have wc := w1.step sc
    by_cases hlt : i < items.length
    · obtain ⟨hgo, hy⟩ := it.go Fc Hc i sc.ff wc hlt
      refine .inr ⟨hgo, fun H' => ∃ m', m' < items.length - i ∧ (m' = items.length - (i + 1) ∧ i + 1 ≤ items.length ∧ ∃ (Fc : Hp) (kvs : List (L2.Key × V)), Stp δ F1 H1 Fc H' ∧ H' Dl = some (.dK kvs) ∧ Fc Dl = none ∧ KvR K Fc kvs ((items.take (i + 1)).map fun d => (kf d, vf d))), fun H' h => h, fun x H2 hyl => ?_⟩
      obtain ⟨F2, d, hd1, s2, r2⟩ := hy x H2 hyl
      have dm := List.mem_of_getElem? hd1
      have w2 := wc.step s2
      have rw2 : RepE K δ H0 F2 H2 (L2.wipe σ vs) (wipeS ρ vs) := (((re.step s1).step sc).step s2).wipe vs
      refine hg d dm (L2.wipe σ vs) F2 H2 x rw2 w2 r2 _ fun σ2 re2 hlen hout => ⟨?_, ?_⟩
      · have e1 : L2.wipe σ2 vs = L2.wipe (L2.wipe σ vs) vs := wipe_same hlen vs fun k hk => hout k fun z => hk (hj k z)
        rw [e1]
        exact wipe_same (wipe_length σ vs) vs fun k hk => wipe_out hk
      · unfold tYes; simp only [if_pos]
        refine hk d dm σ2 F2 H2 re2 w2 _ fun y F3 H3 s3 r3 => hv d dm σ2 F3 H3 (re2.step s3) (w2.step s3) _ fun z F4 H4 s4 r4 => ?_
        have keep : ∀ (Fx Hx Fy Hy : Hp), Stp δ Fx Hx Fy Hy → Hx Dl = some (.dK kvs) → Fx Dl = none → Hy Dl = some (.dK kvs) ∧ Fy Dl = none := fun Fx Hx Fy Hy s h1 h2 => by
          refine ⟨s.keep _ _ h1 nd, ?_⟩
          cases qq : Fy Dl with
          | none => rfl
          | some o =>
            rcases s.new Dl o qq with z | z
            · rw [h2] at z; cases z
            · rw [h1] at z; cases z
        have k2 := keep _ _ _ _ s2 hDc hFD
        have k3 := keep _ _ _ _ s3 k2.1 k2.2
        have k4 := keep _ _ _ _ s4 k3.1 k3.2
        have t4 := ((sc.trans w1 s2).trans w1 s3).trans w1 s4
        have kr4 := kr.mono ((s2.ff.trans s3.ff).trans s4.ff)
        have nk : kf d ∉ ((items.take i).map fun d => (kf d, vf d)).map (·.1) := fun m => by
          rw [List.map_map] at m
          obtain ⟨d', hd', e'⟩ := List.mem_map.mp m
          have nd2 := hnd
          rw [← List.take_append_drop i items, List.map_append, List.nodup_append] at nd2
          refine nd2.2.2 (kf d') (List.mem_map.mpr ⟨d', hd', rfl⟩) (kf d) (List.mem_map.mpr ⟨d, ?_, rfl⟩) e'
          rw [List.drop_eq_getElem_cons hlt]
          have : items[i] = d := by have := List.getElem?_eq_getElem hlt; rw [hd1] at this; exact (Option.some.inj this).symm
          rw [this]; exact List.mem_cons_self
        refine ⟨kvs, .inl (kf d), rep_int r3, k4.1, ?_, items.length - (i + 1), by omega, rfl, hlt, F4, kvs ++ [(.inl (kf d), z)], ?_, ?_, k4.2, ?_⟩
        · have := kr.len
          rw [List.length_map, List.length_take] at this
          exact sz_lt (by omega)
        · exact t4.mut hD k4.2 nd
        · rw [putK_new kr4 nk]; exact upd_same
        · have e : (items.take (i + 1)).map (fun d => (kf d, vf d)) = (items.take i).map (fun d => (kf d, vf d)) ++ [(kf d, vf d)] := by
            rw [List.take_succ, hd1, List.map_append]; rfl
          rw [e]
          exact kr4.snoc (rep_py r4)
    · have e : i = items.length := by omega
      subst e
      rw [List.take_length] at kr
      exact .inl ⟨it.stop Fc Hc _ sc.ff wc rfl, q _ Fc Hc (s1.trans w sc) ⟨Dl, kvs, rfl, hDc, hFD, s1.back hD, kr⟩⟩
theorem edd_dc {wi : TI} {g : TG} {vs js : List Nat} {items : List D} (hw : WI K δ H0 wi ρ items) (ρ' : D → List Sl) (kf : D → Int) (vf : D → PyData)
    (hg : ∀ d, d ∈ items → GD K δ H0 g d (wipeS ρ vs) (ρ' d) js) (hj : ∀ j, j ∈ js → j ∈ vs) (hl : items.length ≤ 100000) (hnd : (items.map kf).Nodup)
    (hk : ∀ d, d ∈ items → ED K δ H0 tk (ρ' d) (.py (.int (kf d)))) (hv : ∀ d, d ∈ items → ED K δ H0 tv (ρ' d) (.py (vf d))) : EDD K δ H0 (tDc wi g tYes tk tv vs) ρ (items.map fun d => (kf d, vf d)) := fun σ F H re w Q q =>
  dc_core ρ' kf vf re w (hw σ F H re w) hg hj hl hnd hk hv q
/-- either reading -/
def tOrE (s t : TE) : TE := fun σ H Q => s σ H Q ∨ t σ H Q
theorem pe_orE {X : Cx} {e : Expr} {s t : TE} (h1 : PE X e s) (h2 : PE X e t) : PE X e (tOrE s t) := ⟨fun pins c σ H Q I h => h.elim (h1.run pins c σ H Q I) (h2.run pins c σ H Q I)⟩
theorem pe_unl {X : Cx} {e : Expr} {t : TE} (h : PE X e t) : PE X e (tOrE t (tLockE t)) := pe_orE h (pe_lock h)
def itemsD (ks : Kvs) : List D := ks.map fun p => .py (.tuple [.int p.1, p.2])
theorem iter_items {F : Hp} {a : Addr} {o : Obj} {kvs : List (L2.Key × V)} {ks : Kvs} (h : F a = some (.frz o (.dK kvs))) (kr : KvR K F kvs ks) : IterD K δ (Iti a o kvs) F (itemsD ks) := by
  have len : (itemsD ks).length = kvs.length := by unfold itemsD; rw [List.length_map, kr.len]
  refine IterD.of (fun F1 H1 i ex w hi => ?_) (fun F1 H1 i ex w hi => ?_)
  · rw [len] at hi
    refine ⟨⟨w.fh a _ (ex a _ h), hi⟩, fun x H2 ⟨T, k, v, e1, e2, e3, e4⟩ => ?_⟩
    have h1 : (kvs.map (·.1))[i]? = some k := by rw [List.getElem?_map, e1]; rfl
    have h2 : (kvs.map (·.2))[i]? = some v := by rw [List.getElem?_map, e1]; rfl
    rw [kr.1, List.getElem?_map] at h1
    cases q : ks[i]? with
    | none => rw [q] at h1; cases h1
    | some p =>
      rw [q] at h1
      cases h1
      obtain ⟨d, hd, dd⟩ := dpa_get2 kr.2 h2
      rw [List.getElem?_map, q] at hd
      cases hd
      obtain ⟨F2, st, rr⟩ := pair_new (K := K) (a := .int p.1) w e3 (.int _) (dp_mono ex _ _ dd)
      refine ⟨F2, _, ?_, by rw [e4]; exact st, by rw [e2]; exact rr⟩
      unfold itemsD
      rw [List.getElem?_map, q]; rfl
  · rw [len] at hi
    exact ⟨w.fh a _ (ex a _ h), hi⟩
/-- {k: v for .. in d.items()}, d a variable -/
theorem edd_items {i : Nat} {g : TG} {vs js : List Nat} {ks : Kvs} (h : ρ[i]? = some (.fz (.dic ks))) (ρ' : D → List Sl) (kf : D → Int) (vf : D → PyData)
    (hg : ∀ d, d ∈ itemsD ks → GD K δ H0 g d (wipeS ρ vs) (ρ' d) js) (hj : ∀ j, j ∈ js → j ∈ vs) (hl : ks.length ≤ 100000) (hnd : ((itemsD ks).map kf).Nodup)
    (hk : ∀ d, d ∈ itemsD ks → ED K δ H0 tk (ρ' d) (.py (.int (kf d)))) (hv : ∀ d, d ∈ itemsD ks → ED K δ H0 tv (ρ' d) (.py (vf d))) :
    EDD K δ H0 (tOrE (tDc (iItems (tVar i)) g tYes tk tv vs) (tLockE (tDc (iItems (tVar i)) g tYes tk tv vs))) ρ ((itemsD ks).map fun d => (kf d, vf d)) := fun σ F H re w Q q => by
  obtain ⟨v, es, r⟩ := re.fz i _ h
  obtain ⟨a, kvs, rfl, rd, kr⟩ := rep_dic r
  have hl2 : (itemsD ks).length ≤ 100000 := by unfold itemsD; rw [List.length_map]; exact hl
  rcases rd with rd | ⟨o, rd⟩
  · right
    refine ⟨a, .dK kvs, w.fh a _ rd, trivial, fun od => ?_⟩
    obtain ⟨re1, w1⟩ := re.lock (od := od) w rd
    have kr1 : KvR K (upd F a (.frz od (.dK kvs))) kvs ks := ⟨kr.1, dpa_tr (tr_lock rd) _ _ kr.2⟩
    refine dc_core ρ' kf vf re1 w1 (fun R hR => ⟨_, es, a, od, kvs, rfl, upd_same, hR _ _ _ w1.refl (iter_items upd_same kr1)⟩) hg hj hl2 hnd hk hv fun v F' H' s' ⟨p, kvs', e, hp, fp, hp0, kr'⟩ => ?_
    obtain ⟨s2, f2, h2⟩ := s'.free w rd
    refine ⟨h2, q v _ _ s2 ⟨p, kvs', e, ?_, ?_, ?_, ⟨kr'.1, dpa_tr (tr_free f2) _ _ kr'.2⟩⟩⟩
    all_goals have ne : p ≠ a := fun z => by subst z; rw [upd_same] at hp0; cases hp0
    · rw [upd_ne ne]; exact hp
    · rw [upd_ne ne]; exact fp
    · rw [upd_ne ne] at hp0; exact hp0
  · left
    exact dc_core ρ' kf vf re w (fun R hR => ⟨_, es, a, o, kvs, rfl, w.fh a _ rd, hR _ _ _ w.refl (iter_items rd kr)⟩) hg hj hl2 hnd hk hv q
/-- {k: v} -/
theorem edd_one {k : Int} {e : PyData} (hk : ED K δ H0 tk ρ (.py (.int k))) (hv : ED K δ H0 tv ρ (.py e)) : EDD K δ H0 (tDisp [(tk, tv)]) ρ [(k, e)] := fun σ F H re w Q q p hp => by
  have s0 := w.allocU (o := .dK []) hp
  have w0 := w.step s0
  have nd := w.nd hp
  refine hk σ F _ (re.step s0) w0 _ fun y F1 H1 s1 r1 => hv σ F1 H1 ((re.step s0).step s1) (w0.step s1) _ fun z F2 H2 s2 r2 => ?_
  have keep : ∀ (Fx Hx Fy Hy : Hp), Stp δ Fx Hx Fy Hy → Hx p = some (.dK []) → Fx p = none → Hy p = some (.dK []) ∧ Fy p = none := fun Fx Hx Fy Hy s h1 h2 => by
    refine ⟨s.keep _ _ h1 nd, ?_⟩
    cases qq : Fy p with
    | none => rfl
    | some o =>
      rcases s.new p o qq with z | z
      · rw [h2] at z; cases z
      · rw [h1] at z; cases z
  have k1 := keep _ _ _ _ s1 upd_same (w.nn hp)
  have k2 := keep _ _ _ _ s2 k1.1 k1.2
  refine ⟨k2.1, [(.inl k, z)], by rw [rep_int r1]; rfl, (by show 1 ≤ 15; omega), q _ F2 _ (((s0.trans w s1).trans w s2).mut hp k2.2 nd) ⟨p, _, rfl, upd_same, k2.2, hp, ?_⟩⟩
  exact ⟨rfl, .cons (rep_py r2) .nil⟩
end
end Dl
set_option Elab.async false
set_option linter.all false
set_option maxRecDepth 100000
set_option maxHeartbeats 2000000
namespace Dl
open PySem PySem.Spec PyProof.Rows L2 SlX
/-! ### {**a, **b}, keys ints and texts, none twice -/
section
variable {prog : Program} {w : World} {KK : Type} [DecidableEq KK] {knd : KeyKind prog w KK} {A : Around} {E : Value → Shared → Prop} {s : Shared}
theorem dictPut_new {d : Addr} {kvs : List (KK × Value)} {k : KK} {key v : Value} {Q : Unit → Shared → Prop} (hkey : knd.is k key = true) (hm : s.heap.DictOf knd d kvs) (hnot : k ∉ kvs.map (·.1))
    (hQ : ∀ h', h'.DictOf knd d (kvs ++ [(k, v)]) → Heap.SameBut d s.heap h' → Q () { s with heap := h' }) (hsz : kvs.length ≤ sizeLine) : wpAny (model prog w) A (dictPut d (knd.hash k) key v) Q E s := by
  obtain ⟨o, es, ep, ho, hc, hd, hk, hp, hn⟩ := hm
  have hes : es.size ≤ sizeLine := by
    have e1 := hp.length
    rw [Array.length_toList] at e1
    omega
  unfold dictPut
  refine wpAny_bind (wpAny_dictFind_of hkey ho hd hk ?_)
  have hidx : (es.findIdx? fun e => knd.is k e.key) = none := by
    have e1 : (es.findIdx? fun e => knd.is k e.key) = kvs.findIdx? fun kv => decide (kv.1 = k) := by rw [← hp.findIdx k]; obtain ⟨l⟩ := es; simp
    rw [e1, List.findIdx?_eq_none_iff]
    intro p hp
    exact decide_eq_false fun z => hnot (z ▸ List.mem_map.mpr ⟨p, hp, rfl⟩)
  rw [hidx]
  refine wpAny_updateDictKeys (hz := hes) ho hd (hQ _ ⟨_, _, ep + 1, Heap.get?_update_self _ ho (Obj.isFreed_of_dict (Obj.data_mapDictKeys hd _)), hc.mapDictKeys _, Obj.data_mapDictKeys hd _, hk.push hkey _, ?_, ?_⟩ (Heap.SameBut.update ..))
  · have := hp.append hkey (knd.hash k) v
    obtain ⟨l⟩ := es
    simpa using this
  · rw [List.map_append, List.nodup_append]
    refine ⟨hn, by simp, fun a ha b hb e => ?_⟩
    have eb : b = k := by simpa using hb
    exact hnot (by rw [← eb, ← e]; exact ha)
theorem merge_new {d o : Addr} {kvs more : List (KK × Value)} {Q : Unit → Shared → Prop} (hdo : d ≠ o) (hoS : (o == sysModules) = false) (hd : s.heap.DictOf knd d kvs) (ho : s.heap.DictOf knd o more)
    (nr : ∀ k a, knd.is k (.ref a) = false) (fr : ((kvs ++ more).map (·.1)).Nodup) (hQ : ∀ h', h'.DictOf knd d (kvs ++ more) → h'.DictOf knd o more → Heap.SameBut d s.heap h' → Q () { s with heap := h' })
    (hsz : kvs.length + more.length ≤ sizeLine) : wpAny (model prog w) A (mergeMapping d (.ref o) false) Q E s := by
  obtain ⟨od, esd, epd, hod, hcd, hdd, hkd, hpd, hnd⟩ := id hd
  obtain ⟨oo, eso, epo, hoo, hco, hdo', hko, hpo, hno⟩ := id ho
  have hlen : more.length = eso.size := by rw [← hpo.length]; simp
  unfold mergeMapping
  refine wpAny_bind (m := isInstance (.ref o) (.type "dict")) (wpAny_isInstance ho.typeIs isSubtype_dict_dict ?_)
  simp only [if_true]
  refine wpAny_bind (wpAny_specialOf ho.typeIs F.slot_dict_iter.lookup (wpAny_bind (wpAny_pure ?_)))
  simp only [beq_self_eq_true]
  rw [if_neg (by rw [hoS]; exact Bool.false_ne_true)]
  refine wpAny_bind (wpAny_dictEntries hod hdd ?_)
  have loop : wpAny (model prog w) A (do
      let l ← dictEntries o
      let epoch ← dictEpoch o
      forIn (List.range l.size) PUnit.unit fun i (_ : PUnit) => (do
        let l' ← dictEntries o
        match l'[i]? with
          | some e => do
            holding [e.key, e.val]
              (if false = true then do
                let f ← dictFind d e.key e.hash
                if f.isSome = true then do
                    rule "dict.merge.duplicate-key"
                    let x ← newExc (Value.type "KeyError") [e.key]
                    raiseNew x
                    dictPut d e.hash e.key e.val
                  else dictPut d e.hash e.key e.val
              else dictPut d e.hash e.key e.val)
            let ep' ← dictEpoch o
            if (ep' != epoch) = true then do
                (unsupported "dict.changed-during-merge" : Sem PUnit)
                pure (ForInStep.yield PUnit.unit)
              else pure (ForInStep.yield PUnit.unit)
          | _ => do
            (unsupported "dict.changed-during-merge" : Sem PUnit)
            pure (ForInStep.yield PUnit.unit) : Sem (ForInStep PUnit))
      pure ()) Q E s := by
    refine wpAny_bind (wpAny_dictEntries hoo hdo' (wpAny_bind (wpAny_dictEpoch hoo hdo' (wpAny_bind ?_))))
    refine wpAny_forIn_list _ (fun rest _ s' => ∃ h' i, s' = { s with heap := h' } ∧ rest = (List.range eso.size).drop i ∧ i ≤ eso.size ∧ h'.DictOf knd d (kvs ++ more.take i) ∧ h'.get? o = some oo ∧ Heap.SameBut d s.heap h') _ ?_ ?_ _ _
      ⟨s.heap, 0, rfl, rfl, Nat.zero_le _, by simpa using hd, hoo, Heap.SameBut.refl _ _⟩
    · rintro x rest b s' ⟨h', i, rfl, hr, hi, hd', hoo', hs'⟩
      have hlt : i < eso.size := by
        rcases Nat.lt_or_ge i eso.size with h | h
        · exact h
        · rw [List.drop_eq_nil_of_le (by rw [List.length_range]; exact h)] at hr; cases hr
      rw [List.drop_eq_getElem_cons (by rw [List.length_range]; exact hlt), List.getElem_range] at hr
      injection hr with h1 h2
      subst h1
      refine wpAny_bind (wpAny_dictEntries hoo' hdo' ?_)
      rw [Array.getElem?_eq_getElem hlt]
      obtain ⟨⟨k, v⟩, hkv⟩ : ∃ kv, more[x]? = some kv := ⟨more[x]'(by rw [hlen]; exact hlt), List.getElem?_eq_getElem _⟩
      obtain ⟨hkey, hval⟩ := hpo.get? (e := eso[x]) (by simp [hlt]) hkv
      obtain ⟨k', hkey', hhash⟩ := hko eso[x] (Array.getElem_mem hlt)
      obtain rfl : k' = k := knd.inj _ _ _ hkey' hkey
      have etake : more.take (x + 1) = more.take x ++ [(k', v)] := by rw [List.take_succ, hkv]; rfl
      have hn2 : k' ∉ (kvs ++ more.take x).map (·.1) := by
        have hfull : kvs ++ more = (kvs ++ more.take x) ++ ((k', v) :: more.drop (x + 1)) := by
          have e1 : more = more.take x ++ (k', v) :: more.drop (x + 1) := by
            have hx : x < more.length := by rw [hlen]; exact hlt
            have e2 : more[x] = (k', v) := by rw [List.getElem?_eq_getElem hx] at hkv; exact Option.some.inj hkv
            rw [← e2, ← List.drop_eq_getElem_cons hx, List.take_append_drop]
          rw [List.append_assoc, ← e1]
        rw [hfull, List.map_append, List.nodup_append] at fr
        exact fun m => fr.2.2 k' m k' (by simp) rfl
      have hmx : (kvs ++ more.take x).length ≤ sizeLine := by
        rw [List.length_append, List.length_take]; omega
      dsimp only
      rw [if_neg Bool.false_ne_true, hhash, hval]
      refine wpAny_bind (wpAny_holding (dictPut_new (s := { s with heap := h' }) hkey hd' hn2 (fun h'' hd'' hs'' => ?_) hmx))
      have hoo'' : h''.get? o = some oo := (hs''.2 o (Ne.symm hdo)).trans hoo'
      refine wpAny_bind (wpAny_dictEpoch hoo'' hdo' ?_)
      rw [if_neg (by simp)]
      exact wpAny_pure ⟨h'', x + 1, rfl, h2, hlt, by rw [etake, ← List.append_assoc]; exact hd'', hoo'', hs'.trans hs''⟩
    · rintro b s' ⟨h', i, rfl, hr, hi, hd', hoo', hs'⟩
      have hin : i = eso.size := by
        rcases Nat.lt_or_ge i eso.size with h | h
        · rw [List.drop_eq_getElem_cons (by rw [List.length_range]; exact h)] at hr; cases hr
        · exact Nat.le_antisymm hi h
      rw [hin, ← hlen, List.take_length] at hd'
      exact wpAny_pure (hQ h' hd' ⟨oo, eso, epo, hoo', hco, hdo', hko, hpo, hno⟩ hs')
  split
  · refine wpAny_bind (wpAny_dictEntries hoo hdo' (wpAny_bind ?_))
    rw [← Array.forIn_toList]
    refine wpAny_forIn_list _ (fun rest _ s' => s' = s ∧ ∀ e ∈ rest, e ∈ eso) _ ?_ ?_ _ _ ⟨rfl, fun e he => Array.mem_toList_iff.mp he⟩
    · rintro x rest b s' ⟨rfl, hm⟩
      obtain ⟨k, hk1, _⟩ := hko x (hm x List.mem_cons_self)
      have hm2 : ∀ e ∈ rest, e ∈ eso := fun e he => hm e (List.mem_cons_of_mem _ he)
      split
      · rename_i a ha
        rw [ha, nr] at hk1; cases hk1
      · exact wpAny_pure ⟨rfl, hm2⟩
    · rintro b s' ⟨rfl, _⟩
      exact loop
  · exact loop
theorem display2 {t1 t2 : Sem Value} {Q : Value → Shared → Prop}
    (h : wpAny (model prog w) A t1 (fun m s1 => ∃ a more, m = .ref a ∧ s.heap.objs.size ≠ a ∧ (a == sysModules) = false ∧ s1.heap.DictOf knd s.heap.objs.size [] ∧ s1.heap.DictOf knd a more ∧ more.length ≤ sizeLine ∧
      ∀ h', h'.DictOf knd s.heap.objs.size more → h'.DictOf knd a more → Heap.SameBut s.heap.objs.size s1.heap h' → wpAny (model prog w) A t2 (fun m2 s2 => ∃ b more' more2, m2 = .ref b ∧ s.heap.objs.size ≠ b ∧ (b == sysModules) = false ∧ s2.heap.DictOf knd s.heap.objs.size more' ∧ s2.heap.DictOf knd b more2 ∧
        more'.length + more2.length ≤ sizeLine ∧ ((more' ++ more2).map (·.1)).Nodup ∧ ∀ h'', h''.DictOf knd s.heap.objs.size (more' ++ more2) → Heap.SameBut s.heap.objs.size s2.heap h'' → Q (.ref s.heap.objs.size) { s2 with heap := h'' }) E { s1 with heap := h' }) E
      { s with heap := s.heap.push { cls := .type "dict", data := .dict #[] } })
    (nr : ∀ k a, knd.is k (.ref a) = false) : wpAny (model prog w) A (dictDisplay [(none, t1), (none, t2)]) Q E s := by
  unfold dictDisplay
  dsimp only
  simp only [List.forIn_cons, List.forIn_nil, List.isEmpty_nil, if_true, pure_bind]
  refine wpAny_bind (wpAny_bind (wpAny_bind (wpAny_alloc ?_)))
  refine wpAny_bind (wpAny_holding (wpAny_mono h (fun m s1 hm => ?_) fun _ _ e => e))
  obtain ⟨a, more, rfl, ne1, sy1, d1, d2, sz1, k1⟩ := hm
  refine wpAny_bind (wpAny_onRaise (wpAny_tryCatch (wpAny_onRaise (wpAny_holding (merge_new ne1 sy1 d1 d2 nr (by rw [List.nil_append]; obtain ⟨_, _, _, _, _, _, _, _, z⟩ := d2; exact z) (fun h' e1 e2 e3 => ?_) (by simpa using sz1))))))
  rw [List.nil_append] at e1
  refine wpAny_pure ?_
  dsimp only
  simp only [List.isEmpty_nil, if_true]
  simp only [pure_bind]
  refine wpAny_bind (wpAny_bind (wpAny_holding (wpAny_mono (k1 h' e1 e2 e3) (fun m2 s2 hm2 => ?_) fun _ _ e => e)))
  obtain ⟨b, more', more2, rfl, ne2, sy2, d3, d4, sz2, nd2, k2⟩ := hm2
  refine wpAny_bind (wpAny_onRaise (wpAny_tryCatch (wpAny_onRaise (wpAny_holding (merge_new ne2 sy2 d3 d4 nr nd2 (fun h'' g1 g2 g3 => ?_) sz2)))))
  refine wpAny_pure ?_
  dsimp only
  exact wpAny_pure (wpAny_pure (k2 h'' g1 g3))
end
section
variable {X : Cx}
theorem mix_nr {P : Program} {w : World} : ∀ (k : L2.Key) (a : Addr), (mixKind P w).is k (.ref a) = false
  | .inl _, _ => rfl
  | .inr _, _ => rfl
/-- {**e1, **e2}, no key twice -/
def tMerge (t1 t2 : TE) : TE := fun σ H Q => ∀ p, H p = none → t1 σ (upd H p (.dK [])) fun x H1 => ∃ a kvs, x = .ref a ∧ a ≠ p ∧ H1 p = some (.dK []) ∧ Rd H1 a (.dK kvs) ∧
  t2 σ (upd H1 p (.dK kvs)) fun y H2 => ∃ b kvs2, y = .ref b ∧ b ≠ p ∧ H2 p = some (.dK kvs) ∧ Rd H2 b (.dK kvs2) ∧ kvs.length + kvs2.length ≤ 100000 ∧ ((kvs ++ kvs2).map (·.1)).Nodup ∧ Q (.ref p) (upd H2 p (.dK (kvs ++ kvs2)))
theorem kv_app {ks ls : List (L2.Key × V)} {vs us : List (L2.Key × Value)} (h : KV ks vs) (h2 : KV ls us) : KV (ks ++ ls) (vs ++ us) := by
  unfold KV at h h2 ⊢
  induction h with
  | nil => exact h2
  | cons a _ ih => exact .cons a ih
theorem pe_merge {e1 e2 : Expr} {pos : Pos} {t1 t2 : TE} (h1 : PE X e1 t1) (h2 : PE X e2 t2) : PE X (.Dict [none, none] [e1, e2] pos) (tMerge t1 t2) := by
  refine ⟨fun pins s σ H Q I q => ?_⟩
  rw [arm_eval_Dict]
  refine wpAny_bind (wpAny_standAt ?_)
  show wpAny _ _ (dictDisplay [(none, do let x ← eval e1 X.env; standAt pos; pure x), (none, do let x ← eval e2 X.env; standAt pos; pure x)]) _ _ s
  have hn := I.hok.fresh (Nat.le_refl s.heap.objs.size)
  have I1 := I.laid (a := s.heap.objs.size) (o := .dK []) (h' := s.heap.push { cls := .type "dict", data := .dict #[] }) (t' := s.toks) (fun _ _ q => Heap.get?_push_of_some _ q) (Nat.le_refl _) (dk_empty s.heap I.big)
  refine display2 (knd := mixKind X.prog X.w) (wpAny_bind (thn (h1.run pins _ σ _ _ I1 (q _ hn)) fun u s1 ⟨x, H1, I2, rx, a, kvs, ex, na, hp, hr, q2⟩ => wpAny_bind (wpAny_standAt (wpAny_pure ?_)))) mix_nr
  subst ex
  cases (show u = Value.ref a from rx)
  obtain ⟨z1, sy1, vs, rel, dd⟩ := dk_rd I2.hok hr
  obtain ⟨z0, sy0, vs0, r0, dd0⟩ := dk_of I2.hok hp
  cases r0
  refine ⟨a, vs, rfl, Ne.symm na, sy1, dd0, dd, by rw [← rel.length]; exact z1, fun h' m1 m2 sb => ?_⟩
  have he : ∃ q, h'.get? s.heap.objs.size = some q := let ⟨q, _, _, hq, _⟩ := m1; ⟨q, hq⟩
  have I3 := d_write (t' := s1.toks) I2 (by rw [hp]; exact True.intro) sb he (dk_new z1 sy0 rel m1)
  refine wpAny_bind (thn (h2.run pins _ σ _ _ I3 q2) fun u2 s2 ⟨y, H2, I4, ry, b, kvs2, ey, nb, hp2, hr2, hlen, hnd, q3⟩ => wpAny_bind (wpAny_standAt (wpAny_pure ?_)))
  subst ey
  cases (show u2 = Value.ref b from ry)
  obtain ⟨z2, sy2, vs2, rel2, dd2⟩ := dk_rd I4.hok hr2
  obtain ⟨_, _, vs', r', dd'⟩ := dk_of I4.hok hp2
  have rl := kv_app r' rel2
  refine ⟨b, vs', vs2, rfl, Ne.symm nb, sy2, dd', dd2, ?_, by rw [← rl.keys]; exact hnd, fun h'' m3 sb2 => ?_⟩
  · rw [← r'.length, ← rel2.length]; exact sz_of hlen
  · have he2 : ∃ q, h''.get? s.heap.objs.size = some q := let ⟨q, _, _, hq, _⟩ := m3; ⟨q, hq⟩
    exact ⟨.ref s.heap.objs.size, _, d_write (t' := s2.toks) I4 (by rw [hp2]; exact True.intro) sb2 he2 (dk_new (by rw [List.length_append]; exact sz_of hlen) sy0 rl m3), rfl, q3⟩
end
section
variable {K : PySem.W.Frag} {δ : Option Addr} {F0 H0 : Hp} {ρ : List Sl} {t1 t2 : TE}
theorem stay {F H F' H' : Hp} {p : Addr} {u : HO} (s : Stp δ F H F' H') (nd : δ ≠ some p) (h1 : H p = some u) (h2 : F p = none) : H' p = some u ∧ F' p = none := by
  refine ⟨s.keep _ _ h1 nd, ?_⟩
  cases q : F' p with
  | none => rfl
  | some o =>
    rcases s.new p o q with z | z
    · rw [h2] at z; cases z
    · rw [h1] at z; cases z
theorem edd_merge {ks1 ks2 : Kvs} (h1 : EDD K δ H0 t1 ρ ks1) (h2 : ED K δ H0 t2 ρ (.dic ks2)) (hl : ks1.length + ks2.length ≤ 100000) (hn : ((ks1 ++ ks2).map (·.1)).Nodup) : EDD K δ H0 (tMerge t1 t2) ρ (ks1 ++ ks2) := fun σ F H re w Q q p hp => by
  have s0 := w.allocU (o := .dK []) hp
  have w0 := w.step s0
  have nd := w.nd hp
  refine h1 σ F _ (re.step s0) w0 _ fun v F1 H1 s1 ⟨a, kvs, e, ha, fa, ha0, kr⟩ => ?_
  subst e
  have na : a ≠ p := fun z => by subst z; rw [upd_same] at ha0; cases ha0
  obtain ⟨p1, f1⟩ := stay s1 nd upd_same (w.nn hp)
  refine ⟨a, kvs, rfl, na, p1, .inl ha, ?_⟩
  have s01 := (s0.trans w s1).mut (o := .dK kvs) hp f1 nd
  have w1 := w.step s01
  refine h2 σ F1 _ (re.step s01) w1 _ fun u F2 H2 s2 r => ?_
  obtain ⟨b, kvs2, rfl, rd, kr2⟩ := rep_dic r
  obtain ⟨p2, f2⟩ := stay s2 nd upd_same f1
  have w2 := w1.step s2
  have nb : b ≠ p := fun z => by
    subst z
    rcases rd with rd | ⟨o, rd⟩ <;> rw [f2] at rd <;> cases rd
  have kr1 := kr.mono s2.ff
  refine ⟨b, kvs2, rfl, nb, p2, w2.fh.rd rd, by rw [kr.len, kr2.len]; exact hl, ?_, ?_⟩
  · have e : (kvs ++ kvs2).map (·.1) = ((ks1 ++ ks2).map (·.1)).map Sum.inl := by
      rw [List.map_append, kr.1, kr2.1, List.map_append, List.map_append, List.map_map, List.map_map]; rfl
    rw [e]
    exact (List.Pairwise.map _ (fun a b n z => n (by cases z; rfl)) hn)
  · refine q _ F2 _ ((s01.trans w s2).mut hp f2 nd) ⟨p, _, rfl, upd_same, f2, hp, ?_, ?_⟩
    · rw [List.map_append, List.map_append, kr1.1, kr2.1]
    · rw [List.map_append, List.map_append]
      exact dpa_app kr1.2 kr2.2
end
end Dl
set_option Elab.async false
set_option linter.all false
set_option maxRecDepth 100000
set_option maxHeartbeats 2000000
namespace Dl
open PySem PySem.Spec PyProof.Rows L2 SlX
/-! ### stars, index of a tuple, ranges made tuples, gcd -/
section
variable {K : PySem.W.Frag} {δ : Option Addr} {F0 H0 : Hp} {ρ : List Sl} {te ta tb : TE} {t : TA}
theorem reps_ofD : ∀ {vs : List V} {ds : List PyData} {F : Hp}, DpAll K F vs ds → Reps K δ F vs (ds.map .py)
  | _, [], _, h => by cases h; exact .nil
  | _, d :: ds, _, h => by
    cases h with
    | cons h1 h2 => exact .cons (.py h1) (reps_ofD h2)
theorem reps_app : ∀ {vs ws : List V} {ds es : List D} {F : Hp}, Reps K δ F vs ds → Reps K δ F ws es → Reps K δ F (vs ++ ws) (ds ++ es)
  | _, _, _, _, _, .nil, h => h
  | _, _, _, _, _, .cons a r, h => .cons a (reps_app r h)
theorem ad_star {xs : List PyData} {ds : List D} (h : EL K δ H0 te ρ xs) (ht : AD K δ H0 t ρ ds) : AD K δ H0 (StX.tStar K te t) ρ (xs.map .py ++ ds) := fun σ F H re w Q q =>
  h σ F H re w _ fun v F1 H1 s1 ⟨a, vs, e, la, dp⟩ => ⟨a, vs, e, .inr (la.sql (w.step s1).fh), ht σ F1 H1 (re.step s1) (w.step s1) _ fun ws es F2 H2 s2 ee r => by
    subst ee
    exact q _ _ F2 H2 (s1.trans w s2) rfl (reps_app (reps_ofD (dpa_mono s2.ff _ _ dp)) r)⟩
theorem ed_tupRg1 {n : Int} (h : ED K δ H0 te ρ (.py (.int n))) (h0 : 0 ≤ n) (h1 : n ≤ 1000) : ED K δ H0 (tTupRg (tRg1 te)) ρ (.py (.tuple ((List.range n.toNat).map fun (i : Nat) => .int (i : Int)))) := fun σ F H re w Q q =>
  h σ F H re w _ fun v F1 H1 s1 r => ⟨n, rep_int r, RgOk.of_le (by omega) (by omega) (by omega) h0, fun p hp => by
    refine q _ (upd F1 p (.tup (rgV 0 n))) _ (s1.trans w ((w.step s1).alloc hp)) (.py (.tup (SqT.of upd_same) ?_))
    have e : rgV 0 n = ((List.range n.toNat).map fun (i : Nat) => (i : Int)).map V.int := by
      unfold rgV
      rw [List.map_map, Int.sub_zero]
      exact List.map_congr_left fun i _ => by show V.int (0 + (i : Int)) = V.int (i : Int); rw [Int.zero_add]
    have e2 : ((List.range n.toNat).map fun (i : Nat) => PyData.int (i : Int)) = ((List.range n.toNat).map fun (i : Nat) => (i : Int)).map PyData.int := by rw [List.map_map]; rfl
    rw [e, e2]
    exact dpa_ofInts _⟩
theorem ed_gcd {i j : Int} (ha : ED K δ H0 ta ρ (.py (.int i))) (hb : ED K δ H0 tb ρ (.py (.int j))) : ED K δ H0 (tCB rGcd (tCons ta (tCons tb tNil))) ρ (.py (.int ((Nat.gcd i.natAbs j.natAbs : Nat) : Int))) := fun σ F H re w Q q =>
  ha σ F H re w _ fun v F1 H1 s1 r1 => hb σ F1 H1 (re.step s1) (w.step s1) _ fun u F2 H2 s2 r2 => ⟨i, j, by rw [rep_int r1, rep_int r2], q _ F2 H2 (s1.trans w s2) (.py (.int _))⟩
end
section
variable {X : Cx}
/-- t.index(i), t a tuple of ints: the first place -/
def rIxTI (K : PySem.W.Frag) : V → List V → Hp → VK → Prop := fun x xs H Q => ∃ (p : Addr) (ns : List Int) (i : Int) (j : Nat), x = .ref p ∧ xs = [.int i] ∧ SqT K H p (ns.map V.int) ∧ ns[j]? = some i ∧ (∀ m, m < j → ns[m]? ≠ some i) ∧ Q (.int (j : Nat)) H
theorem flat_ints (ns : List Int) : (ns.map V.int).all flatV = true := by
  rw [List.all_map]; exact List.all_eq_true.mpr fun _ _ => rfl
theorem mt_indexTI : MtR X "tuple.index" (rIxTI X.K) := by
  intro pins s σ H x xs v us Q I rx rs h
  obtain ⟨p, ns, i, j, rfl, rfl, hq, hy, hno, q⟩ := h
  cases rx
  obtain ⟨u, rfl, t, rfl⟩ := vals1 rs
  obtain ⟨its, r, ⟨⟨cls, dd, dt, sl⟩, ho, hc, n, hd⟩, hz⟩ := I.tuple hq
  simp only at hc hd
  subst hc hd
  have hl : its.toArray.size = ns.length := by rw [List.size_toArray, ← r.length, List.length_map]
  have hj : j < its.toArray.size := by rw [hl]; exact (List.getElem?_eq_some_iff.mp hy).1
  have there : ∀ (m : Nat) (hm : m < its.toArray.size), ∃ y t', ns[m]? = some y ∧ its.toArray[m] = Value.int y t' := fun m hm => by
    have hm' : m < ns.length := by rw [← hl]; exact hm
    obtain ⟨w, hw, t', hw'⟩ := r.get (i := m) (x := .int ns[m]) (by simp [hm'])
    refine ⟨ns[m], t', List.getElem?_eq_getElem hm', ?_⟩
    have e := (List.getElem?_eq_some_iff.mp hw).2
    rw [← hw', ← e]; simp
  refine call_meets PySem.F.slot_tuple_index ⟨_, ho, rfl⟩ PySem.F.entry_tuple_index (PySem.F.args_tuple_index_2 _ _) (TI.tuple_indexAt p its.toArray n dd sl (.int i t) (eqU (.int i)) j hj ?_ ?_)
    ⟨ho, fun w hw => mem_eqAt (x := .int i) ⟨t, rfl⟩ rfl r (flat_ints ns) w (by simpa using hw), ⟨.int (j : Nat), H, I.tok _, ⟨_, rfl⟩, q⟩⟩
  · obtain ⟨y, t', h1, h2⟩ := there j hj
    rw [hy] at h1; cases h1
    rw [h2]; show (i == i) = true
    exact beq_self_eq_true i
  · intro m hm hmj
    obtain ⟨y, t', h1, h2⟩ := there m hm
    rw [h2]; show (y == i) = false
    exact beq_eq_false_iff_ne.mpr fun e => hno m hmj (e ▸ h1)
/-- a method of a tuple whose object is known -/
def tTM (K : PySem.W.Frag) (r : V → List V → Hp → VK → Prop) (to : TE) (t : TA) : TE := fun σ H Q => to σ H fun x H1 => (∃ a o xs, x = .ref a ∧ H1 a = some (.frz o (.tup xs)) ∧ o.cls = .type "tuple" ∧ o.dict = none) ∧ t σ H1 fun ys H2 => r x ys H2 Q
theorem pe_tm {o e : Expr} {es : List Expr} {to : TE} {t : TA} {name : Str} {apos cpos : Pos} {id : String} {r : V → List V → Hp → VK → Prop} (pa : PlainAttrs "tuple") (slot : Slot "tuple" name id) (hty : typeOf (.builtin id) = pure (.type "method_descriptor")) (hm : MtR X id r) (ho : PE X o to) (ha : PA X (e :: es) t)
    (hbase : attributeBase o name X.env (eval o X.env) = eval o X.env := by rfl)
    (hfew : ((backTo cpos (starEach (e :: es) X.env)).all (fun x => !x.1) && (backToKw cpos (keywordEach [] X.env)).all (fun x => x.1.isSome) && decide ((e :: es).length + ([] : List Keyword).length + (if ([] : List Keyword).isEmpty then 0 else 1) < 30)) = true := by rfl)
    (hline : (apos.endLine == cpos.line) = true := by rfl) (hs : starEach (e :: es) X.env = (false, eval e X.env) :: starEach es X.env := by rfl) (hplain : (backTo cpos (starEach es X.env)).any (·.1) = false := by rfl) :
    PE X (.Call (.Attribute o name apos) (e :: es) [] cpos) (tTM X.K r to t) := by
  refine ⟨fun pins s σ H Q I h => ?_⟩
  refine wpAny_Call_method_late hbase hfew hline rfl (thn (ho.run pins s σ H _ I h) fun v s1 ⟨x, H1, I1, r1, ⟨a, ob, xs, ex, hf, hc, hd⟩, q1⟩ => ?_)
  subst ex
  cases (show v = Value.ref a from r1)
  obtain ⟨ge, _⟩ := (show s1.heap.get? a = some ob ∧ _ from I1.hok a _ hf)
  refine ⟨"tuple", id, pa, slot, hty, ⟨ob, ge, hc⟩, fun b eb => by cases eb; exact ⟨ob, ge, hd⟩, ?_⟩
  have hA := ha.run cpos pins s1 σ H1 _ I1 q1
  rw [hs] at hA ⊢
  refine Calls.callWith_builtin (by show (false || (backTo cpos (starEach es X.env)).any (·.1)) = false; rw [hplain] <;> rfl) (Calls.evalArgs_plain ?_)
  exact thn hA fun us s2 ⟨vs, H2, I2, r2, q2⟩ => hm pins s2 σ H2 (.ref a) vs (.ref a) us Q I2 rfl r2 q2
/-- tuple(xs) of a list, the new object known -/
def rTupE (K : PySem.W.Frag) : List V → Hp → VK → Prop := fun xs H Q => ∃ p ys, xs = [V.ref p] ∧ SqL K H p ys ∧ ∀ l o, H l = none → o.cls = .type "tuple" → o.dict = none → Q (.ref l) (upd H l (.frz o (.tup ys)))
theorem call_tupE : CallR X (.type "tuple") (rTupE X.K) := by
  intro pins s σ H xs us Q I r h
  obtain ⟨p, ys, rfl, hq, q⟩ := h
  obtain ⟨u, rfl, rx⟩ := vals1 r
  cases rx
  obtain ⟨its, r', pl, hz⟩ := I.list hq
  have hlen := r'.length
  refine call_tuple_list pl.isList (fun h' kp => ?_) (by simp only [List.size_toArray] <;> omega)
  have I1 : Inv X pins σ H { s with heap := h' } := I.kept (t' := s.toks) kp
  have I2 := I1.laid (a := h'.objs.size) (o := .frz { cls := .type "tuple", data := .seq its.toArray } (.tup ys)) (h' := h'.push { cls := .type "tuple", data := .seq its.toArray }) (t' := s.toks) (fun b o e => Heap.get?_push_of_some _ e) (Nat.le_refl _) ⟨Heap.get?_push_size _ rfl, hz, its, r', IsTup.new _ _⟩
  exact ⟨.ref h'.objs.size, _, I2, rfl, q _ _ (I1.hok.fresh (Nat.le_refl _)) rfl rfl⟩
end
section
variable {K : PySem.W.Frag} {δ : Option Addr} {F0 H0 : Hp} {ρ : List Sl} {te ta tb : TE} {t : TA} {d : D}
theorem rep_tupN {F : Hp} {v : V} {ns : List Int} (h : Rep K δ F v (.tupN ns)) : ∃ (a : Addr) (o : Obj), v = .ref a ∧ F a = some (.frz o (.tup (ns.map V.int))) ∧ o.cls = .type "tuple" ∧ o.dict = none := by
  cases h with
  | tupN h1 h2 h3 => exact ⟨_, _, rfl, h1, h2, h3⟩
theorem rep_tab {F : Hp} {v : V} {rows : List (List Int)} (h : Rep K δ F v (.tab rows)) : ∃ (a : Addr) (us : List V), v = .ref a ∧ SqT K F a us ∧ us.length = rows.length ∧ ∀ (i : Nat) (u : V) (ns : List Int), us[i]? = some u → rows[i]? = some ns → Rep K δ F u (.tupN ns) := by
  cases h with
  | tab h1 h2 h3 => exact ⟨_, _, rfl, h1, h2, fun i u ns x y => by obtain ⟨b, o, e, p, q, r⟩ := h3 i u ns x y; subst e; exact .tupN p q r⟩
theorem tupN_dp {F : Hp} {v : V} {ns : List Int} (h : Rep K δ F v (.tupN ns)) : Dp K F v (.tuple (ns.map .int)) := by
  obtain ⟨a, o, rfl, h1, _, _⟩ := rep_tupN h
  exact .tup (.inl (.inr ⟨o, h1⟩)) (dpa_ofInts ns)
theorem dpa_byI {F : Hp} : ∀ {us : List V} {ds : List PyData}, us.length = ds.length → (∀ (i : Nat) (u : V) (d : PyData), us[i]? = some u → ds[i]? = some d → Dp K F u d) → DpAll K F us ds
  | [], [], _, _ => .nil
  | [], _ :: _, h, _ => by simp at h
  | _ :: _, [], h, _ => by simp at h
  | u :: us, d :: ds, h, k => .cons (k 0 u d rfl rfl) (dpa_byI (by simpa using h) fun i x y a b => k (i + 1) x y (by simpa using a) (by simpa using b))
abbrev tabP (rows : List (List Int)) : PyData := .tuple (rows.map fun ns => .tuple (ns.map .int))
theorem tab_dp {F : Hp} {v : V} {rows : List (List Int)} (h : Rep K δ F v (.tab rows)) : Dp K F v (tabP rows) := by
  obtain ⟨a, us, rfl, sq, hl, k⟩ := rep_tab h
  refine .tup sq (dpa_byI (by rw [List.length_map]; exact hl) fun i u d hu hd => ?_)
  rw [List.getElem?_map] at hd
  cases q : rows[i]? with
  | none => rw [q] at hd; cases hd
  | some ns => rw [q] at hd; cases hd; exact tupN_dp (k i u ns hu q)
theorem ed_tab {rows : List (List Int)} (h : ED K δ H0 te ρ (.tab rows)) : ED K δ H0 te ρ (.py (tabP rows)) := EQ.imp h fun _ _ _ _ r => .py (tab_dp r)
theorem ed_tupN {ns : List Int} (h : ED K δ H0 te ρ (.tupN ns)) : ED K δ H0 te ρ (.py (.tuple (ns.map .int))) := EQ.imp h fun _ _ _ _ r => .py (tupN_dp r)
/-- tuple(a new list of ints), known -/
theorem ed_tupE {ns : List Int} (h : EL K δ H0 te ρ (ns.map .int)) : ED K δ H0 (tCB (rTupE K) (tCons te tNil)) ρ (.tupN ns) := fun σ F H re w Q q =>
  h σ F H re w _ fun v F1 H1 s1 ⟨a, vs, e, la, dp⟩ => ⟨a, vs, by rw [e], la.sql (w.step s1).fh, fun p o hp h1 h2 => q _ (upd F1 p (.frz o (.tup vs))) _ (s1.trans w ((w.step s1).alloc hp)) (.tupN (by rw [upd_same, dpa_ints dp]) h1 h2)⟩
/-- row.index(i) -/
theorem ed_indexN {ns : List Int} {i : Int} {j : Nat} (h : ED K δ H0 te ρ (.tupN ns)) (hi : ED K δ H0 ta ρ (.py (.int i))) (hj : ns[j]? = some i) (hno : ∀ m, m < j → ns[m]? ≠ some i) : ED K δ H0 (tTM K (rIxTI K) te (tCons ta tNil)) ρ (.py (.int (j : Int))) := fun σ F H re w Q q =>
  h σ F H re w _ fun v F1 H1 s1 r => by
    obtain ⟨a, o, rfl, hf, h1, h2⟩ := rep_tupN r
    exact ⟨⟨a, o, _, rfl, (w.step s1).fh a _ hf, h1, h2⟩, hi σ F1 H1 (re.step s1) (w.step s1) _ fun u F2 H2 s2 r2 => ⟨a, ns, i, j, rfl, by rw [rep_int r2], .inl (.inr ⟨o, ((w.step s1).step s2).fh a _ (s2.ff a _ hf)⟩), hj, hno, q _ F2 H2 (s1.trans w s2) (.py (.int _))⟩⟩
end
end Dl
set_option Elab.async false
set_option linter.all false
set_option maxRecDepth 100000
set_option maxHeartbeats 2000000
namespace Dl
open PySem PySem.Spec PyProof.Rows L2 SlX
/-! ### lists of things that are no plain data -/
section
variable {K : PySem.W.Frag} {δ : Option Addr} {F0 H0 : Hp} {ρ : List Sl} {te ta tb : TE} {t : TA} {d : D} {E : En}
/-- a new list of values, each told by what PE says of its item -/
def ENV (K : PySem.W.Frag) (δ : Option Addr) (H0 : Hp) (te : TE) (ρ : List Sl) (items : List D) (PE : D → V → Hp → Prop) : Prop :=
  EQ K δ H0 te ρ fun H v F' H' => ∃ p us, v = .ref p ∧ H' p = some (.lst us) ∧ F' p = none ∧ H p = none ∧ Paired (fun d u => PE d u F') items us
theorem pr_mono {PE : D → V → Hp → Prop} (mono : ∀ d v F F', Ex F F' → PE d v F → PE d v F') {F F' : Hp} (e : Ex F F') : ∀ {ds : List D} {us : List V}, Paired (fun d u => PE d u F) ds us → Paired (fun d u => PE d u F') ds us
  | _, _, .nil => .nil
  | _, _, .cons a r => .cons (mono _ _ _ _ e a) (pr_mono mono e r)
theorem pr_snoc {α β : Type} {R : α → β → Prop} {a : α} {b : β} (h : R a b) : ∀ {as : List α} {bs : List β}, Paired R as bs → Paired R (as ++ [a]) (bs ++ [b])
  | _, _, .nil => .cons h .nil
  | _, _, .cons x r => .cons x (pr_snoc h r)
theorem env_lc {wi : TI} {g : TG} {vs js : List Nat} {items : List D} {PE : D → V → Hp → Prop} (mono : ∀ d v F F', Ex F F' → PE d v F → PE d v F') (hw : WI K δ H0 wi ρ items) (ρ' : D → List Sl)
    (hg : ∀ d, d ∈ items → GD K δ H0 g d (wipeS ρ vs) (ρ' d) js) (hj : ∀ j, j ∈ js → j ∈ vs) (hl : items.length ≤ 100000)
    (hs : ∀ d, d ∈ items → EQ K δ H0 te (ρ' d) fun _ v F' _ => PE d v F') : ENV K δ H0 (tLc wi g tYes te vs) ρ items PE := fun σ F H re w Q q =>
  hw σ F H re w _ fun It F1 H1 s1 it Dl hD => by
    have w1 := w.step s1
    have nd := w1.nd hD
    refine ⟨fun i m Hc => m = items.length - i ∧ i ≤ items.length ∧ ∃ (Fc : Hp) (us : List V), Stp δ F1 H1 Fc Hc ∧ Hc Dl = some (.lst us) ∧ Fc Dl = none ∧ Paired (fun d u => PE d u Fc) (items.take i) us,
      ⟨items.length, rfl, Nat.zero_le _, F1, [], w1.refl.mut hD (w1.nn hD) nd, upd_same, w1.nn hD, .nil⟩, ?_⟩
    rintro i m Hc ⟨rfl, hi, Fc, us, sc, hDc, hFD, pr⟩
    have wc := w1.step sc
    by_cases hlt : i < items.length
    · obtain ⟨hgo, hy⟩ := it.go Fc Hc i sc.ff wc hlt
      refine .inr ⟨hgo, fun H' => ∃ m', m' < items.length - i ∧ (m' = items.length - (i + 1) ∧ i + 1 ≤ items.length ∧ ∃ (Fc : Hp) (us : List V), Stp δ F1 H1 Fc H' ∧ H' Dl = some (.lst us) ∧ Fc Dl = none ∧ Paired (fun d u => PE d u Fc) (items.take (i + 1)) us), fun H' h => h, fun x H2 hyl => ?_⟩
      obtain ⟨F2, d, hd1, s2, r2⟩ := hy x H2 hyl
      have dm := List.mem_of_getElem? hd1
      have w2 := wc.step s2
      have rw2 : RepE K δ H0 F2 H2 (L2.wipe σ vs) (wipeS ρ vs) := (((re.step s1).step sc).step s2).wipe vs
      refine hg d dm (L2.wipe σ vs) F2 H2 x rw2 w2 r2 _ fun σ2 re2 hlen hout => ⟨?_, ?_⟩
      · have e1 : L2.wipe σ2 vs = L2.wipe (L2.wipe σ vs) vs := wipe_same hlen vs fun k hk => hout k fun z => hk (hj k z)
        rw [e1]
        exact wipe_same (wipe_length σ vs) vs fun k hk => wipe_out hk
      · unfold tYes; simp only [if_pos]
        refine hs d dm σ2 F2 H2 re2 w2 _ fun y F3 H3 s3 py => ?_
        obtain ⟨k2, f2⟩ := stay s2 nd hDc hFD
        obtain ⟨k3, f3⟩ := stay s3 nd k2 f2
        have ln : (items.take i).length = us.length := Paired.length pr
        rw [List.length_take] at ln
        refine ⟨us, k3, sz_lt (by omega), items.length - (i + 1), by omega, rfl, hlt, F3, us ++ [y], ((sc.trans w1 s2).trans w1 s3).mut hD f3 nd, upd_same, f3, ?_⟩
        have e : items.take (i + 1) = items.take i ++ [d] := by rw [List.take_succ, hd1]; rfl
        rw [e]
        exact pr_snoc (R := fun d u => PE d u F3) py (pr_mono mono (s2.ff.trans s3.ff) pr)
    · have e : i = items.length := by omega
      subst e
      rw [List.take_length] at pr
      exact .inl ⟨it.stop Fc Hc _ sc.ff wc rfl, q _ Fc Hc (s1.trans w sc) ⟨Dl, us, rfl, hDc, hFD, s1.back hD, pr⟩⟩
/-- tuple([tuple of ints known, ..]) -/
theorem ed_tabOf {items : List D} {f : D → List Int} (h : ENV K δ H0 te ρ items fun d v F => Rep K δ F v (.tupN (f d))) : ED K δ H0 (tCB (rTupOf K) (tCons te tNil)) ρ (.tab (items.map f)) := fun σ F H re w Q q =>
  h σ F H re w _ fun v F1 H1 s1 ⟨a, us, e, ha, fa, ha0, pr⟩ => ⟨a, us, by rw [e], .inl ⟨SqL.of ha, fun p hp => by
    have w1 := w.step s1
    refine q _ (upd F1 p (.tup us)) _ (s1.trans w (w1.alloc hp)) (.tab (SqT.of upd_same) (by rw [List.length_map]; exact (Paired.length pr).symm) fun i u ns hu hn => ?_)
    have key : ∀ {ds : List D} {us : List V} {i : Nat} {u : V} {ns : List Int}, Paired (fun d u => Rep K δ F1 u (.tupN (f d))) ds us → us[i]? = some u → (ds.map f)[i]? = some ns → Rep K δ F1 u (.tupN ns) := by
      intro ds us i u ns p
      induction p generalizing i with
      | nil => intro h _; simp at h
      | cons a _ ih =>
        intro h1 h2
        cases i with
        | zero => simp at h1 h2; subst h1 h2; exact a
        | succ i => exact ih (by simpa using h1) (by simpa using h2)
    obtain ⟨b, o, eb, hf, hc, hd⟩ := rep_tupN (key pr hu hn)
    exact ⟨b, o, eb, ex_upd (w1.nn hp) _ _ hf, hc, hd⟩⟩⟩
/-- a walk over a table -/
theorem wi_tab {rows : List (List Int)} (h : ED K δ H0 te ρ (.tab rows)) : WI K δ H0 (iTup K te) ρ (rows.map .tupN) := fun σ F H re w R q =>
  h σ F H re w _ fun v F1 H1 s1 r => by
    obtain ⟨a, vs, e, sq, hl, k⟩ := rep_tab r
    refine ⟨a, e, ⟨vs, (w.step s1).fh.sqt sq⟩, q _ F1 H1 s1 (IterD.of (fun F2 H2 i ex w2 hi => ?_) (fun F2 H2 i ex w2 hi => ?_))⟩
    · rw [List.length_map] at hi
      have sq2 := w2.fh.sqt (ex.sqt sq)
      have hv : i < vs.length := by omega
      refine ⟨⟨vs, _, sq2, List.getElem?_eq_getElem hv⟩, fun x H3 ⟨e3, hx⟩ => ?_⟩
      subst e3
      have hr : rows[i]? = some rows[i] := List.getElem?_eq_getElem hi
      exact ⟨F2, _, by rw [List.getElem?_map, hr]; rfl, w2.refl, (k i x _ (hx vs sq2) hr).mono ex⟩
    · rw [List.length_map] at hi
      exact ⟨vs, w2.fh.sqt (ex.sqt sq), by omega⟩
theorem tab_cut {F : Hp} {us : List V} {rows : List (List Int)} (hl : us.length = rows.length) (k : ∀ (i : Nat) (u : V) (ns : List Int), us[i]? = some u → rows[i]? = some ns → Rep K δ F u (.tupN ns)) (n : Nat) :
    (us.drop n).length = (rows.drop n).length ∧ ∀ (i : Nat) (u : V) (ns : List Int), (us.drop n)[i]? = some u → (rows.drop n)[i]? = some ns → Rep K δ F u (.tupN ns) := by
  refine ⟨by rw [List.length_drop, List.length_drop, hl], fun i u ns h1 h2 => ?_⟩
  rw [List.getElem?_drop] at h1 h2
  exact k _ u ns h1 h2
/-- tab[1:], more than one row -/
theorem ed_tabTail {rows : List (List Int)} {tl th : TO} (h : ED K δ H0 te ρ (.tab rows)) (h2 : 2 ≤ rows.length) (hl : OD K δ H0 tl ρ (some 1)) (hh : OD K δ H0 th ρ none) : ED K δ H0 (tSl (rSlA K) te tl th) ρ (.tab (rows.drop 1)) := fun σ F H re w Q q =>
  h σ F H re w _ fun v F1 H1 s1 r => hl σ F1 H1 (re.step s1) (w.step s1) _ fun F2 H2 s2 => hh σ F2 H2 ((re.step s1).step s2) ((w.step s1).step s2) _ fun F3 H3 s3 => by
    have w3 := ((w.step s1).step s2).step s3
    have s4 := (s1.trans w s2).trans w s3
    obtain ⟨a, vs, e, sq, hlen, k⟩ := rep_tab (r.mono (s2.ff.trans s3.ff))
    have e1 : HT.sIx vs.length 0 (some 1) = 1 := by unfold HT.sIx; show (if (1 : Int) < 0 then _ else _) = 1; rw [if_neg (by decide)]; omega
    have e2 : HT.sIx vs.length vs.length none = vs.length := by unfold HT.sIx; rfl
    refine ⟨a, vs, e, w3.fh.sqt sq, fun hw => ?_, fun hw p hp => ?_⟩
    · rw [e1] at hw; exact absurd hw.1 (by decide)
    · have ec : cutV vs (some 1) none = vs.drop 1 := by unfold cutV; rw [e1, e2]; exact List.take_of_length_le (by rw [List.length_drop]; exact Nat.le_refl _)
      obtain ⟨c1, c2⟩ := tab_cut hlen k 1
      rw [ec]
      refine q _ (upd F3 p (.tup (vs.drop 1))) _ (s4.trans w (w3.alloc hp)) (.tab (SqT.of upd_same) c1 fun i u ns h1 h2 => ?_)
      obtain ⟨b, o, eb, hf, hc, hd⟩ := rep_tupN (c2 i u ns h1 h2)
      exact ⟨b, o, eb, ex_upd (w3.nn hp) _ _ hf, hc, hd⟩
/-- a, b = a new list of two things -/
theorem sd_two {i j : Nat} {items : List D} {P : D → Prop} (h : ENV K δ H0 te ρ items fun _ v F => ∃ d, P d ∧ Rep K δ F v d) (hn : items.length = 2) (k : ∀ x y, P x → P y → E.N ((ρ.set i (.fz x)).set j (.fz y))) :
    SD K δ F0 H0 (tAsg te (gUnl K 2 (gCons (gName i) (gCons (gName j) gNil)))) ρ E := fun σ F H Dn re w s q =>
  h σ F H re (w.step s) _ fun v F1 H1 s1 ⟨a, us, e, ha, fa, ha0, pr⟩ => by
    cases pr with
    | nil => simp at hn
    | cons p1 pr => cases pr with
      | nil => simp at hn
      | cons p2 pr => cases pr with
        | cons _ _ => simp at hn
        | nil =>
          obtain ⟨x, px, rx⟩ := p1
          obtain ⟨y, py, ry⟩ := p2
          exact ⟨a, _, e, SqL.of ha, rfl, _, _, rfl, _, _, rfl, rfl, q.nx _ _ (at_of (k x y px py) (((re.step s1).set i rx).set j ry) w (s.trans w s1) s1.ff)⟩
end
end Dl
set_option Elab.async false
set_option linter.all false
set_option maxRecDepth 100000
set_option maxHeartbeats 2000000
namespace Dl
open PySem PySem.Spec PyProof.Rows L2 SlX
/-! ### repr of plain data, where no other repr is under way -/
section
variable {X : Cx}
def rRepr (K : PySem.W.Frag) : List V → Hp → VK → Prop := fun vs H Q => ∃ a d, vs = [V.ref a] ∧ Dp K H (.ref a) d ∧ d.showable = true ∧ d.hasDict = false ∧ d.depth ≤ 60 ∧ d.shown.length ≤ sizeLine ∧ Q (.str d.shown) H
theorem call_reprT (hg : X.A.guards = some []) (hu : X.A.units + 64 < cLine) : CallR X (.builtin "repr") (rRepr X.K) := by
  intro pins s σ H xs us Q I r h
  obtain ⟨a, d, rfl, dp, h1, h2, h3, h4, q⟩ := h
  obtain ⟨u, rfl, rx⟩ := vals1 r
  cases (show u = Value.ref a from rx)
  obtain ⟨as, rd⟩ := Dp.reads I d (.ref a) (.ref a) dp rfl
  exact repr_of_reads' rd h1 (PyData.noDict_hsm h2) hg (by omega) (fun _ _ e => e) (fun h' u tk hk => ⟨.str d.shown, H, I.kept (t' := tk) hk, ⟨u, rfl⟩, q⟩) h4
end
/-! ### defs called where no repr is under way -/
structure FnG (P : Program) (w : World) (K : PySem.W.Frag) (mg : Str → Option Value) (base : Heap) (k : Nat) (f : Addr) (fd : FuncData) (ps : List Str) (sp : Sp) : Prop where
  len : ∀ vs H Q E, sp vs H Q E → vs.length = ps.length
  run : ∀ (A : Around) (outer : List Env) (s : Shared) (H : Hp) (args : Args) (us : List Value) (vs : List V) (Q : VK) (E : XK), Room k A → A.guards = some [] → Env0 P w K mg base A outer s H → BindsTo s fd args (ps.zip us) → Vals vs us → sp vs H Q E →
    codeAny (model P w) A (.call (.ref f) args) (CR CX0 outer P w H s Q E) s
theorem fng_of {P : Program} {w : World} {K : PySem.W.Frag} {mg : Str → Option Value} {base : Heap} {k : Nat} {x qual : Str} {params : Arguments} {body : List Stmt} {scope : Scope} {f : Addr} {fd : FuncData} {N ps : List Str} {sp : Sp}
    (F : FunD K x qual params body scope [] [] f fd) (S : FnScope N ps scope) (len : ∀ vs H Q E, sp vs H Q E → vs.length = ps.length)
    (hbody : ∀ (cdv : Value) (A : Around) (outer : List Env) (s : Shared) (H : Hp) (vs : List V) (Q : VK) (E : XK), Room k (A.deeper (envOfC qual scope s.heap.objs.size f cdv)) → A.guards = some [] → sp vs H Q E →
      ∃ t, PSs (cxOf CX0 P w K mg base N qual scope f cdv A outer s H E) body t ∧ t { nx := fun _ H' => Q .non H', rt := Q } (start N vs) H) : FnG P w K mg base (k + 1) f fd ps sp := by
  obtain ⟨oc, od, dV, kV, doc, pm, an, cdv, ct, osl, rfl, lk, hcd, _, _⟩ := F.ex
  refine ⟨len, fun A outer s H args us vs Q E hr hg e0 hb r hsp => ?_⟩
  have hl := len _ _ _ _ hsp
  have old : ∀ b o, base.get? b = some o → s.heap.get? b = some o := fun b o e => (e0.bs b o e).1
  have KX := e0.mod.kin.keeps old
  have lim := e0.mod.nolimit.keeps old
  refine codeAny_call_function hr.depth (KX _ _ lk) rfl S.co S.gen rfl (PySem.W.codeRec_of KX hcd) (hb _ _ _ _ (wpAny_newFunctionEnv_cells S.kind (fun ⟨n, v⟩ hy => ?_) fun env he s1 x => ?_))
  · exact (S.par n (List.of_mem_zip hy).1).elim .inl fun q => .inr ⟨q, PySem.W.cellsFrom_some _ _ _ (.inl q)⟩
  · subst he
    refine ⟨lim.keeps x.toInCall.keep, codeAny_func ?_⟩
    obtain ⟨t, ht, hq⟩ := hbody cdv A outer s H vs Q E (hr.deeper _) hg hsp
    have I : Inv (cxOf CX0 P w K mg base N qual scope f cdv A outer s H E) [] (start N vs) H s1 := inv_start S hr.hd e0 hl r x
    refine wpAny_mono (ht.run [] s1 (start N vs) H _ I hq) (fun fl s' hs => ?_) fun e s' hs => hs
    have fin : ∀ {σ' : L2.St} {H' : Hp} {v : V} {u : Value}, Inv (cxOf CX0 P w K mg base N qual scope f cdv A outer s H E) [] σ' H' s' → RelV v u → Q v H' → CE outer P w H s Q u s' := fun {σ' H' v u} J rv q => ⟨v, H', J.os, J.bare, J.base, J.hok, rv, q⟩
    cases fl with
    | ret u => obtain ⟨v, σ', H', J, rv, q⟩ := hs; exact fin J rv q
    | next => obtain ⟨σ', H', J, q⟩ := hs; exact fin (v := V.non) (u := Value.none) J rfl q
    | brk => exact (let ⟨_, _, _, q⟩ := hs; q : False).elim
    | cont => exact (let ⟨_, _, _, q⟩ := hs; q : False).elim
section
variable {X : Cx} {k : Nat} {f : Addr} {fd : FuncData} {ps : List Str} {sp : Sp} {x : Str} {e : Expr} {es : List Expr} {t : TA} {p pos : Pos}
theorem pe_fg (F : FnG X.prog X.w X.K X.mg X.base k f fd ps sp) (hr : Room k X.A) (hgd : X.A.guards = some []) (hg : Gl X x) (hm : X.mg x = some (.ref f)) (hk : PySem.W.keepIn X.K (.ref f) = true) (hb : Binds X.K fd ps [])
    (ha : PA X (e :: es) t) (hdb : (x == ("__debug__" : Str)) = false := by decide) (he : starEach (e :: es) X.env = (false, eval e X.env) :: starEach es X.env := by rfl) (hpl : (backTo pos (starEach es X.env)).any (·.1) = false := by rfl) :
    PE X (.Call (.Name x p) (e :: es) [] pos) (tCall sp [] E0 t) := by
  refine ⟨fun pins s σ H Q I h => ?_⟩
  refine wpAny_Call_Name_kw (ld_glob I hg hm ?_ hdb)
  refine PySem.W.callWith_K (h₀ := X.base) I.ok.mod.kin hk (thn (ha.run pos pins s σ H _ I h) fun us s1 ⟨vs, H1, I1, r, q⟩ => ⟨I1.kIn, ?_⟩) he hpl
  have q : sp vs H1 Q E0 := by have := q; dsimp only at this; rwa [List.append_nil] at this
  have hl : (us ++ ([] : List Value)).length = ps.length := by rw [List.append_nil, ← r.length]; exact F.len _ _ _ _ q
  have hb2 := hb s1 us I1.kIn hl
  rw [List.append_nil] at hb2
  refine wpAny_call (codeAny_mono (F.run X.A X.stack s1 H1 ⟨us, []⟩ us vs Q E0 hr hgd I1.env0 hb2 r q) fun r s' hq => ?_)
  cases r with
  | error e => exact False.elim hq
  | ok fl => cases fl with
    | ret u => exact I1.after hq
    | _ => exact False.elim hq
end

/-! ### the law's own call -/
theorem law_callG {P : Program} {w : World} {K : PySem.W.Frag} {mg mb : Str → Option Value} {k : Nat} {fa a : Addr} {fd : FuncData} {x : Str} {sp : Sp} {s₁ : Shared} {vs : List Value} {ns : List Int}
    (KX : K.In s₁.heap) (hns : s₁.heap.Ns mainGlobals mg) (hb : s₁.heap.Ns builtinsNs mb) (hbb : ∀ x : Str, x ≠ "__name__" → mb x = bootBuiltins x) (hlim : s₁.heap.NoLimit) (hg : s₁.gens = #[])
    (ha : s₁.heap.get? a = some { cls := .type "list", data := .seq vs.toArray }) (hi : IntsAre vs ns) (hl : ns.length ≤ sizeLine) (hr : Room k callerA)
    (F : ∀ base : Heap, K.In base → base.Ns mainGlobals mg → FnG P w K mg base k fa fd [x] sp) (hbind : ∀ (s : Shared) (u : Value), BindsTo s fd ⟨[u], []⟩ [(x, u)])
    (hsp : ∀ H : Hp, Only H → SqL K H a (ns.map V.int) → sp [.ref a] H (fun v _ => v = .bl true) fun _ _ _ => False) :
    codeAny (model P w) callerA (.call (.ref fa) ⟨[.ref a], []⟩) (fun r s' => r = .ok (.ret (.bool true)) ∧ OldK s₁.heap s'.heap ∧ s'.os = s₁.os ∧ AllBare s'.gens) s₁ := by
  have rv := vals_ints hi
  have lenV := hi.length
  have core : ∀ H : Hp, Only H → SqL K H a (ns.map V.int) → HOk P w H s₁.heap → (∀ b, H b ≠ none → b = a) → (H a ≠ none → K.lookup a = none) → codeAny (model P w) callerA (.call (.ref fa) ⟨[.ref a], []⟩) (fun r s' => r = .ok (.ret (.bool true)) ∧ OldK s₁.heap s'.heap ∧ s'.os = s₁.os ∧ AllBare s'.gens) s₁ := by
    intro H hO hS hok hA hK
    have only : ∀ b, (b = a → False) → H b = none := fun b n => by
      cases q : H b with
      | none => rfl
      | some u => exact (n (hA b (by rw [q]; simp))).elim
    have noA : ∀ {b : Addr} {o : Obj} {es : Array DictEntry} {ep : Nat}, s₁.heap.get? b = some o → o.data = .dict es ep → H b = none := fun {b o es ep} e d => only b fun z => by
      subst z
      rw [ha] at e; cases e
      cases (show Data.seq vs.toArray _ = Data.dict es ep from d)
    have nsK : ∀ {b : Addr} {m : Str → Option Value}, s₁.heap.Ns b m → (hidT s₁.heap H).Ns b m := fun {b m} ⟨o, es, ep, e, d, r⟩ => ⟨o, es, ep, hidT_get e (noA e d), d, r⟩
    have hKb : K.In (hidT s₁.heap H) := fun b o e => hidT_get (KX b o e) (by
      cases q : H b with
      | none => rfl
      | some u =>
        have z := hA b (by rw [q]; simp)
        subst z
        rw [hK (by rw [q]; simp)] at e; cases e)
    have hM : Mod K mg (hidT s₁.heap H) := ⟨hKb, nsK hns, ⟨mb, nsK hb, hbb⟩, let ⟨mc, h1, h2⟩ := hlim; ⟨mc, nsK h1, h2⟩⟩
    have e0 : Env0 P w K mg (hidT s₁.heap H) callerA [] s₁ H := ⟨rfl, hM, fun b o e => of_hidT e, Nat.le_of_eq (hidT_size _ _), trivial, fun b hb => absurd (show b ∈ ([] : List Addr) from hb) (by simp), hok, .of_eq hg⟩
    refine codeAny_mono ((F _ hKb (nsK hns)).run callerA [] s₁ H ⟨[.ref a], []⟩ [.ref a] [.ref a] _ _ hr rfl e0 (hbind s₁ (.ref a)) (.cons rfl .nil) (hsp H hO hS)) fun r s' h => ?_
    cases r with
    | error e => exact False.elim h
    | ok fl => cases fl with
      | ret u =>
        obtain ⟨v, H', os, bare, un, hok', r', q⟩ := h
        cases (show v = .bl true from q)
        cases (show u = Value.bool true from r')
        refine ⟨rfl, OldK.of_keep fun b o e => ?_, os, bare⟩
        rcases hO b with z | ⟨ob, xs, z⟩
        · exact un.keep b o e z (by intro y; exact absurd (show b ∈ ([] : List Addr) from y) (by simp)) (by simp)
        · obtain ⟨e1, _⟩ := hok b _ z
          obtain ⟨e2, _⟩ := hok' b _ (un.frzs b ob _ z)
          rw [e] at e1; cases e1
          exact e2
      | _ => exact False.elim h
  cases hk : K.lookup a with
  | some o =>
    have e := KX a o hk
    rw [ha] at e
    cases e
    refine core (fun _ => none) (fun _ => .inl rfl) (.inr ⟨_, vs.toArray, _, hk, rfl, rfl, rfl, by rw [List.size_toArray, lenV]; exact hl, by simpa using rv⟩) (fun b u z => nomatch (show (none : Option HO) = some u from z)) (fun b z => absurd rfl z) fun z => absurd rfl z
  | none =>
    have hH : ∀ b, b ≠ a → (if b = a then some (HO.frz { cls := .type "list", data := .seq vs.toArray } (.lst (ns.map V.int))) else none) = none := fun b n => if_neg n
    refine core (fun b => if b = a then some (.frz { cls := .type "list", data := .seq vs.toArray } (.lst (ns.map V.int))) else none) (fun b => ?_) (.inl (.inr ⟨{ cls := .type "list", data := .seq vs.toArray }, if_pos rfl⟩)) (fun b u z => ?_) (fun b z => ?_) fun _ => hk
    · by_cases h : b = a
      · exact .inr ⟨_, _, if_pos h⟩
      · exact .inl (hH b h)
    · by_cases h : b = a
      · cases (if_pos h).symm.trans z
        subst h
        exact ⟨ha, by rw [List.length_map]; exact hl, vs, _, rv, ha⟩
      · cases (hH b h).symm.trans z
    · by_cases h : b = a
      · exact h
      · exact absurd (hH b h) z
theorem walk_ofG {l : PySem.W.OpenLaw} {n k : Nat} {q : Program} {loose : List Str} {XP : (Str → Option Value) → Heap → Prop} {YP : World → Heap → Prop} {d : DefRec} {x : Str}
    (hn : l.most = some n) (hn2 : n ≤ sizeLine) (hdf : d.params.defaults = []) (hr : Room k callerA)
    (F : ∀ (w : World) (mg : Str → Option Value) (fa : Addr) (h : Heap), YP w h → h.Ns mainGlobals mg → mg d.name = some (.ref fa) → ∃ (K : PySem.W.Frag) (fd : FuncData) (sp : Sp), K.In h ∧ (∀ (s : Shared) (u : Value), BindsTo s fd ⟨[u], []⟩ [(x, u)]) ∧
        (∀ (H : Hp) (a : Addr) (ns : List Int), ns.length ≤ n → Only H → SqL K H a (ns.map V.int) → sp [.ref a] H (fun v _ => v = .bl true) fun _ _ _ => False) ∧ ∀ base : Heap, K.In base → base.Ns mainGlobals mg → FnG l.prog w K mg base k fa fd [x] sp) :
    PySem.W.WalkO q loose XP YP l.row.toRowW d [] (fun f vs => PySem.call f vs) := by
  refine Att.attach_call hn hdf fun w s₀ s₁ mg mb fa o pm cd doc a vs ns G Y ho hd hcd hmg hobj hints hlen hg => ?_
  obtain ⟨K, fd, sp, KX, hb, hsp, hF⟩ := F w mg fa _ Y G.T.g hmg
  exact law_callG KX G.T.g G.T.b G.T.builtins G.T.nolimit hg hobj hints (Nat.le_trans hlen hn2) hr hF hb (fun H hO hS => hsp H a ns hlen hO hS)
end Dl
set_option Elab.async false
set_option linter.all false
set_option maxRecDepth 100000
set_option maxHeartbeats 2000000
namespace Dl
open PySem PySem.Spec PyProof.Rows L2 SlX
/-! ### what the written part must show, read by a Hook -/
def toP : Int ⊕ List Int → PyData
  | .inl i => .int i
  | .inr l => .tuple (l.map .int)
def intP : PyData → Option Int
  | .int i => some i
  | _ => none
theorem intP_ok {d : PyData} {i : Int} (h : intP d = some i) : d = .int i := by
  cases d <;> first | (cases h; rfl) | cases h
theorem intPs_ok : ∀ {ds : List PyData} {l : List Int}, ds.mapM intP = some l → ds = l.map .int
  | [], l, h => by cases (show some [] = some l from h); rfl
  | d :: ds, l, h => by
    rw [List.mapM_cons] at h
    cases q : intP d with
    | none => rw [q] at h; cases h
    | some i =>
      rw [q] at h
      cases q2 : ds.mapM intP with
      | none => rw [q2] at h; cases h
      | some m =>
        rw [q2] at h
        cases (show some (i :: m) = some l from h)
        rw [intP_ok q, intPs_ok q2]; rfl
def ofP : PyData → Option (Int ⊕ List Int)
  | .int i => some (.inl i)
  | .tuple ds => (ds.mapM intP).map .inr
  | _ => none
theorem ofP_ok {d : PyData} {c : Int ⊕ List Int} (h : ofP d = some c) : d = toP c := by
  cases d with
  | int i => cases h; rfl
  | tuple ds =>
    have h1 : (ds.mapM intP).map Sum.inr = some c := h
    cases q : ds.mapM intP with
    | none => rw [q] at h1; cases h1
    | some l => rw [q] at h1; cases h1; rw [intPs_ok q]; rfl
  | _ => cases h
def ofKv (p : Int × PyData) : Option (Int × (Int ⊕ List Int)) := (ofP p.2).map fun c => (p.1, c)
theorem ofKvs_ok : ∀ {ds : Kvs} {l : List (Int × (Int ⊕ List Int))}, ds.mapM ofKv = some l → ds = l.map fun p => (p.1, toP p.2)
  | [], l, h => by cases (show some [] = some l from h); rfl
  | (k, d) :: ds, l, h => by
    rw [List.mapM_cons] at h
    unfold ofKv at h
    cases q : ofP d with
    | none => simp only [q] at h; cases h
    | some c =>
      simp only [q] at h
      cases q2 : ds.mapM ofKv with
      | none => unfold ofKv at q2; rw [Option.map_some] at h; simp only [q2] at h; cases h
      | some m =>
        have q3 := q2
        unfold ofKv at q2
        rw [Option.map_some] at h
        simp only [q2] at h
        cases (show some ((k, c) :: m) = some l from h)
        rw [ofP_ok q, ofKvs_ok q3]; rfl
inductive Fm where
  | free (x : Str)
  | glo (x : Str)
  | blt (x : Str) (id : String)
  | dat (x : Str) (d : Int ⊕ List Int)
  | dic (x : Str) (kvs : List (Int × (Int ⊕ List Int)))
  | scls (x : Str)
  | slot (x f : Str) (i : Nat)
  | meth (x m : Str)
  | prop (x f : Str)
  | mkr (x : Str)
  | nee (x : Str)
  | sef (x : Str)
def gAd (K : PySem.W.Frag) (x f : Str) : Addr := match PySem.W.recIn K (He.ma K (He.ga K x) f) "property" with
  | some (.ref g :: _) => g
  | _ => 0
def sObj (a : Option (Option Value)) (b : Option (Option Value)) : Bool := decide (a = b)
def Fm.ok (K : PySem.W.Frag) : Fm → Bool
  | .free x => sObj (PySem.W.nsIn K mainGlobals x) (some none)
  | .glo x => sObj (PySem.W.nsIn K mainGlobals x) (some (some (.ref (He.ga K x)))) && PySem.W.keepIn K (.ref (He.ga K x))
  | .blt x id => sObj (PySem.W.nsIn K mainGlobals x) (some (some (.builtin id)))
  | .dat x d => decide ((gdatB K x).bind ofP = some d)
  | .dic x kvs => sObj (PySem.W.nsIn K mainGlobals x) (some (some (.ref (He.ga K x)))) && decide ((idkB K (He.ga K x)).bind (fun l => l.mapM ofKv) = some kvs)
  | .scls x => PySem.W.plainGet K (He.ga K x) Str.empty && (PySem.W.isClsIn K (He.ga K x) && (PySem.W.plainOver K (He.ga K x) && (sObj (PySem.W.findIn K (.ref (He.ga K x)) "__setattr__") (some (some (.builtin "object.__setattr__"))) &&
      (sObj (PySem.W.findIn K (.ref (He.ga K x)) "__class__") (some (some (.builtin "object.__class__"))) && (sObj (PySem.W.specialIn K (.builtin "object.__class__") "__get__") (some (some (.builtin "getset_descriptor.__get__"))) &&
      (decide (PySem.W.takesIn K (.builtin "object.__class__") = some true) && decide (PySem.W.mroIn K (He.ga K x) (.type "object") = some true)))))))
  | .slot x f i => sObj (PySem.W.findIn K (.ref (He.ga K x)) f) (some (some (.ref (He.ma K (He.ga K x) f)))) && (sObj (PySem.W.specialIn K (.ref (He.ma K (He.ga K x) f)) "__get__") (some (some (.builtin "member_descriptor.__get__"))) &&
      (decide (PySem.W.takesIn K (.ref (He.ma K (He.ga K x) f)) = some true) && (decide (PySem.W.typeIn K (.ref (He.ma K (He.ga K x) f)) = some (.type "member_descriptor")) && (decide (PySem.W.slotIn K (He.ma K (He.ga K x) f) (He.ga K x) = some i) && decide (i < 1000)))))
  | .meth x m => sObj (PySem.W.findIn K (.ref (He.ga K x)) m) (some (some (.ref (He.ma K (He.ga K x) m)))) && (PySem.W.isFn K (.ref (He.ma K (He.ga K x) m)) && PySem.W.keepIn K (.ref (He.ma K (He.ga K x) m)))
  | .prop x f => sObj (PySem.W.findIn K (.ref (He.ga K x)) f) (some (some (.ref (He.ma K (He.ga K x) f)))) && (sObj (PySem.W.specialIn K (.ref (He.ma K (He.ga K x) f)) "__get__") (some (some (.builtin "property.__get__"))) &&
      (decide (PySem.W.takesIn K (.ref (He.ma K (He.ga K x) f)) = some true) && (match PySem.W.recIn K (He.ma K (He.ga K x) f) "property" with
        | some (.ref _ :: _) => true
        | _ => false)))
  | .mkr x => PySem.W.makesIn K (He.ga K x) && (sObj (PySem.W.findIn K (.ref (He.ga K x)) "__init__") (some (some (.ref (He.ma K (He.ga K x) "__init__")))) && (PySem.W.isFn K (.ref (He.ma K (He.ga K x) "__init__")) && PySem.W.keepIn K (.ref (He.ga K x))))
  | .nee x => sObj (PySem.W.findIn K (.ref (He.ga K x)) "__ne__") (some (some (.builtin "object.__ne__")))
  | .sef x => PySem.W.selfFirst K (He.ga K x)
section
variable {K : PySem.W.Frag} {h : Heap} {mg : Str → Option Value} {x f m : Str}
theorem an {a b : Bool} (h : (a && b) = true) : a = true ∧ b = true := Bool.and_eq_true_iff.mp h
theorem fm_free (X : K.In h) (G : h.Ns mainGlobals mg) (c : (Fm.free x).ok K = true) : mg x = none := PySem.W.mg_none_of X G (of_decide_eq_true c)
theorem fm_glo (X : K.In h) (G : h.Ns mainGlobals mg) (c : (Fm.glo x).ok K = true) : mg x = some (.ref (He.ga K x)) ∧ PySem.W.keepIn K (.ref (He.ga K x)) = true := ⟨PySem.W.mg_of X G (of_decide_eq_true (an c).1), (an c).2⟩
theorem fm_blt {id : String} (X : K.In h) (G : h.Ns mainGlobals mg) (c : (Fm.blt x id).ok K = true) : mg x = some (.builtin id) := PySem.W.mg_of X G (of_decide_eq_true c)
theorem fm_dat {d : Int ⊕ List Int} (X : K.In h) (G : h.Ns mainGlobals mg) (c : (Fm.dat x d).ok K = true) : GDat K mg x (toP d) := by
  obtain ⟨e, h1, h2⟩ := Option.bind_eq_some_iff.mp (show (gdatB K x).bind ofP = some d from of_decide_eq_true c)
  rw [ofP_ok h2] at h1
  exact gdat_ok X G h1
theorem fm_dic {kvs : List (Int × (Int ⊕ List Int))} (X : K.In h) (G : h.Ns mainGlobals mg) (c : (Fm.dic x kvs).ok K = true) : GDic K mg x (kvs.map fun p => (p.1, toP p.2)) := by
  obtain ⟨e, h1, h2⟩ := Option.bind_eq_some_iff.mp (show (idkB K (He.ga K x)).bind (fun l => l.mapM ofKv) = some kvs from of_decide_eq_true (an c).2)
  rw [ofKvs_ok h2] at h1
  exact ⟨PySem.W.mg_of X G (of_decide_eq_true (an c).1), idk_ok h1⟩
theorem fm_cls (X : K.In h) (G : h.Ns mainGlobals mg) (g : (Fm.glo x).ok K = true) (c : (Fm.scls x).ok K = true) : CLS K mg x := by
  obtain ⟨c1, c⟩ := an c
  obtain ⟨c2, c⟩ := an c
  obtain ⟨c3, c⟩ := an c
  obtain ⟨c4, c⟩ := an c
  obtain ⟨c5, c⟩ := an c
  obtain ⟨c6, c⟩ := an c
  obtain ⟨c7, c8⟩ := an c
  exact ⟨(fm_glo X G g).1, ⟨c1, c2, c3, of_decide_eq_true c4⟩, ⟨of_decide_eq_true c5, of_decide_eq_true c6, of_decide_eq_true c7, of_decide_eq_true c8⟩⟩
theorem fm_slot {i : Nat} (c : (Fm.slot x f i).ok K = true) : Sf K x f i := by
  obtain ⟨c1, c⟩ := an c
  obtain ⟨c2, c⟩ := an c
  obtain ⟨c3, c⟩ := an c
  obtain ⟨c4, c⟩ := an c
  obtain ⟨c5, c6⟩ := an c
  exact ⟨_, of_decide_eq_true c1, of_decide_eq_true c2, of_decide_eq_true c3, of_decide_eq_true c4, of_decide_eq_true c5, of_decide_eq_true c6⟩
theorem fm_meth (c : (Fm.meth x m).ok K = true) : Meth K (He.ga K x) m (He.ma K (He.ga K x) m) := by
  obtain ⟨c1, c⟩ := an c
  obtain ⟨c2, c3⟩ := an c
  exact ⟨of_decide_eq_true c1, c2, c3⟩
theorem fm_prop (c : (Fm.prop x f).ok K = true) : PySem.W.findIn K (.ref (He.ga K x)) f = some (some (.ref (He.ma K (He.ga K x) f))) ∧ PySem.W.specialIn K (.ref (He.ma K (He.ga K x) f)) "__get__" = some (some (.builtin "property.__get__")) ∧
    PySem.W.takesIn K (.ref (He.ma K (He.ga K x) f)) = some true ∧ ∃ rest, PySem.W.recIn K (He.ma K (He.ga K x) f) "property" = some (.ref (gAd K x f) :: rest) := by
  obtain ⟨c1, c⟩ := an c
  obtain ⟨c2, c⟩ := an c
  obtain ⟨c3, c4⟩ := an c
  refine ⟨of_decide_eq_true c1, of_decide_eq_true c2, of_decide_eq_true c3, ?_⟩
  unfold gAd
  split at c4
  · rename_i g rest e
    exact ⟨rest, by rw [e]⟩
  · cases c4
theorem fm_mkr (c : (Fm.mkr x).ok K = true) : Mk K (He.ga K x) (He.ma K (He.ga K x) "__init__") := by
  obtain ⟨c1, c⟩ := an c
  obtain ⟨c2, c⟩ := an c
  obtain ⟨c3, c4⟩ := an c
  exact ⟨c1, of_decide_eq_true c2, c3, c4⟩
theorem fm_nee (c : (Fm.nee x).ok K = true) : PySem.W.findIn K (.ref (He.ga K x)) "__ne__" = some (some (.builtin "object.__ne__")) := of_decide_eq_true c
theorem fm_sef (c : (Fm.sef x).ok K = true) : PySem.W.selfFirst K (He.ga K x) = true := c
end
/-! ### defs: of the module, of a class, behind a property -/
inductive Wh where
  | glo (x : Str)
  | met (x m : Str)
  | prp (x f : Str)
def adOf (K : PySem.W.Frag) : Wh → Addr
  | .glo x => He.ga K x
  | .met x m => He.ma K (He.ga K x) m
  | .prp x f => gAd K x f
abbrev FnQ : Type := Option (Str × Str × Arguments × FuncBody × Scope × Addr × List (Str × Addr) × Addr)
def fnQ (K : PySem.W.Frag) (p : Wh) : FnQ := match K.lookup (adOf K p) with
  | some ⟨_, _, .func fd, _⟩ => some (fd.name, fd.qualname, fd.params, fd.body, fd.scope, fd.globals, fd.closure, fd.builtins)
  | _ => none
structure DefM where
  at_ : Wh
  name : Str
  qual : Str
  st : Stmt
  dfl : List V := []
def DefM.val (d : DefM) : FnQ := some (d.name, d.qual, defArgs d.st, .stmts (defBody d.st), defScope d.st, mainGlobals, [], builtinsNs)
def emptyTup (K : PySem.W.Frag) : V := .non
/-- the defaults: none, or one empty tuple -/
def dfB (K : PySem.W.Frag) (dV : Value) (one : Bool) : Bool := if one then (match dV with
    | .ref T => (match K.lookup T with
      | some ⟨_, _, .seq its _, _⟩ => (match its.toList with
        | [.ref _] => true
        | _ => false)
      | _ => false)
    | _ => false) else (match dV with
    | .none => true
    | _ => false)
def DefM.ok (K : PySem.W.Frag) (one : Bool) (d : DefM) : Bool := PySem.W.keepIn K (.ref (adOf K d.at_)) && (match K.lookup (adOf K d.at_) with
  | some ⟨_, _, .func fd, _⟩ => PySem.W.codeIn K fd.code d.qual && dfB K fd.defaults one
  | _ => false)
theorem DefM.funD {K : PySem.W.Frag} {d : DefM} {one : Bool} (e : fnQ K d.at_ = d.val) (c : d.ok K one = true) : ∃ fd dvs, (one = false → dvs = []) ∧ (one = true → dvs.length = 1) ∧ FunD K d.name d.qual (defArgs d.st) (defBody d.st) (defScope d.st) dvs [] (adOf K d.at_) fd := by
  obtain ⟨kp, c2⟩ := an c
  unfold fnQ at e
  cases q : K.lookup (adOf K d.at_) with
  | none => rw [q] at c2; cases c2
  | some o =>
    obtain ⟨oc, od, dt, osl⟩ := o
    rw [q] at c2 e
    cases dt with
    | func fd =>
      obtain ⟨n1, n2, n3, n4, n5, n6, n7, n8, n9, n10, n11, n12, n13, n14, n15⟩ := fd
      have e2 : (some (n1, n2, n3, n4, n5, n6, n7, n15) : FnQ) = some (d.name, d.qual, defArgs d.st, .stmts (defBody d.st), defScope d.st, mainGlobals, [], builtinsNs) := e
      simp only [Option.some.injEq, Prod.mk.injEq] at e2
      obtain ⟨h1, h2, h3, h4, h5, h6, h7, h8⟩ := e2
      subst h1 h2 h3 h4 h5 h6 h7 h8
      obtain ⟨k1, k2⟩ := an (show (PySem.W.codeIn K n13 d.qual && dfB K n8 one) = true from c2)
      cases one with
      | false =>
        have k3 : n8 = .none := by
          unfold dfB at k2
          cases n8 <;> first | rfl | cases k2
        subst k3
        exact ⟨_, [], fun _ => rfl, (fun z => nomatch z), ⟨oc, od, .none, n9, n10, n11, n12, n13, n14, osl, rfl, q, k1, .inl ⟨rfl, rfl⟩, .inl rfl⟩, kp⟩
      | true =>
        unfold dfB at k2
        rw [if_pos rfl] at k2
        cases n8 with
        | ref T =>
          cases qT : K.lookup T with
          | none => simp only [qT] at k2; cases k2
          | some oT =>
            obtain ⟨tc, td, tt, tsl⟩ := oT
            simp only [qT] at k2
            cases tt with
            | seq its n =>
              have k3 : ∃ b, its.toList = [.ref b] := by
                dsimp only at k2
                split at k2
                · rename_i b e; exact ⟨b, e⟩
                · cases k2
              obtain ⟨b, eb⟩ := k3
              exact ⟨_, [.ref b], (fun z => nomatch z), fun _ => rfl, ⟨oc, od, .ref T, n9, n10, n11, n12, n13, n14, osl, rfl, q, k1, .inr ⟨List.cons_ne_nil _ _, T, _, its.toList, n, rfl, qT, by simp, by rw [eb]; exact .cons rfl .nil⟩, .inl rfl⟩, kp⟩
            | _ => cases k2
        | _ => cases k2
    | _ => cases c2
/-! ### the Hook -/
abbrev AlM : Type := Bool × List FnQ
def obsM (fa : List Fm) (fn : List (Bool × DefM)) (K : PySem.W.Frag) : AlM := ((fa.all fun f => f.ok K) && fn.all fun d => d.2.ok K d.1, fn.map fun d => fnQ K d.2.at_)
def valM (fn : List (Bool × DefM)) : AlM := (true, fn.map fun d => d.2.val)
def SaysM (fa : List Fm) (fn : List (Bool × DefM)) (K : PySem.W.Frag) : Prop := obsM fa fn K = valM fn
def obsMG (as : List Addr) (fa : List Fm) (fn : List (Bool × DefM)) (g : Addr → Option Obj) : AlM := obsM fa fn (He.frG g as)
def hookM (as : List Addr) (fa : List Fm) (fn : List (Bool × DefM)) : PySem.W.Hook where
  α := AlM
  obs := fun s => obsMG as fa fn s.heap.get?
  val := fun _ => valM fn
  says := fun _ h => ∃ K : PySem.W.Frag, K.In h ∧ SaysM fa fn K
  of := fun _ _ e => ⟨_, He.frG_in, e⟩
  keeps := fun _ _ _ ⟨K, hK, c⟩ k => ⟨K, PySem.W.Frag.In.keeps hK k, c⟩
theorem obsMG_eq {as : List Addr} {fa : List Fm} {fn : List (Bool × DefM)} {g : Addr → Option Obj} {s : Shared} (h : ∀ a, g a = s.heap.get? a) : obsMG as fa fn g = (hookM as fa fn).obs s := by
  have e : g = s.heap.get? := funext h
  rw [e]; rfl
section
variable {fa : List Fm} {fn : List (Bool × DefM)} {K : PySem.W.Frag}
theorem SaysM.fact (c : SaysM fa fn K) (i : Nat) {f : Fm} (h : fa[i]? = some f := by rfl) : f.ok K = true := by
  have c1 := (an (show ((fa.all fun f => f.ok K) && fn.all fun d => d.2.ok K d.1) = true from congrArg (fun z : AlM => z.1) c)).1
  exact List.all_eq_true.mp c1 f (List.mem_of_getElem? h)
theorem SaysM.def_ (c : SaysM fa fn K) (i : Nat) {one : Bool} {d : DefM} (h : fn[i]? = some (one, d) := by rfl) : ∃ fd dvs, (one = false → dvs = []) ∧ (one = true → dvs.length = 1) ∧ FunD K d.name d.qual (defArgs d.st) (defBody d.st) (defScope d.st) dvs [] (adOf K d.at_) fd := by
  have c2 := (an (show ((fa.all fun f => f.ok K) && fn.all fun d => d.2.ok K d.1) = true from congrArg (fun z : AlM => z.1) c)).2
  have e : (fn.map fun d => fnQ K d.2.at_) = fn.map fun d => d.2.val := congrArg (fun z : AlM => z.2) c
  have e2 : (fn.map fun d => fnQ K d.2.at_)[i]? = (fn.map fun d => d.2.val)[i]? := by rw [e]
  rw [List.getElem?_map, List.getElem?_map, h] at e2
  exact DefM.funD (Option.some.inj e2) (List.all_eq_true.mp c2 _ (List.mem_of_getElem? h))
end
end Dl
set_option Elab.async false
set_option linter.all false
set_option maxRecDepth 100000
set_option maxHeartbeats 0
namespace Dl
open PySem PySem.Spec PyProof.Rows L2 SlX
def asL : List Addr := [3, 194, 195, 201, 202, 208, 209, 215, 216, 220, 221, 225, 226, 234, 240, 241, 250, 257, 258, 259, 265, 266, 267, 275, 283, 291, 298, 304, 305, 312, 313, 315, 316, 317, 318, 319, 327, 328, 334, 335, 339, 340, 344, 345, 360, 362, 368, 369, 378, 388, 397, 405, 413, 421, 429, 436, 443, 450, 457, 464, 469, 476, 481, 486, 491, 498, 504, 505, 510, 511, 513, 514, 515, 516, 517, 539, 540, 541, 542, 543, 544, 550, 551, 557, 558, 562, 563, 567, 568, 576, 580, 581, 589, 597, 605, 613, 619, 620, 627, 633, 634, 641, 648, 655, 662, 669, 675, 676, 683, 690, 696, 697, 704, 705, 707, 708, 709, 710, 711, 712, 713, 714, 722, 723, 729, 730, 748, 749, 753, 754, 760, 761, 765, 766, 772, 773, 777, 778, 784, 785, 789, 790, 794, 795, 799, 800, 806, 807, 813, 814, 820, 821, 827, 828, 839, 840, 846, 847, 853, 854, 860, 861, 872, 873, 879, 880, 884, 885, 891, 892, 898, 899, 905, 906, 912, 913, 921, 927, 928, 937, 947, 956, 964, 970, 971, 972, 976, 977, 978, 982, 983, 984, 990, 997, 1001, 1002, 1009, 1016, 1022, 1023, 1030, 1036, 1037, 1043, 1044, 1051, 1052, 1054, 1055, 1056, 1057, 1058, 1066, 1067, 1073, 1074, 1080, 1081, 1085, 1086, 1092, 1093, 1099, 1100, 1106, 1107, 1113, 1114, 1120, 1121, 1127, 1128, 1134, 1135, 1141, 1142, 1146, 1147, 1151, 1152, 1156, 1157, 1161, 1162, 1168, 1169, 1175, 1176, 1182, 1183, 1187, 1188, 1192, 1193, 1197, 1198, 1202, 1203, 1209, 1210, 1216, 1217, 1221, 1222, 1228, 1229, 1233, 1234, 1238, 1239, 1245, 1246]
def faA0 : List Fm := [.free "isinstance", .free "len", .free "range", .free "zip", .free "enumerate", .free "tuple", .free "list", .free "int", .free "bool", .free "all", .free "any", .free "sorted", .free "abs", .free "max", .free "min", .free "repr", .glo "Slope", .scls "Slope", .glo "Shelf", .scls "Shelf"]
def faA1 : List Fm := [.glo "Field", .scls "Field", .glo "Room", .scls "Room", .glo "is_integer", .glo "require_integer", .glo "is_from", .glo "require_from", .glo "are_integers", .glo "are_ascending", .glo "require_slope", .glo "require_coprime", .glo "are_gaps", .glo "least_by", .glo "digits_of", .glo "element_of", .glo "sum_in", .glo "product_in", .glo "require_field", .glo "require_elements"]
def faA2 : List Fm := [.glo "is_row_of", .glo "are_rows_of", .glo "order_of_row", .glo "added_times", .glo "row_less", .glo "scaled", .glo "reduced", .glo "plain_by_orders", .glo "plain_of", .glo "across_of", .glo "require_rows", .glo "require_row", .glo "plain_rows", .glo "across", .glo "product_of_rows", .glo "row_product", .glo "moved_row", .glo "row_moved", .glo "width_of", .glo "order_of"]
def faA3 : List Fm := [.glo "moved_rows", .glo "is_closed", .glo "is_room_basis", .glo "are_room_rows", .glo "require_place", .glo "require_room", .glo "require_like_room", .glo "sum_of_products", .glo "conditions_for", .glo "maps_between", .glo "factor", .glo "_law_dice", .glo "_law_roll"]
def faA : List Fm := faA0 ++ faA1 ++ faA2 ++ faA3
def faB0 : List Fm := [.glo "_law_pick", .glo "_law_field_shape", .glo "_law_field_digits", .glo "_law_field_element", .glo "_law_field_product", .glo "_law_field", .glo "_law_row_plus", .glo "_law_row_drawn", .glo "_law_row_moved", .glo "_law_row_product", .glo "_law_row_inverse", .glo "_law_plain", .glo "_law_all_rows", .glo "_law_room_closed", .glo "_law_room_slope", .glo "_law_room_drawn", .glo "_law_first_row", .glo "_law_product", .glo "_law_leads", .glo "_law_is_factor"]
def faB1 : List Fm := [.glo "_law_right", .glo "law", .slot "Slope" "own_common" 0, .slot "Slope" "own_rises" 1, .slot "Slope" "own_steps" 2, .slot "Shelf" "own_gaps" 0, .slot "Shelf" "own_least" 1, .slot "Shelf" "own_slope" 2, .slot "Field" "own_members" 1, .slot "Field" "own_inverses" 0, .slot "Field" "own_negatives" 2, .slot "Field" "own_plus" 3, .slot "Field" "own_size" 4, .slot "Field" "own_times" 5, .slot "Room" "own_basis" 0, .slot "Room" "own_field" 1, .slot "Room" "own_slope" 2, .meth "Slope" "__init__", .meth "Slope" "__eq__", .meth "Shelf" "__init__"]
def faB2 : List Fm := [.meth "Shelf" "__eq__", .meth "Field" "__init__", .meth "Field" "plus", .meth "Field" "times", .meth "Field" "__contains__", .meth "Field" "__eq__", .meth "Room" "__init__", .meth "Room" "by_row", .meth "Room" "__add__", .meth "Room" "__len__", .meth "Room" "__eq__", .prop "Slope" "rises", .prop "Slope" "steps", .prop "Room" "basis", .prop "Room" "orders", .prop "Room" "shelf", .mkr "Slope", .mkr "Shelf", .mkr "Field", .mkr "Room"]
def faB3 : List Fm := [.nee "Slope", .nee "Shelf", .nee "Field", .nee "Room", .sef "Room", .blt "gcd" "math.gcd", .dat "GREATEST" (.inl (10 ^ 60)), .dat "MAX_SIDE" (.inl 60), .dat "MAX_LENGTH" (.inl 60), .dat "MAX_ROWS" (.inl 60), .dat "MAX_WIDTH" (.inl 24), .dat "SIZES" (.inr [2, 3, 4, 5, 7, 8, 9]), .dic "PRIMES" [(2, .inl 2), (3, .inl 3), (4, .inl 2), (5, .inl 5), (7, .inl 7), (8, .inl 2), (9, .inl 3)], .dic "CARRIES" [(4, .inr [1, 1]), (8, .inr [1, 1, 0]), (9, .inr [2, 0])]]
def faB : List Fm := faB0 ++ faB1 ++ faB2 ++ faB3
def fnA0 : List (Bool × DefM) := [(false, ⟨.glo "is_integer", "is_integer", "is_integer", tp 14, []⟩), (false, ⟨.glo "require_integer", "require_integer", "require_integer", tp 15, []⟩), (false, ⟨.glo "is_from", "is_from", "is_from", tp 16, []⟩), (false, ⟨.glo "require_from", "require_from", "require_from", tp 17, []⟩), (false, ⟨.glo "are_integers", "are_integers", "are_integers", tp 18, []⟩), (false, ⟨.glo "are_ascending", "are_ascending", "are_ascending", tp 19, []⟩), (false, ⟨.glo "require_slope", "require_slope", "require_slope", tp 23, []⟩), (false, ⟨.glo "require_coprime", "require_coprime", "require_coprime", tp 24, []⟩), (false, ⟨.glo "are_gaps", "are_gaps", "are_gaps", tp 26, []⟩), (false, ⟨.glo "least_by", "least_by", "least_by", tp 27, []⟩), (false, ⟨.glo "digits_of", "digits_of", "digits_of", tp 39, []⟩), (false, ⟨.glo "element_of", "element_of", "element_of", tp 40, []⟩), (false, ⟨.glo "sum_in", "sum_in", "sum_in", tp 41, []⟩), (false, ⟨.glo "product_in", "product_in", "product_in", tp 42, []⟩), (false, ⟨.glo "require_field", "require_field", "require_field", tp 44, []⟩), (false, ⟨.glo "require_elements", "require_elements", "require_elements", tp 45, []⟩), (false, ⟨.glo "is_row_of", "is_row_of", "is_row_of", tp 48, []⟩), (false, ⟨.glo "are_rows_of", "are_rows_of", "are_rows_of", tp 49, []⟩), (false, ⟨.glo "order_of_row", "order_of_row", "order_of_row", tp 50, []⟩), (false, ⟨.glo "added_times", "added_times", "added_times", tp 51, []⟩)]
def fnA1 : List (Bool × DefM) := [(false, ⟨.glo "row_less", "row_less", "row_less", tp 52, []⟩), (false, ⟨.glo "scaled", "scaled", "scaled", tp 53, []⟩), (false, ⟨.glo "reduced", "reduced", "reduced", tp 54, []⟩), (false, ⟨.glo "plain_by_orders", "plain_by_orders", "plain_by_orders", tp 55, []⟩), (false, ⟨.glo "plain_of", "plain_of", "plain_of", tp 56, []⟩), (false, ⟨.glo "across_of", "across_of", "across_of", tp 57, []⟩), (false, ⟨.glo "require_rows", "require_rows", "require_rows", tp 58, []⟩), (false, ⟨.glo "require_row", "require_row", "require_row", tp 59, []⟩), (false, ⟨.glo "plain_rows", "plain_rows", "plain_rows", tp 60, []⟩), (false, ⟨.glo "across", "across", "across", tp 61, []⟩), (false, ⟨.glo "product_of_rows", "product_of_rows", "product_of_rows", tp 63, []⟩), (false, ⟨.glo "row_product", "row_product", "row_product", tp 64, []⟩), (false, ⟨.glo "moved_row", "moved_row", "moved_row", tp 65, []⟩), (false, ⟨.glo "row_moved", "row_moved", "row_moved", tp 66, []⟩), (false, ⟨.glo "width_of", "width_of", "width_of", tp 71, []⟩), (false, ⟨.glo "order_of", "order_of", "order_of", tp 72, []⟩), (false, ⟨.glo "moved_rows", "moved_rows", "moved_rows", tp 73, []⟩), (false, ⟨.glo "is_closed", "is_closed", "is_closed", tp 74, []⟩), (false, ⟨.glo "is_room_basis", "is_room_basis", "is_room_basis", tp 75, []⟩), (false, ⟨.glo "are_room_rows", "are_room_rows", "are_room_rows", tp 76, []⟩)]
def fnA2 : List (Bool × DefM) := [(false, ⟨.glo "require_place", "require_place", "require_place", tp 77, []⟩), (false, ⟨.glo "require_room", "require_room", "require_room", tp 79, []⟩), (false, ⟨.glo "require_like_room", "require_like_room", "require_like_room", tp 80, []⟩), (false, ⟨.glo "sum_of_products", "sum_of_products", "sum_of_products", tp 81, []⟩), (false, ⟨.glo "conditions_for", "conditions_for", "conditions_for", tp 82, []⟩)]
def fnA : List (Bool × DefM) := fnA0 ++ fnA1 ++ fnA2
def fnB0 : List (Bool × DefM) := [(false, ⟨.glo "maps_between", "maps_between", "maps_between", tp 83, []⟩), (false, ⟨.glo "factor", "factor", "factor", tp 84, []⟩), (false, ⟨.glo "_law_dice", "_law_dice", "_law_dice", tp 86, []⟩), (false, ⟨.glo "_law_roll", "_law_roll", "_law_roll", tp 87, []⟩), (false, ⟨.glo "_law_pick", "_law_pick", "_law_pick", tp 88, []⟩), (false, ⟨.glo "_law_field_shape", "_law_field_shape", "_law_field_shape", tp 89, []⟩), (false, ⟨.glo "_law_field_digits", "_law_field_digits", "_law_field_digits", tp 90, []⟩), (false, ⟨.glo "_law_field_element", "_law_field_element", "_law_field_element", tp 91, []⟩), (false, ⟨.glo "_law_field_product", "_law_field_product", "_law_field_product", tp 92, []⟩), (false, ⟨.glo "_law_field", "_law_field", "_law_field", tp 93, []⟩), (false, ⟨.glo "_law_row_plus", "_law_row_plus", "_law_row_plus", tp 94, []⟩), (false, ⟨.glo "_law_row_drawn", "_law_row_drawn", "_law_row_drawn", tp 95, []⟩), (false, ⟨.glo "_law_row_moved", "_law_row_moved", "_law_row_moved", tp 96, []⟩), (false, ⟨.glo "_law_row_product", "_law_row_product", "_law_row_product", tp 97, []⟩), (false, ⟨.glo "_law_row_inverse", "_law_row_inverse", "_law_row_inverse", tp 98, []⟩), (false, ⟨.glo "_law_plain", "_law_plain", "_law_plain", tp 99, []⟩), (false, ⟨.glo "_law_all_rows", "_law_all_rows", "_law_all_rows", tp 100, []⟩), (false, ⟨.glo "_law_room_closed", "_law_room_closed", "_law_room_closed", tp 101, []⟩), (false, ⟨.glo "_law_room_slope", "_law_room_slope", "_law_room_slope", tp 102, []⟩), (false, ⟨.glo "_law_room_drawn", "_law_room_drawn", "_law_room_drawn", tp 103, []⟩)]
def fnB1 : List (Bool × DefM) := [(false, ⟨.glo "_law_first_row", "_law_first_row", "_law_first_row", tp 104, []⟩), (false, ⟨.glo "_law_product", "_law_product", "_law_product", tp 105, []⟩), (false, ⟨.glo "_law_leads", "_law_leads", "_law_leads", tp 106, []⟩), (false, ⟨.glo "_law_is_factor", "_law_is_factor", "_law_is_factor", tp 107, []⟩), (false, ⟨.glo "_law_right", "_law_right", "_law_right", tp 108, []⟩), (false, ⟨.glo "law", "law", "law", tp 109, []⟩), (false, ⟨.met "Slope" "__init__", "__init__", "Slope.__init__", L2.inClass (tp 22) 1, []⟩), (false, ⟨.met "Slope" "__eq__", "__eq__", "Slope.__eq__", L2.inClass (tp 22) 9, []⟩), (true, ⟨.met "Shelf" "__init__", "__init__", "Shelf.__init__", L2.inClass (tp 29) 1, []⟩), (false, ⟨.met "Shelf" "__eq__", "__eq__", "Shelf.__eq__", L2.inClass (tp 29) 20, []⟩), (false, ⟨.met "Field" "__init__", "__init__", "Field.__init__", L2.inClass (tp 43) 1, []⟩), (false, ⟨.met "Field" "plus", "plus", "Field.plus", L2.inClass (tp 43) 6, []⟩), (false, ⟨.met "Field" "times", "times", "Field.times", L2.inClass (tp 43) 8, []⟩), (false, ⟨.met "Field" "__contains__", "__contains__", "Field.__contains__", L2.inClass (tp 43) 14, []⟩), (false, ⟨.met "Field" "__eq__", "__eq__", "Field.__eq__", L2.inClass (tp 43) 17, []⟩), (false, ⟨.met "Room" "__init__", "__init__", "Room.__init__", L2.inClass (tp 78) 1, []⟩), (false, ⟨.met "Room" "by_row", "by_row", "Room.by_row", L2.inClass (tp 78) 11, []⟩), (false, ⟨.met "Room" "__add__", "__add__", "Room.__add__", L2.inClass (tp 78) 14, []⟩), (false, ⟨.met "Room" "__len__", "__len__", "Room.__len__", L2.inClass (tp 78) 16, []⟩), (false, ⟨.met "Room" "__eq__", "__eq__", "Room.__eq__", L2.inClass (tp 78) 17, []⟩)]
def fnB2 : List (Bool × DefM) := [(false, ⟨.prp "Slope" "rises", "rises", "Slope.rises", L2.inClass (tp 22) 3, []⟩), (false, ⟨.prp "Slope" "steps", "steps", "Slope.steps", L2.inClass (tp 22) 4, []⟩), (false, ⟨.prp "Room" "basis", "basis", "Room.basis", L2.inClass (tp 78) 6, []⟩), (false, ⟨.prp "Room" "orders", "orders", "Room.orders", L2.inClass (tp 78) 7, []⟩), (false, ⟨.prp "Room" "shelf", "shelf", "Room.shelf", L2.inClass (tp 78) 8, []⟩)]
def fnB : List (Bool × DefM) := fnB0 ++ fnB1 ++ fnB2
def fa : List Fm := faA ++ faB
def fn : List (Bool × DefM) := fnA ++ fnB
theorem obs_two {f1 f2 : List Fm} {d1 d2 : List (Bool × DefM)} {g : Addr → Option Obj} {as : List Addr} (h1 : obsMG as f1 d1 g = valM d1) (h2 : obsMG as f2 d2 g = valM d2) : obsMG as (f1 ++ f2) (d1 ++ d2) g = valM (d1 ++ d2) := by
  unfold obsMG obsM valM at *
  obtain ⟨a1, a2⟩ := Prod.mk.inj h1
  obtain ⟨b1, b2⟩ := Prod.mk.inj h2
  obtain ⟨a3, a4⟩ := an a1
  obtain ⟨b3, b4⟩ := an b1
  rw [List.all_append, List.all_append, a3, a4, b3, b4, List.map_append, List.map_append, a2, b2]; rfl
end Dl
noncomputable section
namespace Dh
open PySem PySem.W PySem.Calls PyProof.Rows
abbrev R : OpenRow := OpenLaw.row PySem.Challenge.rw_slantways_k63_whole_rooms_by_rows_and_fa
def names0 : List PySem.Str := ["_wall", "SlantError", "InvalidSlope", "InvalidShelf", "InvalidField", "InvalidRoom", "InvalidOperation", "InvalidNumber", "TooMany", "Refused", "GREATEST", "is_integer", "require_integer", "is_from", "require_from", "are_integers", "are_ascending", "MAX_SIDE", "Slope", "require_slope", "require_coprime", "are_gaps", "least_by", "gaps_below", "Shelf"]
def names1 : List PySem.Str := ["is_member", "gaps_above", "require_like_shelf", "SIZES", "MAX_LENGTH", "MAX_ROWS", "PRIMES", "CARRIES", "digits_of", "element_of", "sum_in", "product_in", "Field", "require_field", "require_elements", "require_not_zero", "order_in", "is_row_of", "are_rows_of", "order_of_row", "added_times", "row_less", "scaled", "reduced", "plain_by_orders"]
def names2 : List PySem.Str := ["plain_of", "across_of", "require_rows", "require_row", "plain_rows", "across", "is_spanned", "product_of_rows", "row_product", "moved_row", "row_moved", "places_of", "MAX_WIDTH", "width_of", "order_of", "moved_rows", "is_closed", "is_room_basis", "are_room_rows", "require_place", "Room", "require_room", "require_like_room", "sum_of_products", "conditions_for"]
def names3 : List PySem.Str := ["maps_between", "factor", "_law_dice", "_law_roll", "_law_pick", "_law_field_shape", "_law_field_digits", "_law_field_element", "_law_field_product", "_law_field", "_law_row_plus", "_law_row_drawn", "_law_row_moved", "_law_row_product", "_law_row_inverse", "_law_plain", "_law_all_rows", "_law_room_closed", "_law_room_slope", "_law_room_drawn", "_law_first_row", "_law_product", "_law_leads", "_law_is_factor", "_law_right"]
def names : List PySem.Str := names0 ++ names1 ++ names2 ++ names3
abbrev qv : Program := view R.prog [0, 109]
abbrev hk : PySem.W.Hook := Dl.hookM Dl.asL Dl.fa Dl.fn
def ob (s : PySem.W.SharedT) : Dl.AlM := Dl.obsMG Dl.asL Dl.fa Dl.fn (HandSHeadRun.getT s)
theorem ob_eq (s : PySem.W.SharedT) : ob s = hk.obs s.abs := Dl.obsMG_eq (HandSHeadRun.getT_eq s)
def runF (w : World) := HandSHeadRun.wholeF (fun p => HandSHeadRun.stepQ (HandSHeadRun.denQ HandSHeadRun.tabQ) p w) HandSHeadRun.fenceQ 20000 R.prog
def lookL (x : Shared × SharedT) := HandSHeadRun.looksF R.prog x.1.heap x.2.abs
def lookS (x : Shared × SharedT) := HandSHeadRun.seenQ qv names (importedModules R.prog.main.body) (fun s => xlAt qv [] s && recOk R.toRowW.records s) x.2.abs
theorem lkL_f (w : World) : (runF (w.withFollow "special-get-raises" false)).map lookL = some true := by kernel_rfl
theorem lkS_f (w : World) : (runF (w.withFollow "special-get-raises" false)).map lookS = some (openGood qv names) := by kernel_rfl
theorem obA_f (w : World) : (runF (w.withFollow "special-get-raises" false)).map (fun x => Dl.obsMG Dl.asL Dl.faA Dl.fnA (HandSHeadRun.getT x.2)) = some (Dl.valM Dl.fnA) := by kernel_rfl
theorem obB_f (w : World) : (runF (w.withFollow "special-get-raises" false)).map (fun x => Dl.obsMG Dl.asL Dl.faB Dl.fnB (HandSHeadRun.getT x.2)) = some (Dl.valM Dl.fnB) := by kernel_rfl
theorem lkL_t (w : World) : (runF (w.withFollow "special-get-raises" true)).map lookL = some true := by kernel_rfl
theorem lkS_t (w : World) : (runF (w.withFollow "special-get-raises" true)).map lookS = some (openGood qv names) := by kernel_rfl
theorem obA_t (w : World) : (runF (w.withFollow "special-get-raises" true)).map (fun x => Dl.obsMG Dl.asL Dl.faA Dl.fnA (HandSHeadRun.getT x.2)) = some (Dl.valM Dl.fnA) := by kernel_rfl
theorem obB_t (w : World) : (runF (w.withFollow "special-get-raises" true)).map (fun x => Dl.obsMG Dl.asL Dl.faB Dl.fnB (HandSHeadRun.getT x.2)) = some (Dl.valM Dl.fnB) := by kernel_rfl
theorem run_of (w : World) (h0 : (runF w).map lookL = some true) (h1 : (runF w).map lookS = some (openGood qv names)) (h2 : (runF w).map (fun x => Dl.obsMG Dl.asL Dl.faA Dl.fnA (HandSHeadRun.getT x.2)) = some (Dl.valM Dl.fnA)) (h3 : (runF w).map (fun x => Dl.obsMG Dl.asL Dl.faB Dl.fnB (HandSHeadRun.getT x.2)) = some (Dl.valM Dl.fnB)) :
    HandSHeadRun.RunEqI R qv hk ob 20000 names w := by
  unfold HandSHeadRun.RunEqI
  show (runF w).map (fun x => (lookL x, lookS x, ob x.2)) = some (true, openGood qv names, Dl.valM Dl.fn)
  cases e : runF w with
  | none => rw [e] at h0; cases h0
  | some x =>
    rw [e] at h0 h1 h2 h3
    have q0 : lookL x = true := Option.some.inj h0
    have q1 : lookS x = openGood qv names := Option.some.inj h1
    have q2 : ob x.2 = Dl.valM Dl.fn := Dl.obs_two (Option.some.inj h2) (Option.some.inj h3)
    show some (lookL x, lookS x, ob x.2) = _
    rw [q0, q1, q2]
theorem run (w : World) : HandSHeadRun.RunEqI R qv hk ob 20000 names w :=
  byRow2 "special-get-raises" (P := fun w => HandSHeadRun.RunEqI R qv hk ob 20000 names w) (fun w => run_of _ (lkL_f w) (lkS_f w) (obA_f w) (obB_f w)) (fun w => run_of _ (lkL_t w) (lkS_t w) (obA_t w) (obB_t w)) w
end Dh
end
namespace Rm
class Fl (F : Type) extends Lean.Grind.CommRing F where
  inv : F → F
  mul_inv : ∀ x : F, x ≠ 0 → x * inv x = 1
  one_ne : (1 : F) ≠ 0
  dec : DecidableEq F
instance {F : Type} [h : Fl F] : DecidableEq F := h.dec
section
variable {F : Type} [Fl F]
theorem mul_eq_zero {a b : F} (h : a * b = 0) : a = 0 ∨ b = 0 := by
  by_cases e : a = 0
  · exact .inl e
  · right
    have := Fl.mul_inv a e
    have e2 : b = (a * b) * Fl.inv a := by grind
    rw [e2, h]; grind
theorem mul_ne {a b : F} (ha : a ≠ 0) (hb : b ≠ 0) : a * b ≠ 0 := fun h => (mul_eq_zero h).elim ha hb
theorem inv_ne {a : F} (ha : a ≠ 0) : Fl.inv a ≠ 0 := fun h => by
  have := Fl.mul_inv a ha
  rw [h] at this
  exact Fl.one_ne (F := F) (by rw [← this]; grind)

/-! ### sums -/
def sm : Nat → (Nat → F) → F
  | 0, _ => 0
  | n + 1, f => sm n f + f n
theorem sm_congr {f g : Nat → F} : ∀ {n : Nat}, (∀ i, i < n → f i = g i) → sm n f = sm n g
  | 0, _ => rfl
  | n + 1, h => by
    show sm n f + f n = sm n g + g n
    rw [sm_congr fun i hi => h i (Nat.lt_succ_of_lt hi), h n (Nat.lt_succ_self n)]
theorem sm_zero : ∀ {n : Nat} {f : Nat → F}, (∀ i, i < n → f i = 0) → sm n f = 0
  | 0, _, _ => rfl
  | n + 1, f, h => by
    show sm n f + f n = 0
    rw [sm_zero fun i hi => h i (Nat.lt_succ_of_lt hi), h n (Nat.lt_succ_self n)]; grind
theorem sm_add (f g : Nat → F) : ∀ n : Nat, sm n (fun i => f i + g i) = sm n f + sm n g
  | 0 => by show (0 : F) = 0 + 0; grind
  | n + 1 => by
    show sm n (fun i => f i + g i) + (f n + g n) = (sm n f + f n) + (sm n g + g n)
    rw [sm_add f g n]; grind
theorem sm_mul (c : F) (f : Nat → F) : ∀ n : Nat, sm n (fun i => c * f i) = c * sm n f
  | 0 => by show (0 : F) = c * 0; grind
  | n + 1 => by
    show sm n (fun i => c * f i) + c * f n = c * (sm n f + f n)
    rw [sm_mul c f n]; grind
theorem sm_comm (f : Nat → Nat → F) : ∀ (m n : Nat), sm m (fun i => sm n (fun j => f i j)) = sm n (fun j => sm m (fun i => f i j))
  | 0, n => (sm_zero fun _ _ => rfl).symm
  | m + 1, n => by
    show sm m (fun i => sm n (fun j => f i j)) + sm n (fun j => f m j) = sm n (fun j => sm m (fun i => f i j) + f m j)
    rw [sm_comm f m n, sm_add]
theorem sm_single {f : Nat → F} {j : Nat} : ∀ {n : Nat}, j < n → (∀ i, i < n → i ≠ j → f i = 0) → sm n f = f j
  | n + 1, hj, h => by
    show sm n f + f n = f j
    by_cases e : j = n
    · subst e
      rw [sm_zero fun i hi => h i (Nat.lt_succ_of_lt hi) (Nat.ne_of_lt hi)]; grind
    · rw [sm_single (by omega) fun i hi he => h i (Nat.lt_succ_of_lt hi) he, h n (Nat.lt_succ_self n) (fun q => e q.symm)]; grind
theorem sm_split (f : Nat → F) (m : Nat) : ∀ n : Nat, sm (m + n) f = sm m f + sm n (fun i => f (m + i))
  | 0 => by show sm m f = sm m f + 0; grind
  | n + 1 => by
    show sm (m + n) f + f (m + n) = sm m f + (sm n (fun i => f (m + i)) + f (m + n))
    rw [sm_split f m n]; grind
/-- zeros above -/
theorem sm_more {f : Nat → F} {m n : Nat} (h : m ≤ n) (z : ∀ i, m ≤ i → i < n → f i = 0) : sm n f = sm m f := by
  obtain ⟨d, rfl⟩ := Nat.exists_eq_add_of_le h
  rw [sm_split, sm_zero (n := d) fun i hi => z (m + i) (by omega) (by omega)]; grind
theorem sm_head (f : Nat → F) (n : Nat) : sm (n + 1) f = f 0 + sm n (fun i => f (i + 1)) := by
  rw [Nat.add_comm n 1, sm_split]
  show (0 + f 0) + _ = _
  have : (fun i => f (1 + i)) = (fun i => f (i + 1)) := by funext i; rw [Nat.add_comm]
  rw [this]; grind
theorem sm_rev (f : Nat → F) : ∀ n : Nat, sm n f = sm n (fun i => f (n - 1 - i))
  | 0 => rfl
  | n + 1 => by
    rw [sm_head (fun i => f (n + 1 - 1 - i)) n]
    show sm n f + f n = f (n + 1 - 1 - 0) + _
    rw [sm_rev f n, show n + 1 - 1 - 0 = n from by omega]
    have : sm n (fun i => f (n - 1 - i)) = sm n (fun i => f (n + 1 - 1 - (i + 1))) := sm_congr fun i hi => by rw [show n - 1 - i = n + 1 - 1 - (i + 1) from by omega]
    rw [this]; grind

/-! ### spans -/
abbrev Vc (F : Type) := Nat → F
inductive Sp (R : Vc F → Prop) : Vc F → Prop
  | z : Sp R fun _ => 0
  | s {x r : Vc F} (c : F) : R r → Sp R x → Sp R fun i => x i + c * r i
variable {R R' : Vc F → Prop} {x y : Vc F}
theorem Sp.to (h : Sp R x) (e : x = y) : Sp R y := e ▸ h
theorem Sp.of {r : Vc F} (h : R r) : Sp R r := (Sp.s 1 h .z).to (by funext i; grind)
theorem Sp.comb (hx : Sp R x) (c : F) (hy : Sp R y) : Sp R fun i => x i + c * y i := by
  induction hy with
  | z => exact hx.to (by funext i; grind)
  | s d hr _ ih => exact (Sp.s (c * d) hr ih).to (by funext i; grind)
theorem Sp.smul (c : F) (hy : Sp R y) : Sp R fun i => c * y i := (Sp.comb .z c hy).to (by funext i; grind)
theorem Sp.add (hx : Sp R x) (hy : Sp R y) : Sp R fun i => x i + y i := (Sp.comb hx 1 hy).to (by funext i; grind)
theorem Sp.le (k : ∀ r, R r → Sp R' r) (h : Sp R x) : Sp R' x := by
  induction h with
  | z => exact .z
  | s c hr _ ih => exact Sp.comb ih c (k _ hr)
theorem Sp.mono (k : ∀ r, R r → R' r) (h : Sp R x) : Sp R' x := h.le fun r hr => .of (k r hr)
/-- what is linear and holds of the rows holds of the span -/
theorem Sp.all {p : Vc F → Prop} (h0 : p fun _ => 0) (hs : ∀ x y c, p x → p y → p fun i => x i + c * y i) (hr : ∀ r, R r → p r) (h : Sp R x) : p x := by
  induction h with
  | z => exact h0
  | s c hr' _ ih => exact hs _ _ c ih (hr _ hr')
theorem Sp.map {f : Vc F → Vc F} (f0 : f (fun _ => 0) = fun _ => 0) (fl : ∀ x y (c : F), f (fun i => x i + c * y i) = fun i => f x i + c * f y i) (h : Sp R x) (k : ∀ r, R r → Sp R' (f r)) : Sp R' (f x) := by
  induction h with
  | z => rw [f0]; exact .z
  | s c hr _ ih => rw [fl]; exact Sp.comb ih c (k _ hr)
theorem sm_sp {n : Nat} {a : Nat → F} {v : Nat → Vc F} (h : ∀ i, i < n → a i ≠ 0 → Sp R (v i)) : Sp R fun j => sm n fun i => a i * v i j := by
  induction n with
  | zero => exact Sp.z
  | succ n ih =>
    by_cases e : a n = 0
    · exact (ih fun i hi => h i (Nat.lt_succ_of_lt hi)).to (by funext j; show _ = sm n _ + a n * v n j; rw [e]; grind)
    · exact (Sp.comb (ih fun i hi => h i (Nat.lt_succ_of_lt hi)) (a n) (h n (Nat.lt_succ_self n) e)).to (by funext j; rfl)

/-! ### plain rows by their orders -/
/-- the row at pivot o -/
abbrev Tb (F : Type) := Nat → Option (Vc F)
def ro (A : Tb F) (o : Nat) : Vc F := (A o).getD fun _ => 0
def InT (A : Tb F) (r : Vc F) : Prop := ∃ o, A o = some r
structure RR (n : Nat) (A : Tb F) : Prop where
  lt : ∀ o r, A o = some r → o < n
  one : ∀ o r, A o = some r → r o = 1
  low : ∀ o r, A o = some r → ∀ j, j < o → r j = 0
  off : ∀ o r, A o = some r → ∀ o', A o' ≠ none → o' ≠ o → r o' = 0
  sup : ∀ o r, A o = some r → ∀ j, n ≤ j → r j = 0
variable {n : Nat} {A B : Tb F}
theorem ro_some {o : Nat} {r : Vc F} (h : A o = some r) : ro A o = r := by unfold ro; rw [h]; rfl
theorem ro_none {o : Nat} (h : A o = none) : ro A o = fun _ => 0 := by unfold ro; rw [h]; rfl
theorem RR.lin (h : RR n A) (hx : Sp (InT A) x) : x = fun i => sm n fun o => x o * ro A o i := by
  refine Sp.all (p := fun x => x = fun i => sm n fun o => x o * ro A o i) ?_ ?_ ?_ hx
  · funext i; exact (sm_zero fun o _ => by grind).symm
  · intro x y c ex ey
    funext i
    have : sm n (fun o => (x o + c * y o) * ro A o i) = sm n (fun o => x o * ro A o i) + c * sm n (fun o => y o * ro A o i) := by
      rw [← sm_mul, ← sm_add]; exact sm_congr fun o _ => by grind
    rw [this, ← congrFun ex i, ← congrFun ey i]
  · intro r ⟨o, ho⟩
    funext i
    have : sm n (fun o => r o * ro A o i) = r o * ro A o i := sm_single (h.lt o r ho) fun j hj e => by
      cases q : A j with
      | none => rw [ro_none q]; grind
      | some r' => rw [h.off o r ho j (by rw [q]; exact fun z => by cases z) e]; grind
    rw [this, h.one o r ho, ro_some ho]; grind
theorem RR.zero (h : RR n A) (hx : Sp (InT A) x) (z : ∀ o, A o ≠ none → x o = 0) : x = fun _ => 0 := by
  rw [h.lin hx]
  funext i
  exact sm_zero fun o _ => by
    by_cases q : A o = none
    · rw [ro_none q]; grind
    · rw [z o q]; grind
/-- an order of the span is a pivot -/
theorem RR.piv (h : RR n A) (hx : Sp (InT A) x) {o : Nat} (ho : x o ≠ 0) (lo : ∀ j, j < o → x j = 0) : A o ≠ none := fun q => by
  apply ho
  rw [congrFun (h.lin hx) o]
  exact sm_zero fun j _ => by
    by_cases e1 : j < o
    · rw [lo j e1]; grind
    · cases q2 : A j with
      | none => rw [ro_none q2]; grind
      | some r =>
        by_cases e2 : j = o
        · rw [e2, q] at q2; cases q2
        · rw [ro_some q2, h.low j r q2 o (by omega)]; grind
theorem RR.sub (hA : RR n A) (hB : RR n B) (k : ∀ r, InT A r → Sp (InT B) r) {o : Nat} (ho : A o ≠ none) : B o ≠ none := by
  cases q : A o with
  | none => exact absurd q ho
  | some r => exact hB.piv (k r ⟨o, q⟩) (by rw [hA.one o r q]; exact Fl.one_ne) (hA.low o r q)
theorem RR.same (hA : RR n A) (hB : RR n B) (k : ∀ r, InT A r → Sp (InT B) r) (p : ∀ o, B o ≠ none → A o ≠ none) : A = B := by
  funext o
  cases q : A o with
  | none =>
    cases q2 : B o with
    | none => rfl
    | some r => exact absurd q (p o (by rw [q2]; exact fun z => by cases z))
  | some r =>
    have e := hB.lin (k r ⟨o, q⟩)
    cases q2 : B o with
    | none => exact absurd q2 (hA.sub hB k (by rw [q]; exact fun z => by cases z))
    | some r' =>
      congr 1
      rw [e]
      funext i
      have : sm n (fun j => r j * ro B j i) = r o * ro B o i := sm_single (hA.lt o r q) fun j hj ej => by
        cases q3 : B j with
        | none => rw [ro_none q3]; grind
        | some r2 => rw [hA.off o r q j (p j (by rw [q3]; exact fun z => by cases z)) ej]; grind
      rw [this, hA.one o r q, ro_some q2]; grind
theorem RR.uniq (hA : RR n A) (hB : RR n B) (k : ∀ r, InT A r → Sp (InT B) r) (k' : ∀ r, InT B r → Sp (InT A) r) : A = B :=
  hA.same hB k fun _ => hB.sub hA k'
/-- counting pivots -/
def cnt (A : Tb F) : Nat → Nat
  | 0 => 0
  | n + 1 => cnt A n + (if (A n).isSome then 1 else 0)
theorem cnt_le (A : Tb F) : ∀ n, cnt A n ≤ n
  | 0 => Nat.le_refl 0
  | n + 1 => by
    have := cnt_le A n
    show cnt A n + _ ≤ n + 1
    split <;> omega
theorem cnt_mono (k : ∀ o, A o ≠ none → B o ≠ none) : ∀ n, cnt A n ≤ cnt B n
  | 0 => Nat.le_refl 0
  | n + 1 => by
    have := cnt_mono k n
    show cnt A n + _ ≤ cnt B n + _
    have kn := k n
    cases qa : A n <;> cases qb : B n <;> simp_all <;> omega
theorem cnt_eq (k : ∀ o, A o ≠ none → B o ≠ none) : ∀ n, cnt A n = cnt B n → ∀ o, o < n → B o ≠ none → A o ≠ none
  | n + 1, e, o, ho, hb => by
    have m := cnt_mono k n
    have e' : cnt A n + (if (A n).isSome then 1 else 0) = cnt B n + (if (B n).isSome then 1 else 0) := e
    have kn := k n
    by_cases eo : o = n
    · subst eo
      intro qa
      cases qb : B o with
      | none => exact hb qb
      | some r => rw [qa, qb] at e'; simp at e'; omega
    · refine cnt_eq k n ?_ o (by omega) hb
      cases qa : A n <;> cases qb : B n <;> simp_all
      omega
theorem RR.sameC (hA : RR n A) (hB : RR n B) (k : ∀ r, InT A r → Sp (InT B) r) (e : cnt A n = cnt B n) : A = B :=
  hA.same hB k fun o ho => cnt_eq (fun _ => hA.sub hB k) n e o (by
    cases q : B o with
    | none => exact absurd q ho
    | some r => exact hB.lt o r q) ho
end
end Rm
set_option linter.unusedSectionVars false
set_option linter.unusedVariables false
namespace Rm
section
variable {F : Type} [Fl F]
abbrev Rw (F : Type) := List F
/-! ### rows -/
def co (r : Rw F) : Vc F := fun i => r.getD i 0
def addT (x y : Rw F) (c : F) : Rw F := List.zipWith (fun a b => a + c * b) x y
def scl (r : Rw F) (c : F) : Rw F := r.map fun x => c * x
def ord (r : Rw F) : Option Nat := r.findIdx? fun x => decide (x ≠ 0)
variable {x y r : Rw F} {n : Nat}
theorem co_ge {i : Nat} (h : r.length ≤ i) : co r i = 0 := by unfold co; simp [List.getElem?_eq_none h]
theorem co_at {i : Nat} (h : i < r.length) : co r i = r[i] := by unfold co; simp [List.getElem?_eq_getElem h]
theorem co_get {i : Nat} (h : i < r.length) : r[i]? = some (co r i) := by rw [co_at h]; exact List.getElem?_eq_getElem h
theorem row_ext (hx : x.length = n) (hy : y.length = n) (h : ∀ i, i < n → co x i = co y i) : x = y := by
  apply List.ext_getElem (by rw [hx, hy])
  intro i h1 h2
  have := h i (by omega)
  rwa [co_at h1, co_at h2] at this
theorem row_extC (hl : x.length = y.length) (h : co x = co y) : x = y := row_ext rfl hl.symm fun i _ => congrFun h i
theorem len_addT (h : x.length = n) (h' : y.length = n) (c : F) : (addT x y c).length = n := by unfold addT; simp [h, h']
theorem co_addT (h : x.length = y.length) (c : F) : co (addT x y c) = fun i => co x i + c * co y i := by
  funext i
  by_cases e : i < x.length
  · have h2 : i < y.length := h ▸ e
    rw [co_at e, co_at h2]
    show (List.zipWith (fun a b => a + c * b) x y).getD i 0 = _
    simp [List.getElem?_zipWith, List.getElem?_eq_getElem e, List.getElem?_eq_getElem h2]
  · rw [co_ge (by rw [len_addT rfl h.symm]; omega), co_ge (by omega : x.length ≤ i), co_ge (by omega : y.length ≤ i)]; grind
theorem len_scl (c : F) : (scl r c).length = r.length := by unfold scl; simp
theorem co_scl (c : F) : co (scl r c) = fun i => c * co r i := by
  funext i
  by_cases e : i < r.length
  · rw [co_at (by rw [len_scl]; exact e), co_at e]; unfold scl; simp
  · rw [co_ge (by rw [len_scl]; omega), co_ge (by omega : r.length ≤ i)]; grind
theorem ord_none (h : ord r = none) : co r = fun _ => 0 := by
  unfold ord at h
  rw [List.findIdx?_eq_none_iff] at h
  funext i
  by_cases e : i < r.length
  · rw [co_at e]
    have := h r[i] (List.getElem_mem e)
    simpa using this
  · exact co_ge (by omega)
theorem ord_some {o : Nat} (h : ord r = some o) : o < r.length ∧ co r o ≠ 0 ∧ ∀ j, j < o → co r j = 0 := by
  unfold ord at h
  rw [List.findIdx?_eq_some_iff_getElem] at h
  obtain ⟨hl, h1, h2⟩ := h
  refine ⟨hl, ?_, fun j hj => ?_⟩
  · rw [co_at hl]; simpa using h1
  · rw [co_at (by omega)]
    have := h2 j hj
    simpa using this
theorem ord_of {o : Nat} (h1 : co r o ≠ 0) (h2 : ∀ j, j < o → co r j = 0) : ord r = some o := by
  cases q : ord r with
  | none => exact absurd (congrFun (ord_none q) o) h1
  | some p =>
    obtain ⟨_, p1, p2⟩ := ord_some q
    congr 1
    rcases Nat.lt_trichotomy p o with h | h | h
    · exact absurd (h2 p h) p1
    · exact h
    · exact absurd (p2 o h) h1
theorem ord_none_iff : ord r = none ↔ co r = fun _ => 0 := ⟨ord_none, fun h => by
  cases q : ord r with
  | none => rfl
  | some o => exact absurd (congrFun h o) (ord_some q).2.1⟩
def zr (n : Nat) : Rw F := List.replicate n 0
theorem co_zr : co (zr n : Rw F) = fun _ => 0 := by
  funext i
  unfold co zr
  simp [List.getElem?_replicate]
  split <;> simp
theorem co_zero_ext (hx : x.length = n) (h : co x = fun _ => 0) : x = zr n := row_ext hx (by unfold zr; simp) fun i _ => by rw [h, co_zr]

/-! ### rows by orders -/
abbrev Dw (F : Type) := List (Nat × Rw F)
def keys (A : Dw F) : List Nat := A.map (·.1)
def getA (A : Dw F) (o : Nat) : Rw F := (A.lookup o).getD []
def redF (A : Dw F) (ks : List Nat) (row : Rw F) : Rw F :=
  ks.foldl (fun left o => if co left o ≠ 0 then addT left (getA A o) (-(co left o)) else left) row
def sortN (ks : List Nat) : List Nat := ks.mergeSort (fun a b => decide (a ≤ b))
def redA (A : Dw F) (row : Rw F) : Rw F := redF A (sortN (keys A)) row
def pbStep (A : Dw F) (row : Rw F) : Dw F :=
  match ord (redA A row) with
  | none => A
  | some o => A.map (fun p => (p.1, redA [(o, scl (redA A row) (Fl.inv (co (redA A row) o)))] p.2)) ++ [(o, scl (redA A row) (Fl.inv (co (redA A row) o)))]
def pbo (rows : List (Rw F)) : Dw F := rows.foldl pbStep []
def rref (rows : List (Rw F)) : List (Rw F) := (sortN (keys (pbo rows))).map (getA (pbo rows))
def tb (A : Dw F) : Tb F := fun o => (A.lookup o).map co
structure OkD (n : Nat) (A : Dw F) : Prop where
  nd : (keys A).Nodup
  len : ∀ p, p ∈ A → p.2.length = n
  rr : RR n (tb A)
variable {A : Dw F}
theorem lk_mem {o : Nat} : ∀ {A : Dw F} {r : Rw F}, A.lookup o = some r → (o, r) ∈ A
  | (a, b) :: A, r, h => by
    rw [List.lookup_cons] at h
    cases q : (o == a) with
    | true =>
      rw [q] at h
      have e : o = a := by simpa using q
      have e2 : b = r := by simpa using h
      subst e e2
      exact List.mem_cons_self
    | false => rw [q] at h; exact List.mem_cons_of_mem _ (lk_mem h)
theorem lk_of : ∀ {A : Dw F} {o : Nat} {r : Rw F}, (keys A).Nodup → (o, r) ∈ A → A.lookup o = some r
  | (a, b) :: A, o, r, nd, h => by
    rw [List.lookup_cons]
    unfold keys at nd
    rw [List.map_cons, List.nodup_cons] at nd
    rcases List.mem_cons.mp h with e | e
    · cases e; simp
    · have : o ≠ a := fun z => nd.1 (by rw [← z]; exact List.mem_map.mpr ⟨(o, r), e, rfl⟩)
      have q : (o == a) = false := by simpa using this
      rw [q]; exact lk_of nd.2 e
theorem lk_none {o : Nat} : ∀ {A : Dw F}, A.lookup o = none ↔ o ∉ keys A
  | [] => by simp [keys]
  | (a, b) :: A => by
    rw [List.lookup_cons]
    unfold keys
    cases q : (o == a) with
    | true => simp_all
    | false =>
      have := lk_none (o := o) (A := A)
      unfold keys at this
      have e : o ≠ a := by simpa using q
      simp_all
theorem mem_keys {o : Nat} : o ∈ keys A ↔ ∃ r, A.lookup o = some r := by
  have := lk_none (A := A) (o := o)
  cases q : A.lookup o with
  | none => simp_all
  | some r => simp_all
theorem tb_some {o : Nat} {r : Rw F} (h : A.lookup o = some r) : tb A o = some (co r) := by unfold tb; rw [h]; rfl
theorem tb_inv {o : Nat} {v : Vc F} (h : tb A o = some v) : ∃ r, A.lookup o = some r ∧ v = co r := by
  unfold tb at h
  cases q : A.lookup o with
  | none => rw [q] at h; cases h
  | some r => rw [q] at h; exact ⟨r, rfl, (Option.some.inj h).symm⟩
theorem tb_ne {o : Nat} : tb A o ≠ none ↔ o ∈ keys A := by
  rw [mem_keys]
  unfold tb
  cases q : A.lookup o <;> simp
theorem getA_some {o : Nat} {r : Rw F} (h : A.lookup o = some r) : getA A o = r := by unfold getA; rw [h]; rfl
theorem OkD.klt (h : OkD n A) {o : Nat} (ho : o ∈ keys A) : o < n := by
  obtain ⟨r, e⟩ := mem_keys.mp ho
  exact h.rr.lt o _ (tb_some e)
theorem OkD.glen (h : OkD n A) {o : Nat} (ho : o ∈ keys A) : (getA A o).length = n := by
  obtain ⟨r, e⟩ := mem_keys.mp ho
  rw [getA_some e]
  exact h.len _ (lk_mem e)
theorem OkD.ro (h : OkD n A) {o : Nat} (ho : o ∈ keys A) : co (getA A o) = ro (tb A) o := by
  obtain ⟨r, e⟩ := mem_keys.mp ho
  rw [getA_some e, ro_some (tb_some e)]
theorem okd_nil : OkD n ([] : Dw F) := ⟨List.nodup_nil, fun _ h => (by cases h), ⟨fun _ _ h => (by cases h), fun _ _ h => (by cases h), fun _ _ h => (by cases h), fun _ _ h => (by cases h), fun _ _ h => (by cases h)⟩⟩
theorem sortN_perm (ks : List Nat) : (sortN ks).Perm ks := List.mergeSort_perm ks _
theorem sortN_mem {ks : List Nat} {o : Nat} : o ∈ sortN ks ↔ o ∈ ks := (sortN_perm ks).mem_iff
theorem sortN_sorted (ks : List Nat) : (sortN ks).Pairwise (· ≤ ·) := by
  have := List.pairwise_mergeSort (le := fun a b : Nat => decide (a ≤ b)) (fun a b c h1 h2 => by simp at *; omega) (fun a b => by simp; omega) ks
  exact this.imp fun h => by simpa using h
theorem sortN_nodup {ks : List Nat} (h : ks.Nodup) : (sortN ks).Nodup := (sortN_perm ks).nodup_iff.mpr h
/-- what reduced does: subtract, for each key, the row at it -/
theorem redF_ok (h : OkD n A) : ∀ (ks : List Nat) (row : Rw F), row.length = n → (∀ o, o ∈ ks → o ∈ keys A) → ks.Nodup →
    (redF A ks row).length = n ∧ (∀ o, o ∈ ks → co (redF A ks row) o = 0) ∧ (∀ o, o ∈ keys A → o ∉ ks → co (redF A ks row) o = co row o) ∧
    (∃ z, Sp (InT (tb A)) z ∧ co (redF A ks row) = fun i => co row i + z i) ∧ (∀ j, (∀ o, o ∈ ks → co row o ≠ 0 → j < o) → co (redF A ks row) j = co row j)
  | [], row, hl, _, _ => ⟨hl, fun _ h => (by cases h), fun _ _ _ => rfl, ⟨fun _ => 0, .z, by funext i; show co row i = _; grind⟩, fun _ _ => rfl⟩
  | o :: ks, row, hl, hk, nd => by
    rw [List.nodup_cons] at nd
    have ho := hk o List.mem_cons_self
    obtain ⟨r, e⟩ := mem_keys.mp ho
    have er := tb_some e
    have hrl := h.glen ho
    have step : ∀ row', row'.length = n → (co row' = fun i => co row i + (-(co row o)) * co r i) → redF A (o :: ks) row = redF A ks row' →
        (redF A (o :: ks) row).length = n ∧ (∀ p, p ∈ o :: ks → co (redF A (o :: ks) row) p = 0) ∧ (∀ p, p ∈ keys A → p ∉ o :: ks → co (redF A (o :: ks) row) p = co row p) ∧
        (∃ z, Sp (InT (tb A)) z ∧ co (redF A (o :: ks) row) = fun i => co row i + z i) ∧ (∀ j, (∀ p, p ∈ o :: ks → co row p ≠ 0 → j < p) → co (redF A (o :: ks) row) j = co row j) := by
      intro row' hl' hc' e'
      have ih := redF_ok h ks row' hl' (fun p hp => hk p (List.mem_cons_of_mem _ hp)) nd.2
      have other : ∀ p, p ∈ keys A → p ≠ o → co row' p = co row p := fun p hp hne => by
        rw [congrFun hc' p]; show co row p + _ * co r p = _; rw [h.rr.off o _ er p (tb_ne.mpr hp) hne]; grind
      rw [e']
      refine ⟨ih.1, fun p hp => ?_, fun p hp hn => ?_, ?_, fun j hj => ?_⟩
      · rcases List.mem_cons.mp hp with z | z
        · subst z
          rw [ih.2.2.1 p ho nd.1, congrFun hc' p]; show co row p + _ * co r p = _; rw [h.rr.one p _ er]; grind
        · exact ih.2.1 p z
      · rw [ih.2.2.1 p hp (fun z => hn (List.mem_cons_of_mem _ z)), other p hp (fun z => hn (z ▸ List.mem_cons_self))]
      · obtain ⟨z, hz, ez⟩ := ih.2.2.2.1
        refine ⟨_, Sp.comb hz (-(co row o)) (Sp.of ⟨o, er⟩), ?_⟩
        rw [ez, hc']; funext i; grind
      · have : co row' j = co row j := by
          rw [hc']
          show co row j + _ = _
          by_cases q : co row o = 0
          · rw [q]; grind
          · rw [h.rr.low o _ er j (hj o List.mem_cons_self q)]; grind
        rw [ih.2.2.2.2 j fun p hp hne => ?_, this]
        have hpo : p ≠ o := fun z => nd.1 (z ▸ hp)
        rw [other p (hk p (List.mem_cons_of_mem _ hp)) hpo] at hne
        exact hj p (List.mem_cons_of_mem _ hp) hne
    by_cases q : co row o = 0
    · refine step row hl (by rw [q]; funext i; grind) ?_
      unfold redF; rw [List.foldl_cons, if_neg (by simpa using q)]
    · refine step (addT row (getA A o) (-(co row o))) (len_addT hl hrl _) (by rw [co_addT (by rw [hl, hrl]), getA_some e]) ?_
      unfold redF; rw [List.foldl_cons, if_pos q]
theorem redA_ok (h : OkD n A) {row : Rw F} (hl : row.length = n) :
    (redA A row).length = n ∧ (∀ o, o ∈ keys A → co (redA A row) o = 0) ∧
    (∃ z, Sp (InT (tb A)) z ∧ co (redA A row) = fun i => co row i + z i) ∧ (∀ j, (∀ o, o ∈ keys A → co row o ≠ 0 → j < o) → co (redA A row) j = co row j) := by
  have := redF_ok h (sortN (keys A)) row hl (fun o ho => sortN_mem.mp ho) (sortN_nodup h.nd)
  exact ⟨this.1, fun o ho => this.2.1 o (sortN_mem.mpr ho), this.2.2.2.1, fun j hj => this.2.2.2.2 j fun o ho => hj o (sortN_mem.mp ho)⟩
end
end Rm
set_option linter.unusedSectionVars false
set_option linter.unusedVariables false
namespace Rm
section
variable {F : Type} [Fl F] {x y r : Rw F} {n : Nat} {A B : Dw F}
abbrev InR (rows : List (Rw F)) : Vc F → Prop := fun r => ∃ x, x ∈ rows ∧ r = co x
abbrev SpR (rows : List (Rw F)) : Vc F → Prop := Sp (InR rows)
theorem redA_one {o : Nat} {nw r : Rw F} (hr : r.length = n) (hn : nw.length = n) : (redA [(o, nw)] r).length = n ∧ co (redA [(o, nw)] r) = fun i => co r i + (-(co r o)) * co nw i := by
  have e : redA [(o, nw)] r = if co r o ≠ 0 then addT r nw (-(co r o)) else r := by
    have s : sortN (keys [(o, nw)]) = [o] := List.mergeSort_singleton o
    have g : getA [(o, nw)] o = nw := by unfold getA; simp
    unfold redA redF
    rw [s, List.foldl_cons, List.foldl_nil, g]
  rw [e]
  by_cases q : co r o = 0
  · rw [if_neg (by simpa using q)]
    exact ⟨hr, by rw [q]; funext i; grind⟩
  · rw [if_pos q]
    exact ⟨len_addT hr hn _, co_addT (by rw [hr, hn]) _⟩
theorem lk_map {f : Rw F → Rw F} {o p : Nat} {nw : Rw F} : ∀ {A : Dw F}, o ∉ keys A → (A.map (fun p => (p.1, f p.2)) ++ [(o, nw)]).lookup p = if p = o then some nw else (A.lookup p).map f
  | [], _ => by
    rw [List.map_nil, List.nil_append, List.lookup_cons]
    by_cases e : p = o
    · subst e; simp
    · have : (p == o) = false := by simpa using e
      rw [this, if_neg e]; rfl
  | (a, b) :: A, h => by
    unfold keys at h
    rw [List.map_cons, List.mem_cons] at h
    rw [List.map_cons, List.cons_append, List.lookup_cons, List.lookup_cons]
    by_cases e : p = a
    · subst e
      have : p ≠ o := fun z => h (.inl z.symm)
      simp [this]
    · have : (p == a) = false := by simpa using e
      rw [this]
      exact lk_map (A := A) fun z => h (.inr z)
theorem add_ok (h : OkD n A) {o : Nat} {nw : Rw F} {f : Rw F → Rw F} (on : o < n) (nl : nw.length = n) (no : co nw o = 1) (nlow : ∀ j, j < o → co nw j = 0) (nk : ∀ p, p ∈ keys A → co nw p = 0)
    (hf : ∀ s, s.length = n → (f s).length = n ∧ co (f s) = fun i => co s i + (-(co s o)) * co nw i) :
    OkD n (A.map (fun p => (p.1, f p.2)) ++ [(o, nw)]) ∧ ∀ v, Sp (InT (tb (A.map (fun p => (p.1, f p.2)) ++ [(o, nw)]))) v ↔ Sp (fun w => InT (tb A) w ∨ w = co nw) v := by
    have ok : o ∉ keys A := fun k => Fl.one_ne (F := F) (by rw [← no]; exact nk o k)
    have lk := fun p => lk_map (f := f) (nw := nw) (p := p) ok
    generalize hA' : A.map (fun p => (p.1, f p.2)) ++ [(o, nw)] = A' at lk ⊢
    have key : ∀ p v, tb A' p = some v → (p = o ∧ v = co nw) ∨ (p ≠ o ∧ ∃ s, A.lookup p = some s ∧ s.length = n ∧ v = fun i => co s i + (-(co s o)) * co nw i) := fun p v hv => by
      obtain ⟨s, e1, e2⟩ := tb_inv hv
      rw [lk] at e1
      by_cases e : p = o
      · rw [if_pos e] at e1
        exact .inl ⟨e, by rw [e2, ← Option.some.inj e1]⟩
      · rw [if_neg e] at e1
        cases q2 : A.lookup p with
        | none => rw [q2] at e1; cases e1
        | some t =>
          rw [q2] at e1
          have e3 : f t = s := Option.some.inj e1
          have tl := h.len _ (lk_mem q2)
          exact .inr ⟨e, t, rfl, tl, by rw [e2, ← e3]; exact (hf t tl).2⟩
    have kz : ∀ p, tb A' p ≠ none → p = o ∨ p ∈ keys A := fun p hp => by
      cases q2 : tb A' p with
      | none => exact absurd q2 hp
      | some v =>
        rcases key p v q2 with ⟨e, _⟩ | ⟨_, s, e, _⟩
        · exact .inl e
        · exact .inr (mem_keys.mpr ⟨s, e⟩)
    have hin : InT (tb A') (co nw) := ⟨o, tb_some (by rw [lk, if_pos rfl])⟩
    refine ⟨⟨?_, ?_, ⟨?_, ?_, ?_, ?_, ?_⟩⟩, fun v => ⟨fun s => s.le fun w hw => ?_, fun s => s.le fun w hw => ?_⟩⟩
    · have : keys A' = keys A ++ [o] := by rw [← hA']; unfold keys; rw [List.map_append, List.map_map]; rfl
      rw [this, List.nodup_append]
      exact ⟨h.nd, by simp, fun a ha b hb => by rw [List.mem_singleton] at hb; subst hb; exact fun z => ok (z ▸ ha)⟩
    · intro p hp
      rw [← hA'] at hp
      rcases List.mem_append.mp hp with hp | hp
      · obtain ⟨p', hp', e⟩ := List.mem_map.mp hp
        rw [← e]; exact (hf _ (h.len p' hp')).1
      · rw [List.mem_singleton] at hp; rw [hp]; exact nl
    · intro p v hv
      rcases key p v hv with ⟨e, _⟩ | ⟨_, s, e, _⟩
      · omega
      · exact h.klt (mem_keys.mpr ⟨s, e⟩)
    · intro p v hv
      rcases key p v hv with ⟨e, e2⟩ | ⟨hne, s, e, _, e2⟩
      · rw [e2, e]; exact no
      · rw [e2]; show co s p + _ * co nw p = 1
        rw [nk p (mem_keys.mpr ⟨s, e⟩), h.rr.one p _ (tb_some e)]; grind
    · intro p v hv j hj
      rcases key p v hv with ⟨e, e2⟩ | ⟨hne, s, e, _, e2⟩
      · rw [e2]; exact nlow j (by omega)
      · rw [e2]; show co s j + _ * co nw j = 0
        rw [h.rr.low p _ (tb_some e) j hj]
        rcases Nat.lt_or_gt_of_ne hne with c | c
        · rw [nlow j (by omega)]; grind
        · rw [h.rr.low p _ (tb_some e) o c]; grind
    · intro p v hv p' hp' hne'
      rcases key p v hv with ⟨e, e2⟩ | ⟨hne, s, e, _, e2⟩
      · rw [e2]
        rcases kz p' hp' with c | c
        · exact absurd (c.trans e.symm) hne'
        · exact nk p' c
      · rw [e2]; show co s p' + _ * co nw p' = 0
        rcases kz p' hp' with c | c
        · rw [c, no]; grind
        · rw [nk p' c, h.rr.off p _ (tb_some e) p' (tb_ne.mpr c) hne']; grind
    · intro p v hv j hj
      rcases key p v hv with ⟨e, e2⟩ | ⟨hne, s, e, sl, e2⟩
      · rw [e2]; exact co_ge (by omega)
      · rw [e2]; show co s j + _ * co nw j = 0
        rw [co_ge (by omega), co_ge (r := nw) (by omega)]; grind
    · obtain ⟨p, hp⟩ := hw
      rcases key p w hp with ⟨e, e2⟩ | ⟨hne, s, e, _, e2⟩
      · exact .of (.inr e2)
      · rw [e2]; exact Sp.comb (.of (.inl ⟨p, tb_some e⟩)) _ (.of (.inr rfl))
    · rcases hw with hw | hw
      · obtain ⟨p, hp⟩ := hw
        obtain ⟨s, e1, e2⟩ := tb_inv hp
        have hne : p ≠ o := fun z => ok (z ▸ mem_keys.mpr ⟨s, e1⟩)
        have e3 : A'.lookup p = some (f s) := by rw [lk, if_neg hne, e1]; rfl
        have := Sp.comb (Sp.of (R := InT (tb A')) ⟨p, tb_some e3⟩) (co s o) (Sp.of hin)
        refine this.to ?_
        rw [(hf _ (h.len _ (lk_mem e1))).2, e2]
        funext i; grind
      · rw [hw]; exact .of hin
theorem pbStep_ok (h : OkD n A) (hl : r.length = n) : OkD n (pbStep A r) ∧ ∀ v, Sp (InT (tb (pbStep A r))) v ↔ Sp (fun w => InT (tb A) w ∨ w = co r) v := by
  obtain ⟨h1, h2, ⟨z, hz, ez⟩, _⟩ := redA_ok h hl
  unfold pbStep
  cases q : ord (redA A r) with
  | none =>
    refine ⟨h, fun v => ⟨fun s => s.mono fun w hw => .inl hw, fun s => s.le fun w hw => ?_⟩⟩
    rcases hw with hw | hw
    · exact .of hw
    · rw [hw]
      refine (Sp.smul (-1) hz).to ?_
      funext i
      have := congrFun ez i
      rw [ord_none q] at this
      grind
  | some o =>
    obtain ⟨ol, o1, o2⟩ := ord_some q
    have hinv := Fl.mul_inv _ o1
    dsimp only
    generalize hL : redA A r = L at *
    have nl : (scl L (Fl.inv (co L o))).length = n := by rw [len_scl]; exact h1
    have nc : co (scl L (Fl.inv (co L o))) = fun i => Fl.inv (co L o) * co L i := co_scl _
    generalize scl L (Fl.inv (co L o)) = nw at nl nc ⊢
    have no : co nw o = 1 := by rw [nc]; grind
    have nk : ∀ p, p ∈ keys A → co nw p = 0 := fun p hp => by rw [nc]; show _ * co L p = 0; rw [h2 p hp]; grind
    have nlow : ∀ j, j < o → co nw j = 0 := fun j hj => by rw [nc]; show _ * co L j = 0; rw [o2 j hj]; grind
    have ad := add_ok h (f := redA [(o, nw)]) (by omega) nl no nlow nk fun s hs => redA_one hs nl
    refine ⟨ad.1, fun v => (ad.2 v).trans ⟨fun s => s.le fun w hw => ?_, fun s => s.le fun w hw => ?_⟩⟩
    · rcases hw with hw | hw
      · exact .of (.inl hw)
      · rw [hw, nc]
        refine Sp.smul _ ?_
        rw [ez]
        exact Sp.add (.of (.inr rfl)) (hz.mono fun w hw => .inl hw)
    · rcases hw with hw | hw
      · exact .of (.inl hw)
      · rw [hw]
        refine (Sp.comb (Sp.smul (co L o) (Sp.of (.inr rfl))) (-1) (hz.mono fun w hw => .inl hw)).to ?_
        funext i
        have := congrFun ez i
        rw [nc]
        grind
theorem pb_fold : ∀ (rows : List (Rw F)) {A : Dw F}, OkD n A → (∀ x, x ∈ rows → x.length = n) → OkD n (rows.foldl pbStep A) ∧ ∀ v, Sp (InT (tb (rows.foldl pbStep A))) v ↔ Sp (fun w => InT (tb A) w ∨ InR rows w) v
  | [], A, h, _ => ⟨h, fun v => ⟨fun s => s.mono fun w hw => .inl hw, fun s => s.mono fun w hw => hw.elim id fun ⟨_, z, _⟩ => (by cases z)⟩⟩
  | r :: rows, A, h, hl => by
    have st := pbStep_ok h (hl r List.mem_cons_self)
    have ih := pb_fold rows st.1 fun x hx => hl x (List.mem_cons_of_mem _ hx)
    refine ⟨ih.1, fun v => (ih.2 v).trans ⟨fun s => s.le fun w hw => ?_, fun s => s.le fun w hw => ?_⟩⟩
    · rcases hw with hw | ⟨x, hx, e⟩
      · refine ((st.2 w).mp (.of hw)).mono fun u hu => ?_
        rcases hu with hu | hu
        · exact .inl hu
        · exact .inr ⟨r, List.mem_cons_self, hu⟩
      · exact .of (.inr ⟨x, List.mem_cons_of_mem _ hx, e⟩)
    · rcases hw with hw | ⟨x, hx, e⟩
      · exact ((st.2 w).mpr (.of (.inl hw))).mono fun u hu => .inl hu
      · rcases List.mem_cons.mp hx with z | z
        · subst z
          exact ((st.2 w).mpr (.of (.inr e))).mono fun u hu => .inl hu
        · exact .of (.inr ⟨x, z, e⟩)
theorem pbo_ok {rows : List (Rw F)} (hl : ∀ x, x ∈ rows → x.length = n) : OkD n (pbo rows) ∧ ∀ v, Sp (InT (tb (pbo rows))) v ↔ SpR rows v := by
  have := pb_fold rows (okd_nil (F := F) (n := n)) hl
  refine ⟨this.1, fun v => (this.2 v).trans ⟨fun s => s.mono fun w hw => hw.elim (fun ⟨_, z⟩ => (by cases z)) id, fun s => s.mono fun w hw => .inr hw⟩⟩

/-! ### the list of the rows -/
def ls (A : Dw F) : List (Rw F) := (sortN (keys A)).map (getA A)
def RL (n : Nat) (P : List (Rw F)) : Prop := ∃ A, OkD n A ∧ P = ls A
theorem sp_ls (h : OkD n A) (v : Vc F) : SpR (ls A) v ↔ Sp (InT (tb A)) v := by
  refine ⟨fun s => s.mono fun w ⟨x, hx, e⟩ => ?_, fun s => s.mono fun w ⟨o, ho⟩ => ?_⟩
  · obtain ⟨o, ho, e2⟩ := List.mem_map.mp hx
    obtain ⟨r, e3⟩ := mem_keys.mp (sortN_mem.mp ho)
    exact ⟨o, by rw [e, ← e2, getA_some e3]; exact tb_some e3⟩
  · obtain ⟨r, e1, e2⟩ := tb_inv ho
    exact ⟨r, List.mem_map.mpr ⟨o, sortN_mem.mpr (mem_keys.mpr ⟨r, e1⟩), getA_some e1⟩, e2⟩
theorem sorted_uniq : ∀ {l m : List Nat}, l.Pairwise (· ≤ ·) → m.Pairwise (· ≤ ·) → l.Perm m → l = m := fun {l m} h1 h2 p => p.eq_of_pairwise (fun a b _ _ h1 h2 => Nat.le_antisymm h1 h2) h1 h2
theorem perm_of_mem {l m : List Nat} (h1 : l.Nodup) (h2 : m.Nodup) (h : ∀ a, a ∈ l ↔ a ∈ m) : l.Perm m := (List.perm_ext_iff_of_nodup h1 h2).mpr h
theorem sortN_eq {l m : List Nat} (h1 : l.Nodup) (h2 : m.Nodup) (h : ∀ a, a ∈ l ↔ a ∈ m) : sortN l = sortN m :=
  sorted_uniq (sortN_sorted l) (sortN_sorted m) ((sortN_perm l).trans ((perm_of_mem h1 h2 h).trans (sortN_perm m).symm))
theorem ls_eq (hA : OkD n A) (hB : OkD n B) (e : tb A = tb B) : ls A = ls B := by
  have k : ∀ a, a ∈ keys A ↔ a ∈ keys B := fun a => by rw [← tb_ne, ← tb_ne, e]
  unfold ls
  rw [sortN_eq hA.nd hB.nd k]
  refine List.map_congr_left fun o ho => ?_
  have hb := sortN_mem.mp ho
  have ha := (k o).mpr hb
  refine row_extC (by rw [hA.glen ha, hB.glen hb]) ?_
  rw [hA.ro ha, hB.ro hb, e]
theorem RL.uniq {P Q : List (Rw F)} (hP : RL n P) (hQ : RL n Q) (h1 : ∀ x, x ∈ P → SpR Q (co x)) (h2 : ∀ x, x ∈ Q → SpR P (co x)) : P = Q := by
  obtain ⟨A, hA, rfl⟩ := hP
  obtain ⟨B, hB, rfl⟩ := hQ
  refine ls_eq hA hB (hA.rr.uniq hB.rr (fun r hr => ?_) fun r hr => ?_)
  · have := ((sp_ls hA r).mpr (.of hr)).le (R' := InR (ls B)) fun w ⟨x, hx, e⟩ => e ▸ h1 x hx
    exact (sp_ls hB r).mp this
  · have := ((sp_ls hB r).mpr (.of hr)).le (R' := InR (ls A)) fun w ⟨x, hx, e⟩ => e ▸ h2 x hx
    exact (sp_ls hA r).mp this
theorem RL.len {P : List (Rw F)} (hP : RL n P) : ∀ x, x ∈ P → x.length = n := by
  obtain ⟨A, hA, rfl⟩ := hP
  intro x hx
  obtain ⟨o, ho, e2⟩ := List.mem_map.mp hx
  rw [← e2]; exact hA.glen (sortN_mem.mp ho)
theorem rref_eq (rows : List (Rw F)) : rref rows = ls (pbo rows) := rfl
theorem rref_rl {rows : List (Rw F)} (hl : ∀ x, x ∈ rows → x.length = n) : RL n (rref rows) := ⟨pbo rows, (pbo_ok hl).1, rfl⟩
theorem rref_sp {rows : List (Rw F)} (hl : ∀ x, x ∈ rows → x.length = n) (v : Vc F) : SpR (rref rows) v ↔ SpR rows v := by
  rw [rref_eq, sp_ls (pbo_ok hl).1]; exact (pbo_ok hl).2 v
theorem SpR.le {P Q : List (Rw F)} {v : Vc F} (h : SpR P v) (k : ∀ x, x ∈ P → SpR Q (co x)) : SpR Q v := Sp.le (fun w ⟨x, hx, e⟩ => e ▸ k x hx) h
theorem SpR.of {P : List (Rw F)} (h : x ∈ P) : SpR P (co x) := Sp.of ⟨x, h, rfl⟩
theorem rref_congr {P Q : List (Rw F)} (hP : ∀ x, x ∈ P → x.length = n) (hQ : ∀ x, x ∈ Q → x.length = n) (h1 : ∀ x, x ∈ P → SpR Q (co x)) (h2 : ∀ x, x ∈ Q → SpR P (co x)) : rref P = rref Q :=
  (rref_rl hP).uniq (rref_rl hQ) (fun x hx => (rref_sp hQ _).mpr (((rref_sp hP _).mp (.of hx)).le h1)) fun x hx => (rref_sp hP _).mpr (((rref_sp hQ _).mp (.of hx)).le h2)
theorem RL.self {P : List (Rw F)} (h : RL n P) : rref P = P := (rref_rl h.len).uniq h (fun x hx => (rref_sp h.len _).mp (.of hx)) fun x hx => (rref_sp h.len _).mpr (.of hx)
end
end Rm
set_option linter.unusedSectionVars false
set_option linter.unusedVariables false
namespace Rm
section
variable {F : Type} [Fl F] {x y r : Rw F} {n : Nat} {A B : Dw F}
/-! ### the plain rows by columns -/
def clr (head : Rw F) (at_ : Nat) (row : Rw F) : Rw F := addT row head (-(co row at_))
def lpStep (st : List (Rw F) × List (Rw F)) (at_ : Nat) : List (Rw F) × List (Rw F) :=
  match st.1.filter fun row => decide (co row at_ ≠ 0) with
  | [] => st
  | h :: _ => (st.1.map (clr (scl h (Fl.inv (co h at_))) at_), st.2.map (clr (scl h (Fl.inv (co h at_))) at_) ++ [scl h (Fl.inv (co h at_))])
def lpl (n : Nat) (rows : List (Rw F)) : List (Rw F) := ((List.range n).foldl lpStep (rows, [])).2
structure LpI (n : Nat) (rows : List (Rw F)) (m : Nat) (st : List (Rw F) × List (Rw F)) : Prop where
  len : ∀ x, x ∈ st.1 → x.length = n
  zero : ∀ x, x ∈ st.1 → ∀ j, j < m → co x j = 0
  ex : ∃ A : Dw F, OkD n A ∧ st.2 = A.map (·.2) ∧ (keys A).Pairwise (· ≤ ·) ∧ (∀ o, o ∈ keys A → o < m) ∧ ∀ v, SpR rows v ↔ Sp (fun w => InT (tb A) w ∨ InR st.1 w) v
theorem lp_step {rows : List (Rw F)} {m : Nat} {st : List (Rw F) × List (Rw F)} (hm : m < n) (h : LpI n rows m st) : LpI n rows (m + 1) (lpStep st m) := by
  obtain ⟨A, hA, e2, hs, hk, hsp⟩ := h.ex
  unfold lpStep
  cases q : st.1.filter fun row => decide (co row m ≠ 0) with
  | nil =>
    refine ⟨h.len, fun x hx j hj => ?_, A, hA, e2, hs, fun o ho => Nat.lt_succ_of_lt (hk o ho), hsp⟩
    by_cases e : j = m
    · subst e
      have := List.filter_eq_nil_iff.mp q x hx
      simpa using this
    · exact h.zero x hx j (by omega)
  | cons a t =>
    have ha : a ∈ st.1 ∧ co a m ≠ 0 := by
      have : a ∈ st.1.filter fun row => decide (co row m ≠ 0) := by rw [q]; exact List.mem_cons_self
      have := List.mem_filter.mp this
      exact ⟨this.1, by simpa using this.2⟩
    have hinv := Fl.mul_inv _ ha.2
    have al := h.len a ha.1
    have nl : (scl a (Fl.inv (co a m))).length = n := by rw [len_scl]; exact al
    have nc : co (scl a (Fl.inv (co a m))) = fun i => Fl.inv (co a m) * co a i := co_scl _
    dsimp only
    generalize scl a (Fl.inv (co a m)) = nw at nl nc ⊢
    have no : co nw m = 1 := by rw [nc]; grind
    have nlow : ∀ j, j < m → co nw j = 0 := fun j hj => by rw [nc]; show _ * co a j = 0; rw [h.zero a ha.1 j hj]; grind
    have hf : ∀ s, s.length = n → (clr nw m s).length = n ∧ co (clr nw m s) = fun i => co s i + (-(co s m)) * co nw i := fun s hs => ⟨len_addT hs nl _, co_addT (by rw [hs, nl]) _⟩
    have ad := add_ok hA (f := clr nw m) hm nl no nlow (fun p hp => nlow p (hk p hp)) hf
    refine ⟨fun x hx => ?_, fun x hx j hj => ?_, _, ad.1, ?_, ?_, fun o ho => ?_, fun v => (hsp v).trans ⟨fun s => s.le fun w hw => ?_, fun s => s.le fun w hw => ?_⟩⟩
    · obtain ⟨s, hs, e⟩ := List.mem_map.mp hx
      rw [← e]; exact (hf s (h.len s hs)).1
    · obtain ⟨s, hs, e⟩ := List.mem_map.mp hx
      rw [← e, (hf s (h.len s hs)).2]
      show co s j + _ * co nw j = 0
      by_cases c : j = m
      · subst c; rw [no]; grind
      · rw [h.zero s hs j (by omega), nlow j (by omega)]; grind
    · rw [e2]; simp
    · have : keys (A.map (fun p => (p.1, clr nw m p.2)) ++ [(m, nw)]) = keys A ++ [m] := by unfold keys; rw [List.map_append, List.map_map]; rfl
      rw [this, List.pairwise_append]
      exact ⟨hs, by simp, fun a ha b hb => by rw [List.mem_singleton] at hb; have := hk a ha; omega⟩
    · have : keys (A.map (fun p => (p.1, clr nw m p.2)) ++ [(m, nw)]) = keys A ++ [m] := by unfold keys; rw [List.map_append, List.map_map]; rfl
      rw [this] at ho
      rcases List.mem_append.mp ho with c | c
      · have := hk o c; omega
      · rw [List.mem_singleton] at c; omega
    · have inw : Sp (fun w => InT (tb (A.map (fun p => (p.1, clr nw m p.2)) ++ [(m, nw)])) w ∨ InR (st.1.map (clr nw m)) w) (co nw) := ((ad.2 _).mpr (.of (.inr rfl))).mono fun u hu => .inl hu
      rcases hw with hw | ⟨s, hs, e⟩
      · exact ((ad.2 w).mpr (.of (.inl hw))).mono fun u hu => .inl hu
      · have := Sp.comb (Sp.of (R := fun w => InT (tb (A.map (fun p => (p.1, clr nw m p.2)) ++ [(m, nw)])) w ∨ InR (st.1.map (clr nw m)) w) (.inr ⟨clr nw m s, List.mem_map.mpr ⟨s, hs, rfl⟩, rfl⟩)) (co s m) inw
        refine this.to ?_
        rw [e, (hf s (h.len s hs)).2]
        funext i; grind
    · have inw : Sp (fun w => InT (tb A) w ∨ InR st.1 w) (co nw) := by
        rw [nc]
        exact Sp.smul _ (.of (.inr ⟨a, ha.1, rfl⟩))
      rcases hw with hw | ⟨s', hs', e⟩
      · refine ((ad.2 w).mp (.of hw)).le fun u hu => ?_
        rcases hu with hu | hu
        · exact .of (.inl hu)
        · rw [hu]; exact inw
      · obtain ⟨s, hs, e'⟩ := List.mem_map.mp hs'
        rw [e, ← e', (hf s (h.len s hs)).2]
        exact Sp.comb (.of (.inr ⟨s, hs, rfl⟩)) _ inw
theorem lp_all {rows : List (Rw F)} (hl : ∀ x, x ∈ rows → x.length = n) : ∀ m, m ≤ n → LpI n rows m ((List.range m).foldl lpStep (rows, []))
  | 0, _ => ⟨hl, fun _ _ j hj => absurd hj (Nat.not_lt_zero j), [], okd_nil, rfl, .nil, fun _ h => (by cases h), fun v => ⟨fun s => s.mono fun w hw => .inr hw, fun s => s.mono fun w hw => hw.elim (fun ⟨_, z⟩ => (by cases z)) id⟩⟩
  | m + 1, h => by
    rw [List.range_succ, List.foldl_append]
    exact lp_step h (lp_all hl m (Nat.le_of_succ_le h))
theorem ls_sorted (h : OkD n A) (hs : (keys A).Pairwise (· ≤ ·)) : ls A = A.map (·.2) := by
  have e : sortN (keys A) = keys A := sorted_uniq (sortN_sorted _) hs (sortN_perm _)
  unfold ls
  rw [e]
  unfold keys
  rw [List.map_map]
  refine List.map_congr_left fun p hp => ?_
  show getA A p.1 = p.2
  exact getA_some (lk_of h.nd hp)
theorem lpl_rref {rows : List (Rw F)} (hl : ∀ x, x ∈ rows → x.length = n) : lpl n rows = rref rows := by
  have h := lp_all hl n (Nat.le_refl n)
  obtain ⟨A, hA, e2, hs, hk, hsp⟩ := h.ex
  have e : lpl n rows = ls A := by unfold lpl; rw [e2, ls_sorted hA hs]
  have sp : ∀ v, SpR rows v ↔ Sp (InT (tb A)) v := fun v => (hsp v).trans ⟨fun s => s.le fun w hw => by
    rcases hw with hw | ⟨s, hs, e⟩
    · exact .of hw
    · rw [e]
      refine Sp.z.to ?_
      funext i
      by_cases c : i < n
      · exact (h.zero s hs i c).symm
      · exact (co_ge (by rw [h.len s hs]; omega)).symm, fun s => s.mono fun w hw => .inl hw⟩
  rw [e]
  exact RL.uniq ⟨A, hA, rfl⟩ (rref_rl hl) (fun x hx => (rref_sp hl _).mpr ((sp _).mpr ((sp_ls hA _).mp (.of hx)))) fun x hx => (sp_ls hA _).mpr ((sp _).mp ((rref_sp hl _).mp (.of hx)))

/-! ### dimension -/
theorem keys_cnt (h : OkD n A) : (keys A).length = cnt (tb A) n := by
  have e : ∀ m, ((List.range m).filter fun o => (tb A o).isSome).length = cnt (tb A) m := by
    intro m
    induction m with
    | zero => rfl
    | succ m ih =>
      rw [List.range_succ, List.filter_append, List.length_append, ih]
      show _ = cnt (tb A) m + _
      cases q : (tb A m).isSome <;> simp [q]
  rw [← e n]
  refine (perm_of_mem h.nd (List.Nodup.sublist List.filter_sublist List.nodup_range) fun a => ?_).length_eq
  rw [List.mem_filter, List.mem_range, ← tb_ne]
  refine ⟨fun k => ⟨h.klt (tb_ne.mp k), ?_⟩, fun k => ?_⟩
  · cases q : tb A a with
    | none => exact absurd q k
    | some _ => rfl
  · cases q : tb A a with
    | none => rw [q] at k; cases k.2
    | some _ => simp
theorem ls_len (h : OkD n A) : (ls A).length = cnt (tb A) n := by unfold ls; rw [List.length_map, (sortN_perm _).length_eq, keys_cnt h]
theorem RL.le {P : List (Rw F)} (h : RL n P) : P.length ≤ n := by
  obtain ⟨A, hA, rfl⟩ := h
  rw [ls_len hA]; exact cnt_le _ n
theorem RL.sub {P Q : List (Rw F)} (hP : RL n P) (hQ : RL n Q) (k : ∀ x, x ∈ P → SpR Q (co x)) : P.length ≤ Q.length ∧ (P.length = Q.length → P = Q) := by
  obtain ⟨A, hA, rfl⟩ := hP
  obtain ⟨B, hB, rfl⟩ := hQ
  have k' : ∀ r, InT (tb A) r → Sp (InT (tb B)) r := fun r hr => (sp_ls hB r).mp (((sp_ls hA r).mpr (.of hr)).le k)
  rw [ls_len hA, ls_len hB]
  exact ⟨cnt_mono (fun o => hA.rr.sub hB.rr k') n, fun e => ls_eq hA hB (hA.rr.sameC hB.rr k' e)⟩

/-! ### moves, and what is closed under them -/
def mvR (r : Rw F) (m : Nat) : Rw F := List.replicate (min m r.length) 0 ++ r.take (r.length - min m r.length)
def mvV (n m : Nat) (x : Vc F) : Vc F := fun i => if i < m then 0 else if i < n then x (i - m) else 0
theorem len_mvR (m : Nat) : (mvR r m).length = r.length := by unfold mvR; simp; omega
theorem co_mvR (m : Nat) : co (mvR r m) = mvV r.length m (co r) := by
  funext i
  unfold mvV
  by_cases h1 : i < m
  · rw [if_pos h1]
    unfold co mvR
    rw [List.getD_eq_getElem?_getD, List.getElem?_append]
    by_cases h2 : i < r.length
    · rw [if_pos (by simp; omega), List.getElem?_replicate, if_pos (by omega)]; rfl
    · rw [if_neg (by simp; omega), List.getElem?_eq_none (by simp; omega)]; rfl
  · rw [if_neg h1]
    by_cases h2 : i < r.length
    · rw [if_pos h2]
      unfold co mvR
      rw [List.getD_eq_getElem?_getD, List.getElem?_append, if_neg (by simp; omega), List.getElem?_take]
      rw [if_pos (by simp; omega)]
      simp
      congr 2
      omega
    · rw [if_neg h2]
      exact co_ge (by rw [len_mvR]; omega)
theorem mvV_0 (n m : Nat) : mvV n m (fun _ => 0 : Vc F) = fun _ => 0 := by funext i; unfold mvV; by_cases h : i < m <;> by_cases h2 : i < n <;> simp [h, h2]
theorem mvV_lin (n m : Nat) (x y : Vc F) (c : F) : mvV n m (fun i => x i + c * y i) = fun i => mvV n m x i + c * mvV n m y i := by
  funext i; unfold mvV
  split
  · grind
  · split <;> grind
def Cl (n m : Nat) (P : List (Rw F)) : Prop := ∀ x, x ∈ P → SpR P (co (mvR x m))
theorem Cl.v {m : Nat} {P : List (Rw F)} (h : Cl n m P) (hl : ∀ x, x ∈ P → x.length = n) {v : Vc F} (hv : SpR P v) : SpR P (mvV n m v) :=
  Sp.map (mvV_0 n m) (mvV_lin n m) hv fun w ⟨x, hx, e⟩ => by rw [e]; have := h x hx; rwa [co_mvR, hl x hx] at this
def clsd (m : Nat) (P : List (Rw F)) : Bool := decide (rref (P ++ P.map fun r => mvR r m) = P)
theorem app_len {P : List (Rw F)} {f : Rw F → Rw F} (hl : ∀ x, x ∈ P → x.length = n) (hf : ∀ x, x.length = n → (f x).length = n) : ∀ x, x ∈ P ++ P.map f → x.length = n := fun x hx => by
  rcases List.mem_append.mp hx with h | h
  · exact hl x h
  · obtain ⟨s, hs, e⟩ := List.mem_map.mp h
    rw [← e]; exact hf s (hl s hs)
theorem clsd_iff {m : Nat} {P : List (Rw F)} (h : RL n P) : clsd m P = true ↔ Cl n m P := by
  have al := app_len (f := fun r => mvR r m) h.len fun x hx => by rw [len_mvR]; exact hx
  unfold clsd
  rw [decide_eq_true_iff]
  refine ⟨fun e x hx => ?_, fun c => ?_⟩
  · have : SpR (rref (P ++ P.map fun r => mvR r m)) (co (mvR x m)) := (rref_sp al _).mpr (.of (List.mem_append.mpr (.inr (List.mem_map.mpr ⟨x, hx, rfl⟩))))
    rwa [e] at this
  · refine (rref_rl al).uniq h (fun x hx => ((rref_sp al _).mp (.of hx)).le fun y hy => ?_) fun x hx => (rref_sp al _).mpr (.of (List.mem_append.mpr (.inl hx)))
    rcases List.mem_append.mp hy with z | z
    · exact .of z
    · obtain ⟨s, hs, e⟩ := List.mem_map.mp z
      rw [← e]; exact c s hs
/-- one turn of the closing -/
def clT (n ra sb : Nat) (P : List (Rw F)) : List (Rw F) := lpl n (P ++ (P.map (fun r => mvR r ra) ++ P.map fun r => mvR r sb))
def it {α : Type} (f : α → α) : Nat → α → α
  | 0, x => x
  | n + 1, x => f (it f n x)
def clL (n ra sb : Nat) (rows : List (Rw F)) : List (Rw F) := it (clT n ra sb) (n + 1) (lpl n rows)
variable {ra sb : Nat} {P Q : List (Rw F)}
theorem clT_len (hl : ∀ x, x ∈ P → x.length = n) : ∀ x, x ∈ P ++ (P.map (fun r => mvR r ra) ++ P.map fun r => mvR r sb) → x.length = n := fun x hx => by
  rcases List.mem_append.mp hx with h | h
  · exact hl x h
  · rcases List.mem_append.mp h with h | h
    · obtain ⟨s, hs, e⟩ := List.mem_map.mp h
      rw [← e, len_mvR]; exact hl s hs
    · obtain ⟨s, hs, e⟩ := List.mem_map.mp h
      rw [← e, len_mvR]; exact hl s hs
theorem clT_rl (hl : ∀ x, x ∈ P → x.length = n) : RL n (clT n ra sb P) := by unfold clT; rw [lpl_rref (clT_len hl)]; exact rref_rl (clT_len hl)
theorem clT_sp (hl : ∀ x, x ∈ P → x.length = n) (v : Vc F) : SpR (clT n ra sb P) v ↔ SpR (P ++ (P.map (fun r => mvR r ra) ++ P.map fun r => mvR r sb)) v := by unfold clT; rw [lpl_rref (clT_len hl)]; exact rref_sp (clT_len hl) v
theorem clT_fix (h : RL n P) (e : clT n ra sb P = P) : Cl n ra P ∧ Cl n sb P := by
  refine ⟨fun x hx => ?_, fun x hx => ?_⟩
  · have := (clT_sp (ra := ra) (sb := sb) h.len (co (mvR x ra))).mpr (.of (List.mem_append.mpr (.inr (List.mem_append.mpr (.inl (List.mem_map.mpr ⟨x, hx, rfl⟩))))))
    rwa [e] at this
  · have := (clT_sp (ra := ra) (sb := sb) h.len (co (mvR x sb))).mpr (.of (List.mem_append.mpr (.inr (List.mem_append.mpr (.inr (List.mem_map.mpr ⟨x, hx, rfl⟩))))))
    rwa [e] at this
theorem cl_turn (h : RL n P) : ∀ t, RL n (it (clT n ra sb) t P) ∧ (clT n ra sb (it (clT n ra sb) t P) = it (clT n ra sb) t P ∨ t ≤ (it (clT n ra sb) t P).length) ∧ ∀ v, SpR P v → SpR (it (clT n ra sb) t P) v
  | 0 => ⟨h, .inr (Nat.zero_le _), fun _ z => z⟩
  | t + 1 => by
    have ih := cl_turn h t
    show RL n (clT n ra sb (it (clT n ra sb) t P)) ∧ (clT n ra sb (clT n ra sb (it (clT n ra sb) t P)) = clT n ra sb (it (clT n ra sb) t P) ∨ t + 1 ≤ (clT n ra sb (it (clT n ra sb) t P)).length) ∧ ∀ v, SpR P v → SpR (clT n ra sb (it (clT n ra sb) t P)) v
    generalize it (clT n ra sb) t P = T at ih ⊢
    have r1 := clT_rl (ra := ra) (sb := sb) ih.1.len
    have up : ∀ v, SpR T v → SpR (clT n ra sb T) v := fun v hv => (clT_sp ih.1.len v).mpr (hv.le fun x hx => .of (List.mem_append.mpr (.inl hx)))
    refine ⟨r1, ?_, fun v hv => up v (ih.2.2 v hv)⟩
    by_cases e : clT n ra sb T = T
    · left; rw [e, e]
    · right
      rcases ih.2.1 with c | c
      · exact absurd c e
      · have := ih.1.sub r1 fun x hx => up _ (.of hx)
        have ne : T.length ≠ (clT n ra sb T).length := fun z => e (this.2 z).symm
        omega
theorem clL_ok {rows : List (Rw F)} (hl : ∀ x, x ∈ rows → x.length = n) : RL n (clL n ra sb rows) ∧ Cl n ra (clL n ra sb rows) ∧ Cl n sb (clL n ra sb rows) ∧ ∀ v, SpR rows v → SpR (clL n ra sb rows) v := by
  have e := lpl_rref hl
  have h0 : RL n (lpl n rows) := by rw [e]; exact rref_rl hl
  have h := cl_turn (ra := ra) (sb := sb) h0 (n + 1)
  have fx : clT n ra sb (clL n ra sb rows) = clL n ra sb rows := by
    rcases h.2.1 with c | c
    · exact c
    · have := h.1.le
      omega
  have fx2 := clT_fix (ra := ra) (sb := sb) h.1 fx
  exact ⟨h.1, fx2.1, fx2.2, fun v hv => h.2.2 v (by rw [e]; exact (rref_sp hl v).mpr hv)⟩
/-- the first row leads at 0 -/
def lead0 (P : List (Rw F)) : Bool := match P with
  | [] => false
  | h :: _ => decide (co h 0 ≠ 0)
theorem RL.lead (h : RL n P) {v : Vc F} (hv : SpR P v) (h0 : v 0 ≠ 0) : lead0 P = true := by
  obtain ⟨A, hA, rfl⟩ := h
  have k : (0 : Nat) ∈ keys A := tb_ne.mp (hA.rr.piv ((sp_ls hA v).mp hv) h0 fun j hj => absurd hj (Nat.not_lt_zero j))
  have ks := sortN_mem.mpr k
  have so := sortN_sorted (keys A)
  unfold ls lead0
  cases q : sortN (keys A) with
  | nil => rw [q] at ks; cases ks
  | cons a t =>
    rw [q] at ks so
    have e : a = 0 := by
      rcases List.mem_cons.mp ks with z | z
      · exact z.symm
      · have := (List.pairwise_cons.mp so).1 0 z
        omega
    subst e
    obtain ⟨s, e1⟩ := mem_keys.mp k
    show decide (co (getA A 0) 0 ≠ 0) = true
    rw [getA_some e1, hA.rr.one 0 _ (tb_some e1)]
    exact decide_eq_true Fl.one_ne
theorem lead_row (h : lead0 P = true) : ∃ g t, P = g :: t ∧ co g 0 ≠ 0 := by
  unfold lead0 at h
  cases P with
  | nil => cases h
  | cons g t => exact ⟨g, t, rfl, by simpa using h⟩
/-- a room: plain, closed under both moves, with a row that leads at 0 -/
structure Rom (n ra sb : Nat) (P : List (Rw F)) : Prop where
  rl : RL n P
  c1 : Cl n ra P
  c2 : Cl n sb P
  l0 : 0 < n → lead0 P = true
theorem clL_rom {rows : List (Rw F)} (hl : ∀ x, x ∈ rows → x.length = n) (h0 : 0 < n → ∃ x, x ∈ rows ∧ co x 0 ≠ 0) : Rom n ra sb (clL n ra sb rows) := by
  have h := clL_ok (ra := ra) (sb := sb) hl
  exact ⟨h.1, h.2.1, h.2.2.1, fun hn => let ⟨x, hx, e⟩ := h0 hn; h.1.lead (h.2.2.2 _ (.of hx)) e⟩
end
end Rm
set_option linter.unusedSectionVars false
set_option linter.unusedVariables false
namespace Rm
section
variable {F : Type} [Fl F] {x y z r g h : Rw F} {n : Nat} {A B : Dw F} {P Q : List (Rw F)} {ra sb : Nat}
/-! ### products of rows -/
def conv (x y : Vc F) : Vc F := fun k => sm (k + 1) fun i => x i * y (k - i)
def pV (n : Nat) (x y : Vc F) : Vc F := fun k => if k < n then conv x y k else 0
theorem conv_congr {x x' y y' : Vc F} {k : Nat} (h1 : ∀ i, i ≤ k → x i = x' i) (h2 : ∀ i, i ≤ k → y i = y' i) : conv x y k = conv x' y' k :=
  sm_congr fun i hi => by rw [h1 i (by omega), h2 (k - i) (by omega)]
theorem conv_lin (x x' y : Vc F) (c : F) (k : Nat) : conv (fun i => x i + c * x' i) y k = conv x y k + c * conv x' y k := by
  unfold conv
  rw [← sm_mul, ← sm_add]
  exact sm_congr fun i _ => by grind
theorem conv_smul (x y : Vc F) (c : F) (k : Nat) : conv (fun i => c * x i) y k = c * conv x y k := by
  unfold conv
  rw [← sm_mul]
  exact sm_congr fun i _ => by grind
theorem conv_succ (x y : Vc F) (k : Nat) : conv x y (k + 1) = x 0 * y (k + 1) + conv (fun i => x (i + 1)) y k := by
  unfold conv
  rw [sm_head]
  show x 0 * y (k + 1 - 0) + _ = _
  congr 1
  exact sm_congr fun i hi => by rw [show k + 1 - (i + 1) = k - i from by omega]
theorem conv_assoc (x y z : Vc F) : ∀ k, conv (conv x y) z k = conv x (conv y z) k := by
  intro k
  induction k generalizing x y z with
  | zero =>
    show 0 + (0 + x 0 * y 0) * z 0 = 0 + x 0 * (0 + y 0 * z 0)
    grind
  | succ k ih =>
    rw [conv_succ, conv_succ x]
    have e : (fun i => conv x y (i + 1)) = fun i => conv (fun i => x (i + 1)) y i + x 0 * y (i + 1) := by
      funext i; rw [conv_succ]; grind
    rw [e, conv_lin, ih, conv_succ y z]
    show (0 + x 0 * y 0) * z (k + 1) + _ = _
    grind
theorem conv_comm (x y : Vc F) (k : Nat) : conv x y k = conv y x k := by
  unfold conv
  rw [sm_rev]
  exact sm_congr fun i hi => by rw [show k + 1 - 1 - i = k - i from by omega, show k - (k - i) = i from by omega]; grind
def e0 : Vc F := fun i => if i = 0 then 1 else 0
theorem conv_e0 (x : Vc F) (k : Nat) : conv x e0 k = x k := by
  unfold conv
  rw [sm_single (Nat.lt_succ_self k) fun i hi hne => by
    show x i * (if k - i = 0 then 1 else 0) = 0
    rw [if_neg (by omega)]; grind]
  show x k * (if k - k = 0 then 1 else 0) = x k
  rw [if_pos (by omega)]; grind
theorem pV_0 (y : Vc F) : pV n (fun _ => 0) y = fun _ => 0 := by
  funext k; unfold pV conv
  split
  · exact sm_zero fun i _ => by grind
  · rfl
theorem pV_lin (x x' y : Vc F) (c : F) : pV n (fun i => x i + c * x' i) y = fun i => pV n x y i + c * pV n x' y i := by
  funext k; unfold pV
  split
  · exact conv_lin x x' y c k
  · grind
theorem pV_assoc (x y z : Vc F) : pV n (pV n x y) z = pV n x (pV n y z) := by
  funext k
  show (if k < n then conv (pV n x y) z k else 0) = if k < n then conv x (pV n y z) k else 0
  by_cases h : k < n
  · rw [if_pos h, if_pos h]
    have a1 : conv (pV n x y) z k = conv (conv x y) z k := conv_congr (fun i hi => if_pos (by omega)) (fun _ _ => rfl)
    have a2 : conv x (pV n y z) k = conv x (conv y z) k := conv_congr (fun _ _ => rfl) (fun i hi => if_pos (by omega))
    rw [a1, a2, conv_assoc]
  · rw [if_neg h, if_neg h]
theorem pV_comm (x y : Vc F) : pV n x y = pV n y x := by
  funext k; unfold pV; rw [conv_comm]
theorem pV_e0 (hx : x.length = n) : pV n (co x) e0 = co x := by
  funext k; unfold pV
  split
  · exact conv_e0 _ k
  · exact (co_ge (by omega)).symm
theorem pV_mv (m : Nat) (x y : Vc F) : mvV n m (pV n x y) = pV n (mvV n m x) y := by
  funext k
  unfold mvV
  show _ = if k < n then conv _ y k else 0
  by_cases h1 : k < m
  · rw [if_pos h1]
    split
    · refine (sm_zero fun i hi => ?_).symm
      show (if i < m then 0 else _) * _ = 0
      rw [if_pos (by omega)]; grind
    · rfl
  · rw [if_neg h1]
    by_cases h2 : k < n
    · rw [if_pos h2, if_pos h2]
      show (if k - m < n then conv x y (k - m) else 0) = _
      rw [if_pos (by omega)]
      obtain ⟨d, rfl⟩ := Nat.exists_eq_add_of_le (show m ≤ k by omega)
      rw [show m + d - m = d from by omega]
      show sm (d + 1) (fun i => x i * y (d - i)) = sm (m + (d + 1)) (fun i => (if i < m then 0 else if i < n then x (i - m) else 0) * y (m + d - i))
      rw [sm_split _ m (d + 1)]
      have z : sm m (fun i => (if i < m then 0 else if i < n then x (i - m) else 0) * y (m + d - i)) = 0 := sm_zero fun i hi => by rw [if_pos hi]; grind
      rw [z]
      have e : sm (d + 1) (fun i => x i * y (d - i)) = sm (d + 1) (fun i => (if m + i < m then 0 else if m + i < n then x (m + i - m) else 0) * y (m + d - (m + i))) :=
        sm_congr fun i hi => by rw [if_neg (by omega), if_pos (by omega), show m + i - m = i from by omega, show m + d - (m + i) = d - i from by omega]
      rw [← e]; grind
    · rw [if_neg h2, if_neg h2]
theorem pV_at {x y : Vc F} {o : Nat} (ho : o < n) (lo : ∀ j, j < o → x j = 0) : pV n x y o = x o * y 0 := by
  unfold pV
  rw [if_pos ho]
  unfold conv
  rw [sm_single (Nat.lt_succ_self o) fun i hi hne => by rw [lo i (by omega)]; grind, Nat.sub_self]
theorem pV_lo {x y : Vc F} {o : Nat} (lo : ∀ j, j < o → x j = 0) : ∀ j, j < o → pV n x y j = 0 := fun j hj => by
  unfold pV
  split
  · exact sm_zero fun i hi => by rw [lo i (by omega)]; grind
  · rfl
theorem pV_sup (x y : Vc F) : ∀ j, n ≤ j → pV n x y j = 0 := fun j hj => if_neg (by omega)
/-! ### by lists, as the program and as the law tell it -/
def prodS (one other : Rw F) (found : Rw F) (i : Nat) : Rw F := if co one i ≠ 0 then addT found (mvR other i) (co one i) else found
def prodP (one other : Rw F) : Rw F := (List.range one.length).foldl (prodS one other) (zr one.length)
theorem prodP_go (hx : x.length = n) (hy : y.length = n) : ∀ m, m ≤ n → ((List.range m).foldl (prodS x y) (zr n)).length = n ∧ ∀ k, k < n → co ((List.range m).foldl (prodS x y) (zr n)) k = sm m fun i => if i ≤ k then co x i * co y (k - i) else 0
  | 0, _ => ⟨by show (zr n).length = n; unfold zr; simp, fun k _ => by show co (zr n) k = 0; rw [co_zr]⟩
  | m + 1, hm => by
    have ih := prodP_go hx hy m (Nat.le_of_succ_le hm)
    rw [List.range_succ, List.foldl_append]
    generalize (List.range m).foldl (prodS x y) (zr n) = f at ih ⊢
    show (prodS x y f m).length = n ∧ ∀ k, k < n → co (prodS x y f m) k = sm m _ + (if m ≤ k then co x m * co y (k - m) else 0)
    unfold prodS
    by_cases q : co x m = 0
    · rw [if_neg (by simpa using q)]
      exact ⟨ih.1, fun k hk => by rw [ih.2 k hk, q]; split <;> grind⟩
    · rw [if_pos q]
      have ml : (mvR y m).length = n := by rw [len_mvR]; exact hy
      refine ⟨len_addT ih.1 ml _, fun k hk => ?_⟩
      rw [co_addT (by rw [ih.1, ml])]
      show co f k + co x m * co (mvR y m) k = _
      rw [ih.2 k hk, co_mvR]
      unfold mvV
      rw [hy]
      by_cases c : k < m
      · rw [if_pos c, if_neg (by omega)]; grind
      · rw [if_neg c, if_pos hk, if_pos (by omega)]
theorem prodP_ok (hx : x.length = n) (hy : y.length = n) : (prodP x y).length = n ∧ co (prodP x y) = pV n (co x) (co y) := by
  have h := prodP_go hx hy n (Nat.le_refl n)
  unfold prodP
  rw [hx]
  refine ⟨h.1, ?_⟩
  funext k
  unfold pV
  by_cases c : k < n
  · rw [if_pos c, h.2 k c]
    unfold conv
    rw [sm_more (m := k + 1) (n := n) (by omega) fun i h1 h2 => if_neg (by omega)]
    exact sm_congr fun i hi => if_pos (by omega)
  · rw [if_neg c]
    exact co_ge (by rw [h.1]; omega)
theorem fold_sm (f : Nat → F) : ∀ (m : Nat) (a : F), (List.range m).foldl (fun t i => t + f i) a = a + sm m f
  | 0, a => by show a = a + 0; grind
  | m + 1, a => by
    rw [List.range_succ, List.foldl_append, fold_sm f m a]
    show a + sm m f + f m = a + (sm m f + f m)
    grind
def prodL (one other : Rw F) : Rw F := (List.range one.length).map fun k => (List.range (k + 1)).foldl (fun t i => t + co one i * co other (k - i)) 0
theorem prodL_eq (hx : x.length = n) (hy : y.length = n) : prodL x y = prodP x y := by
  have h := prodP_ok hx hy
  have l : (prodL x y).length = n := by unfold prodL; simp [hx]
  refine row_ext l h.1 fun k hk => ?_
  rw [h.2]
  unfold pV
  rw [if_pos hk]
  have e : co (prodL x y) k = (List.range (k + 1)).foldl (fun t i => t + co x i * co y (k - i)) 0 := by
    unfold co prodL
    rw [List.getD_eq_getElem?_getD, List.getElem?_map, List.getElem?_range (by omega)]
    rfl
  rw [e, fold_sm (fun i => co x i * co y (k - i))]
  unfold conv
  grind
/-! ### the inverse -/
def invT (row found : Rw F) (k : Nat) : F := (List.range k).foldl (fun t i => t + -(co found i * co row (k - i))) (if k = 0 then 1 else 0)
def invL (row : Rw F) : Rw F := (List.range row.length).foldl (fun found k => found ++ [Fl.inv (co row 0) * invT row found k]) []
theorem invL_go (row : Rw F) : ∀ m, ((List.range m).foldl (fun found k => found ++ [Fl.inv (co row 0) * invT row found k]) ([] : Rw F)).length = m ∧
    ∀ k, k < m → co ((List.range m).foldl (fun found k => found ++ [Fl.inv (co row 0) * invT row found k]) []) k = Fl.inv (co row 0) * ((if k = 0 then 1 else 0) + -(sm k fun i => co ((List.range m).foldl (fun found k => found ++ [Fl.inv (co row 0) * invT row found k]) []) i * co row (k - i)))
  | 0 => ⟨rfl, fun _ h => absurd h (Nat.not_lt_zero _)⟩
  | m + 1 => by
    have ih := invL_go row m
    rw [List.range_succ, List.foldl_append]
    generalize (List.range m).foldl (fun found k => found ++ [Fl.inv (co row 0) * invT row found k]) ([] : Rw F) = f at ih ⊢
    show (f ++ [Fl.inv (co row 0) * invT row f m]).length = m + 1 ∧ ∀ k, k < m + 1 → co (f ++ [Fl.inv (co row 0) * invT row f m]) k = _
    have low : ∀ i, i < m → co (f ++ [Fl.inv (co row 0) * invT row f m]) i = co f i := fun i hi => by
      unfold co; rw [List.getD_eq_getElem?_getD, List.getElem?_append, if_pos (by omega), List.getD_eq_getElem?_getD]
    refine ⟨by simp [ih.1], fun k hk => ?_⟩
    show _ = _ * (_ + -(sm k fun i => co (f ++ [Fl.inv (co row 0) * invT row f m]) i * _))
    rw [sm_congr fun i hi => by rw [low i (by omega)]]
    by_cases c : k = m
    · subst c
      have e : co (f ++ [Fl.inv (co row 0) * invT row f k]) k = Fl.inv (co row 0) * invT row f k := by
        unfold co; rw [List.getD_eq_getElem?_getD, List.getElem?_append, if_neg (by omega), ih.1, Nat.sub_self]; rfl
      rw [e]
      unfold invT
      rw [fold_sm (fun i => -(co f i * co row (k - i)))]
      congr 2
      have := sm_mul (-1) (fun i => co f i * co row (k - i)) k
      rw [show (fun i => -(co f i * co row (k - i))) = fun i => (-1) * (co f i * co row (k - i)) from by funext i; grind, this]
      grind
    · rw [low k (by omega), ih.2 k (by omega)]
theorem invL_ok (hx : x.length = n) (h0 : 0 < n → co x 0 ≠ 0) : (invL x).length = n ∧ pV n (co x) (co (invL x)) = pV n e0 e0 ∧ (0 < n → co (invL x) 0 ≠ 0) := by
  have h := invL_go x n
  unfold invL
  rw [hx]
  generalize (List.range n).foldl (fun found k => found ++ [Fl.inv (co x 0) * invT x found k]) ([] : Rw F) = f at h ⊢
  refine ⟨h.1, ?_, fun hn => ?_⟩
  · rw [pV_comm]
    funext k
    unfold pV
    by_cases c : k < n
    · rw [if_pos c, if_pos c, conv_e0]
      have hinv := Fl.mul_inv _ (h0 (by omega))
      unfold conv
      show sm k _ + co f k * co x (k - k) = if k = 0 then 1 else 0
      rw [h.2 k c, Nat.sub_self]
      generalize sm k (fun i => co f i * co x (k - i)) = S at *
      generalize (if k = 0 then (1 : F) else 0) = d at *
      grind
    · rw [if_neg c, if_neg c]
  · rw [h.2 0 hn]
    have hinv := inv_ne (h0 hn)
    show Fl.inv (co x 0) * ((if (0:Nat) = 0 then 1 else 0) + -0) ≠ 0
    rw [if_pos rfl]
    intro q
    apply hinv
    grind
/-! ### a room by a row -/
def byR (P : List (Rw F)) (g : Rw F) : List (Rw F) := rref (P.map fun x => prodP x g)
theorem by_len (hP : ∀ x, x ∈ P → x.length = n) (hg : g.length = n) : ∀ x, x ∈ P.map (fun x => prodP x g) → x.length = n := fun x hx => by
  obtain ⟨s, hs, e⟩ := List.mem_map.mp hx
  rw [← e]; exact (prodP_ok (hP s hs) hg).1
theorem by_in (hP : ∀ x, x ∈ P → x.length = n) (hg : g.length = n) {v : Vc F} (hv : SpR P v) : SpR (P.map fun x => prodP x g) (pV n v (co g)) :=
  Sp.map (f := fun v => pV n v (co g)) (pV_0 _) (fun x y c => pV_lin x y _ c) hv fun w ⟨x, hx, e⟩ => by
    rw [e, ← (prodP_ok (hP x hx) hg).2]
    exact SpR.of (List.mem_map.mpr ⟨x, hx, rfl⟩)
theorem by_out (hP : ∀ x, x ∈ P → x.length = n) (hg : g.length = n) {v : Vc F} (hv : SpR (P.map fun x => prodP x g) v) : ∃ u, SpR P u ∧ v = pV n u (co g) := by
  refine Sp.all (p := fun v => ∃ u, SpR P u ∧ v = pV n u (co g)) ⟨_, .z, (pV_0 _).symm⟩ ?_ ?_ hv
  · rintro x y c ⟨u, hu, rfl⟩ ⟨w, hw, rfl⟩
    exact ⟨_, Sp.comb hu c hw, (pV_lin u w _ c).symm⟩
  · rintro r ⟨x, hx, e⟩
    obtain ⟨s, hs, e2⟩ := List.mem_map.mp hx
    exact ⟨co s, .of hs, by rw [e, ← e2, (prodP_ok (hP s hs) hg).2]⟩
theorem by_rl (hP : ∀ x, x ∈ P → x.length = n) (hg : g.length = n) : RL n (byR P g) := rref_rl (by_len hP hg)
theorem by_sp (hP : ∀ x, x ∈ P → x.length = n) (hg : g.length = n) (v : Vc F) : SpR (byR P g) v ↔ ∃ u, SpR P u ∧ v = pV n u (co g) :=
  (rref_sp (by_len hP hg) v).trans ⟨by_out hP hg, fun ⟨u, hu, e⟩ => e ▸ by_in hP hg hu⟩
theorem by_rom (h : Rom n ra sb P) (hg : g.length = n) (g0 : 0 < n → co g 0 ≠ 0) : Rom n ra sb (byR P g) := by
  have hl := h.rl.len
  have rl := by_rl hl hg
  have cl : ∀ m, Cl n m P → Cl n m (byR P g) := fun m c x hx => by
    obtain ⟨u, hu, e⟩ := (by_sp hl hg (co x)).mp (.of hx)
    rw [co_mvR, rl.len x hx, e, pV_mv]
    exact (by_sp hl hg _).mpr ⟨_, c.v hl hu, rfl⟩
  refine ⟨rl, cl _ h.c1, cl _ h.c2, fun hn => ?_⟩
  obtain ⟨a, t, e, a0⟩ := lead_row (h.l0 hn)
  refine rl.lead ((by_sp hl hg _).mpr ⟨co a, .of (by rw [e]; exact List.mem_cons_self), rfl⟩) ?_
  rw [pV_at hn fun j hj => absurd hj (Nat.not_lt_zero j)]
  exact mul_ne a0 (g0 hn)
theorem by_by (hP : ∀ x, x ∈ P → x.length = n) (hg : g.length = n) (hh : h.length = n) : byR (byR P g) h = byR P (prodP g h) := by
  have gh := prodP_ok hg hh
  have r1 := by_rl hP hg
  refine (by_rl r1.len hh).uniq (by_rl hP gh.1) (fun x hx => ?_) fun x hx => ?_
  · obtain ⟨u, hu, e⟩ := (by_sp r1.len hh _).mp (.of hx)
    obtain ⟨w, hw, e2⟩ := (by_sp hP hg _).mp hu
    exact (by_sp hP gh.1 _).mpr ⟨w, hw, by rw [e, e2, gh.2, pV_assoc]⟩
  · obtain ⟨w, hw, e⟩ := (by_sp hP gh.1 _).mp (.of hx)
    exact (by_sp r1.len hh _).mpr ⟨_, (by_sp hP hg _).mpr ⟨w, hw, rfl⟩, by rw [e, gh.2, pV_assoc]⟩
theorem by_one (hP : RL n P) (hg : g.length = n) (e : pV n (co g) = pV n e0) : byR P g = P := by
  have one : ∀ x, x.length = n → pV n (co x) (co g) = co x := fun x hx => by rw [pV_comm, e, pV_comm, pV_e0 hx]
  refine (by_rl hP.len hg).uniq hP (fun x hx => ?_) fun x hx => ?_
  · obtain ⟨u, hu, e2⟩ := (by_sp hP.len hg _).mp (.of hx)
    have : u = pV n u (co g) := Sp.all (p := fun u => u = pV n u (co g)) (pV_0 _).symm (fun x y c ex ey => by rw [pV_lin]; funext i; rw [← congrFun ex i, ← congrFun ey i]) (fun r ⟨x, hx, e⟩ => by rw [e, one x (hP.len x hx)]) hu
    rw [e2, ← this]; exact hu
  · exact (by_sp hP.len hg _).mpr ⟨co x, .of hx, (one x (hP.len x hx)).symm⟩
theorem by_inv (hP : RL n P) (hg : g.length = n) (g0 : 0 < n → co g 0 ≠ 0) : byR (byR P g) (invL g) = P := by
  have h := invL_ok hg g0
  rw [by_by hP.len hg h.1]
  have gh := prodP_ok hg h.1
  refine by_one hP gh.1 ?_
  funext v
  rw [gh.2, h.2.1, pV_assoc]
  funext k
  show (if k < n then conv e0 (pV n e0 v) k else 0) = if k < n then conv e0 v k else 0
  by_cases c : k < n
  · rw [if_pos c, if_pos c, conv_comm, conv_e0, conv_comm, conv_e0]
    show (if k < n then conv e0 v k else 0) = _
    rw [if_pos c, conv_comm, conv_e0]
  · rw [if_neg c, if_neg c]
def addR (P Q : List (Rw F)) : List (Rw F) := rref (P ++ Q)
theorem app_len2 (hP : ∀ x, x ∈ P → x.length = n) (hQ : ∀ x, x ∈ Q → x.length = n) : ∀ x, x ∈ P ++ Q → x.length = n := fun x hx => (List.mem_append.mp hx).elim (hP x) (hQ x)
theorem add_rom (h : Rom n ra sb P) (h' : Rom n ra sb Q) : Rom n ra sb (addR P Q) := by
  have al := app_len2 h.rl.len h'.rl.len
  have rl : RL n (addR P Q) := rref_rl al
  have inP : ∀ v, SpR P v → SpR (addR P Q) v := fun v hv => (rref_sp al v).mpr (hv.le fun x hx => .of (List.mem_append.mpr (.inl hx)))
  have inQ : ∀ v, SpR Q v → SpR (addR P Q) v := fun v hv => (rref_sp al v).mpr (hv.le fun x hx => .of (List.mem_append.mpr (.inr hx)))
  have cl : ∀ m, Cl n m P → Cl n m Q → Cl n m (addR P Q) := fun m c c' x hx => by
    rw [co_mvR, rl.len x hx]
    refine Sp.map (mvV_0 n m) (mvV_lin n m) ((rref_sp al _).mp (.of hx)) fun w ⟨s, hs, e⟩ => ?_
    rcases List.mem_append.mp hs with q | q
    · rw [e]; exact inP _ (c.v h.rl.len (.of q))
    · rw [e]; exact inQ _ (c'.v h'.rl.len (.of q))
  refine ⟨rl, cl _ h.c1 h'.c1, cl _ h.c2 h'.c2, fun hn => ?_⟩
  obtain ⟨a, t, e, a0⟩ := lead_row (h.l0 hn)
  exact rl.lead (inP _ (.of (by rw [e]; exact List.mem_cons_self))) a0
theorem by_add (hP : ∀ x, x ∈ P → x.length = n) (hQ : ∀ x, x ∈ Q → x.length = n) (hg : g.length = n) : byR (addR P Q) g = addR (byR P g) (byR Q g) := by
  have al := app_len2 hP hQ
  have rl : RL n (addR P Q) := rref_rl al
  have r1 := by_rl hP hg
  have r2 := by_rl hQ hg
  have al2 := app_len2 r1.len r2.len
  refine (by_rl rl.len hg).uniq (rref_rl al2) (fun x hx => ?_) fun x hx => ?_
  · obtain ⟨u, hu, e⟩ := (by_sp rl.len hg _).mp (.of hx)
    rw [e]
    refine Sp.map (f := fun v => pV n v (co g)) (pV_0 _) (fun x y c => pV_lin x y _ c) ((rref_sp al _).mp hu) fun w ⟨s, hs, e⟩ => ?_
    refine (rref_sp al2 _).mpr ?_
    rw [e]
    rcases List.mem_append.mp hs with q | q
    · exact SpR.le ((by_sp hP hg _).mpr ⟨co s, .of q, rfl⟩) fun x hx => .of (List.mem_append.mpr (.inl hx))
    · exact SpR.le ((by_sp hQ hg _).mpr ⟨co s, .of q, rfl⟩) fun x hx => .of (List.mem_append.mpr (.inr hx))
  · refine SpR.le ((rref_sp al2 _).mp (.of hx)) fun s hs => ?_
    rcases List.mem_append.mp hs with q | q
    · obtain ⟨u, hu, e⟩ := (by_sp hP hg _).mp (.of q)
      exact (by_sp rl.len hg _).mpr ⟨u, (rref_sp al _).mpr (hu.le fun x hx => .of (List.mem_append.mpr (.inl hx))), e⟩
    · obtain ⟨u, hu, e⟩ := (by_sp hQ hg _).mp (.of q)
      exact (by_sp rl.len hg _).mpr ⟨u, (rref_sp al _).mpr (hu.le fun x hx => .of (List.mem_append.mpr (.inr hx))), e⟩
end
end Rm
set_option linter.unusedSectionVars false
set_option linter.unusedVariables false
namespace Rm
section
variable {F : Type} [Fl F] {x y z r g h : Rw F} {n : Nat} {A B : Dw F} {P Q : List (Rw F)} {ra sb : Nat}
/-! ### orders -/
def ordL (r : Rw F) : Nat := (ord r).getD r.length
def ords (P : List (Rw F)) : List Nat := P.map ordL
theorem ords_ls (h : OkD n A) : ords (ls A) = sortN (keys A) := by
  unfold ords ls
  rw [List.map_map]
  conv => rhs; rw [← List.map_id (sortN (keys A))]
  refine List.map_congr_left fun o ho => ?_
  obtain ⟨r, e⟩ := mem_keys.mp (sortN_mem.mp ho)
  show ordL (getA A o) = o
  rw [getA_some e]
  unfold ordL
  rw [ord_of (o := o) (by rw [h.rr.one o _ (tb_some e)]; exact Fl.one_ne) (h.rr.low o _ (tb_some e))]
  rfl
theorem mem_ords (hP : RL n P) {o : Nat} : o ∈ ords P ↔ ∃ v, SpR P v ∧ v o ≠ 0 ∧ ∀ j, j < o → v j = 0 := by
  obtain ⟨A, hA, rfl⟩ := hP
  rw [ords_ls hA, sortN_mem]
  refine ⟨fun k => ?_, fun ⟨v, hv, h1, h2⟩ => tb_ne.mp (hA.rr.piv ((sp_ls hA v).mp hv) h1 h2)⟩
  obtain ⟨r, e⟩ := mem_keys.mp k
  exact ⟨co r, (sp_ls hA _).mpr (.of ⟨o, tb_some e⟩), by rw [hA.rr.one o _ (tb_some e)]; exact Fl.one_ne, hA.rr.low o _ (tb_some e)⟩
theorem ords_lt (hP : RL n P) {o : Nat} (h : o ∈ ords P) : o < n := by
  obtain ⟨A, hA, rfl⟩ := hP
  rw [ords_ls hA, sortN_mem] at h
  exact hA.klt h
theorem ords_ext (hP : RL n P) (hQ : RL n Q) (h : ∀ o, o ∈ ords P ↔ o ∈ ords Q) : ords P = ords Q := by
  obtain ⟨A, hA, rfl⟩ := hP
  obtain ⟨B, hB, rfl⟩ := hQ
  rw [ords_ls hA, ords_ls hB] at h ⊢
  exact sortN_eq hA.nd hB.nd fun a => by have := h a; rwa [sortN_mem, sortN_mem] at this
theorem first_of {v : Vc F} : ∀ {m : Nat}, v m ≠ 0 → ∃ p, v p ≠ 0 ∧ ∀ j, j < p → v j = 0 := fun {m} h => by
  induction m using Nat.strongRecOn with
  | ind m ih =>
    by_cases q : ∀ j, j < m → v j = 0
    · exact ⟨m, h, q⟩
    · rw [Classical.not_forall] at q
      obtain ⟨j, hj⟩ := q
      rw [Classical.not_imp] at hj
      exact ih j hj.1 hj.2
theorem by_ords (hP : RL n P) (hg : g.length = n) (g0 : 0 < n → co g 0 ≠ 0) : ords (byR P g) = ords P := by
  have rl := by_rl hP.len hg
  refine ords_ext rl hP fun o => ⟨fun k => ?_, fun k => ?_⟩
  · have hn := ords_lt rl k
    obtain ⟨v, hv, v1, v2⟩ := (mem_ords rl).mp k
    obtain ⟨u, hu, e⟩ := (by_sp hP.len hg v).mp hv
    have nz : ∃ m, u m ≠ 0 := Classical.byContradiction fun q => v1 (by
      have : u = fun _ => 0 := funext fun i => Classical.byContradiction fun c => q ⟨i, c⟩
      rw [e, this, pV_0])
    obtain ⟨m, hm⟩ := nz
    obtain ⟨p, p1, p2⟩ := first_of hm
    have pl : p < n := ords_lt hP ((mem_ords hP).mpr ⟨u, hu, p1, p2⟩)
    have : p = o := by
      have ep := pV_at (y := co g) pl p2
      have lp := pV_lo (n := n) (y := co g) p2
      rw [← e] at ep lp
      rcases Nat.lt_trichotomy p o with c | c | c
      · rw [v2 p c] at ep
        exact absurd ep.symm (mul_ne p1 (g0 (by omega)))
      · exact c
      · exact absurd (lp o c) v1
    exact (mem_ords hP).mpr ⟨u, hu, this ▸ p1, this ▸ p2⟩
  · have hn := ords_lt hP k
    obtain ⟨v, hv, v1, v2⟩ := (mem_ords hP).mp k
    refine (mem_ords rl).mpr ⟨_, (by_sp hP.len hg _).mpr ⟨v, hv, rfl⟩, ?_, pV_lo v2⟩
    rw [pV_at hn v2]
    exact mul_ne v1 (g0 (by omega))
theorem ords_len : (ords P).length = P.length := List.length_map _
theorem by_length (hP : RL n P) (hg : g.length = n) (g0 : 0 < n → co g 0 ≠ 0) : (byR P g).length = P.length := by
  rw [← ords_len, ← ords_len (P := P), by_ords hP hg g0]
/-! ### gaps -/
def gapsR (n : Nat) (P : List (Rw F)) : List Nat := (List.range n).filter fun a => decide (a ∉ ords P)
theorem ords_mv {m : Nat} (hP : RL n P) (c : Cl n m P) {o : Nat} (ho : o ∈ ords P) (hm : o + m < n) : o + m ∈ ords P := by
  obtain ⟨v, hv, v1, v2⟩ := (mem_ords hP).mp ho
  refine (mem_ords hP).mpr ⟨_, c.v hP.len hv, ?_, fun j hj => ?_⟩
  · unfold mvV
    rw [if_neg (by omega), if_pos hm, Nat.add_sub_cancel]; exact v1
  · unfold mvV
    by_cases q : j < m
    · rw [if_pos q]
    · rw [if_neg q, if_pos (by omega)]; exact v2 _ (by omega)
theorem lead_ords (hP : RL n P) (h : lead0 P = true) : 0 ∈ ords P := by
  obtain ⟨g, t, e, g0⟩ := lead_row h
  exact (mem_ords hP).mpr ⟨co g, .of (by rw [e]; exact List.mem_cons_self), g0, fun j hj => absurd hj (Nat.not_lt_zero j)⟩
theorem gaps_ok (h : Rom n ra sb P) {m : Nat} (c : Cl n m P) {a : Nat} (ha : a ∈ gapsR n P) : 1 ≤ a ∧ a ≠ m ∧ (a < m ∨ a - m ∈ gapsR n P) := by
  obtain ⟨h1, h2⟩ := List.mem_filter.mp ha
  rw [List.mem_range] at h1
  have h3 : a ∉ ords P := by simpa using h2
  have z := lead_ords h.rl (h.l0 (by omega))
  refine ⟨?_, ?_, ?_⟩
  · rcases Nat.eq_zero_or_pos a with q | q
    · exact absurd (q ▸ z) h3
    · exact q
  · intro q
    have := ords_mv h.rl c z (by omega)
    rw [Nat.zero_add, ← q] at this
    exact h3 this
  · by_cases q : a < m
    · exact .inl q
    · right
      refine List.mem_filter.mpr ⟨List.mem_range.mpr (by omega), ?_⟩
      have : a - m ∉ ords P := fun k => h3 (by
        have := ords_mv h.rl c k (by omega)
        rwa [show a - m + m = a from by omega] at this)
      simpa using this
/-! ### what is across -/
def dot (n : Nat) (x y : Vc F) : F := sm n fun i => x i * y i
theorem dot_lin1 (x x' y : Vc F) (c : F) : dot n (fun i => x i + c * x' i) y = dot n x y + c * dot n x' y := by
  unfold dot; rw [← sm_mul, ← sm_add]; exact sm_congr fun i _ => by grind
theorem dot_lin2 (x y y' : Vc F) (c : F) : dot n x (fun i => y i + c * y' i) = dot n x y + c * dot n x y' := by
  unfold dot; rw [← sm_mul, ← sm_add]; exact sm_congr fun i _ => by grind
theorem dot_01 (y : Vc F) : dot n (fun _ => 0) y = 0 := sm_zero fun i _ => by grind
theorem dot_02 (y : Vc F) : dot n y (fun _ => 0) = 0 := sm_zero fun i _ => by grind
def crossv (n : Nat) (A : Dw F) (free : Nat) : Rw F := (List.range n).map fun i => if i = free then 1 else if i ∈ keys A then -(co (getA A i) free) else 0
def crs (n : Nat) (A : Dw F) : List (Rw F) := ((List.range n).filter fun f => decide (f ∉ keys A)).map (crossv n A)
def acr (n : Nat) (rows : List (Rw F)) : List (Rw F) := rref (crs n (pbo rows))
theorem len_crossv (f : Nat) : (crossv n A f).length = n := by unfold crossv; simp
theorem co_crossv (f : Nat) {i : Nat} (hi : i < n) : co (crossv n A f) i = if i = f then 1 else if i ∈ keys A then -(co (getA A i) f) else 0 := by
  unfold co crossv
  rw [List.getD_eq_getElem?_getD, List.getElem?_map, List.getElem?_range hi]
  rfl
theorem crs_len : ∀ x, x ∈ crs n A → x.length = n := fun x hx => by
  obtain ⟨f, _, e⟩ := List.mem_map.mp hx
  rw [← e, len_crossv]
theorem mem_crs : x ∈ crs n A ↔ ∃ f, f < n ∧ f ∉ keys A ∧ x = crossv n A f := by
  unfold crs
  rw [List.mem_map]
  refine ⟨fun ⟨f, hf, e⟩ => ?_, fun ⟨f, h1, h2, e⟩ => ⟨f, ?_, e.symm⟩⟩
  · rw [List.mem_filter, List.mem_range] at hf
    exact ⟨f, hf.1, by simpa using hf.2, e.symm⟩
  · rw [List.mem_filter, List.mem_range]
    exact ⟨h1, by simpa using h2⟩
theorem dot_cross (h : OkD n A) {f : Nat} (hf : f < n) (nf : f ∉ keys A) (v : Vc F) : dot n (co (crossv n A f)) v = v f + -(sm n fun o => v o * ro (tb A) o f) := by
  have e : ∀ i, i < n → co (crossv n A f) i * v i = (if i = f then v f else 0) + (-1) * (v i * ro (tb A) i f) := fun i hi => by
    rw [co_crossv f hi]
    by_cases c : i = f
    · subst c
      have : tb A i = none := Classical.byContradiction fun q => nf (tb_ne.mp q)
      rw [if_pos rfl, if_pos rfl, ro_none this]; grind
    · rw [if_neg c, if_neg c]
      by_cases k : i ∈ keys A
      · rw [if_pos k, h.ro k]; grind
      · have : tb A i = none := Classical.byContradiction fun q => k (tb_ne.mp q)
        rw [if_neg k, ro_none this]; grind
  unfold dot
  rw [sm_congr e, sm_add, sm_mul, sm_single (j := f) hf fun i hi hne => if_neg hne, if_pos rfl]
  grind
theorem sp_cross (h : OkD n A) {v : Vc F} (sv : ∀ j, n ≤ j → v j = 0) : Sp (InT (tb A)) v ↔ ∀ x, x ∈ crs n A → dot n (co x) v = 0 := by
  refine ⟨fun s x hx => ?_, fun k => ?_⟩
  · obtain ⟨f, f1, f2, e⟩ := mem_crs.mp hx
    rw [e, dot_cross h f1 f2]
    have := congrFun (h.rr.lin s) f
    rw [← this]; grind
  · have e : v = fun i => sm n fun o => v o * ro (tb A) o i := by
      funext i
      by_cases c : i < n
      · by_cases q : i ∈ keys A
        · rw [sm_single (j := i) c fun j hj hne => ?_]
          · obtain ⟨r, er⟩ := mem_keys.mp q
            rw [ro_some (tb_some er), h.rr.one i _ (tb_some er)]; grind
          · cases q2 : tb A j with
            | none => rw [ro_none q2]; grind
            | some r => rw [ro_some q2, h.rr.off j r q2 i (tb_ne.mpr q) (fun z => hne z.symm)]; grind
        · have := k _ (mem_crs.mpr ⟨i, c, q, rfl⟩)
          rw [dot_cross h c q] at this
          grind
      · rw [sv i (by omega)]
        refine (sm_zero fun o ho => ?_).symm
        cases q2 : tb A o with
        | none => rw [ro_none q2]; grind
        | some r => rw [ro_some q2, h.rr.sup o r q2 i (by omega)]; grind
    rw [e]
    exact sm_sp fun o ho _ => by
      cases q2 : tb A o with
      | none => rw [ro_none q2]; exact .z
      | some r => rw [ro_some q2]; exact .of ⟨o, q2⟩
theorem sp_crs (h : OkD n A) {v : Vc F} (sv : ∀ j, n ≤ j → v j = 0) : SpR (crs n A) v ↔ ∀ r, InT (tb A) r → dot n r v = 0 := by
  refine ⟨fun s r ⟨o, ho⟩ => ?_, fun k => ?_⟩
  · refine Sp.all (p := fun v => dot n r v = 0) (dot_02 r) (fun x y c ex ey => by rw [dot_lin2, ex, ey]; grind) ?_ s
    rintro w ⟨x, hx, e⟩
    obtain ⟨f, f1, f2, e2⟩ := mem_crs.mp hx
    have : Sp (InT (tb A)) r := .of ⟨o, ho⟩
    have := (sp_cross h (h.rr.sup o r ho)).mp this x hx
    have c : dot n r w = dot n w r := sm_congr fun i _ => by grind
    rw [c, e]; exact this
  · have e : v = fun i => sm n fun f => (if f ∈ keys A then 0 else v f) * co (crossv n A f) i := by
      funext i
      by_cases c : i < n
      · by_cases q : i ∈ keys A
        · obtain ⟨r, er⟩ := mem_keys.mp q
          have hr := k _ ⟨i, tb_some er⟩
          unfold dot at hr
          have e1 : ∀ f, f < n → co r f * v f = (if f = i then v i else 0) + (-1) * ((if f ∈ keys A then 0 else v f) * co (crossv n A f) i) := fun f hf => by
            rw [co_crossv f c]
            by_cases c1 : f = i
            · subst c1
              rw [if_pos rfl, if_pos rfl, if_pos q, h.rr.one f _ (tb_some er)]; grind
            · have e2 : (if i = f then (1:F) else if i ∈ keys A then -(co (getA A i) f) else 0) = -(co r f) := by rw [if_neg (fun q => c1 q.symm), if_pos q, getA_some er]
              rw [if_neg c1, e2]
              by_cases c2 : f ∈ keys A
              · rw [if_pos c2, h.rr.off i _ (tb_some er) f (tb_ne.mpr c2) c1]; grind
              · rw [if_neg c2]; grind
          rw [sm_congr e1, sm_add, sm_mul, sm_single (j := i) c fun j hj hne => if_neg hne, if_pos rfl] at hr
          grind
        · rw [sm_single (j := i) c fun j hj hne => ?_]
          · rw [co_crossv i c, if_neg q, if_pos rfl]; grind
          · have e2 : (if i = j then (1:F) else if i ∈ keys A then -(co (getA A i) j) else 0) = 0 := by rw [if_neg (fun q => hne q.symm), if_neg q]
            rw [co_crossv j c, e2]; grind
      · rw [sv i (by omega)]
        exact (sm_zero fun f hf => by rw [co_ge (r := crossv n A f) (by rw [len_crossv]; omega)]; grind).symm
    rw [e]
    exact sm_sp fun f hf hne => by
      by_cases c : f ∈ keys A
      · rw [if_pos c] at hne; exact absurd rfl hne
      · exact SpR.of (mem_crs.mpr ⟨f, hf, c, rfl⟩)
variable {rows : List (Rw F)}
theorem dot_sp {v : Vc F} {R : Vc F → Prop} (k : ∀ r, R r → dot n r v = 0) {u : Vc F} (hu : Sp R u) : dot n u v = 0 :=
  Sp.all (p := fun u => dot n u v = 0) (dot_01 v) (fun x y c ex ey => by rw [dot_lin1, ex, ey]; grind) k hu
theorem acr_rl : RL n (acr n rows) := rref_rl crs_len
theorem acr_sp (hl : ∀ x, x ∈ rows → x.length = n) {v : Vc F} (sv : ∀ j, n ≤ j → v j = 0) : SpR (acr n rows) v ↔ ∀ r, r ∈ rows → dot n (co r) v = 0 := by
  have pb := pbo_ok hl
  refine (rref_sp crs_len v).trans ((sp_crs pb.1 sv).trans ⟨fun k r hr => ?_, fun k r hr => ?_⟩)
  · exact dot_sp k ((pb.2 _).mpr (.of hr))
  · exact dot_sp (fun w ⟨x, hx, e⟩ => e ▸ k x hx) ((pb.2 r).mp (.of hr))
theorem sp_acr (hl : ∀ x, x ∈ rows → x.length = n) {v : Vc F} (sv : ∀ j, n ≤ j → v j = 0) : SpR rows v ↔ ∀ b, b ∈ acr n rows → dot n (co b) v = 0 := by
  have pb := pbo_ok hl
  refine (pb.2 v).symm.trans ((sp_cross pb.1 sv).trans ⟨fun k b hb => ?_, fun k x hx => ?_⟩)
  · exact dot_sp (fun w ⟨x, hx, e⟩ => e ▸ k x hx) ((rref_sp crs_len _).mp (SpR.of hb))
  · exact dot_sp (R := InR (acr n rows)) (fun w ⟨b, hb, e⟩ => e ▸ k b hb) ((rref_sp crs_len _).mpr (SpR.of hx))
/-! ### conditions -/
def dotL (a b : Rw F) : F := (List.zip a b).foldl (fun t p => t + p.1 * p.2) 0
theorem dotL_go : ∀ (a b : Rw F) (t : F), (List.zip a b).foldl (fun t p => t + p.1 * p.2) t = t + sm (min a.length b.length) fun i => co a i * co b i
  | [], b, t => by simp [sm]; grind
  | a :: as, [], t => by simp [sm]; grind
  | a :: as, b :: bs, t => by
    rw [List.zip_cons_cons, List.foldl_cons, dotL_go as bs, List.length_cons, List.length_cons, Nat.add_min_add_right, sm_head]
    show t + a * b + sm _ (fun i => co as i * co bs i) = t + (a * b + sm _ fun i => co as i * co bs i)
    grind
theorem dotL_eq (a b : Rw F) : dotL a b = sm (min a.length b.length) fun i => co a i * co b i := by
  unfold dotL; rw [dotL_go]; grind
def condR (row b : Rw F) : Rw F := (List.range row.length).map fun k => dotL (b.drop k) row
def conds (row : Rw F) (barred : List (Rw F)) : List (Rw F) := barred.map (condR row)
theorem len_condR {row b : Rw F} : (condR row b).length = row.length := by unfold condR; simp
theorem co_drop (k i : Nat) : co (x.drop k) i = co x (k + i) := by unfold co; simp [List.getD_eq_getElem?_getD]
theorem co_condR {row b : Rw F} (hr : row.length = n) (hb : b.length = n) {k : Nat} (hk : k < n) : co (condR row b) k = sm (n - k) fun i => co b (k + i) * co row i := by
  have : co (condR row b) k = dotL (b.drop k) row := by
    unfold co condR
    rw [List.getD_eq_getElem?_getD, List.getElem?_map, List.getElem?_range (by omega)]
    rfl
  rw [this, dotL_eq, List.length_drop, hr, hb, show min (n - k) n = n - k from by omega]
  exact sm_congr fun i _ => by rw [co_drop]
theorem sm_cut (f : Nat → F) {k : Nat} (hk : k ≤ n) : sm (n - k) f = sm n fun i => if i + k < n then f i else 0 := by
  rw [sm_more (m := n - k) (n := n) (by omega) fun i h1 h2 => if_neg (by omega)]
  exact sm_congr fun i hi => (if_pos (by omega)).symm
theorem sm_shift (f : Nat → Nat → F) {i : Nat} (hi : i < n) : sm n (fun k => if i + k < n then f (k + i) k else 0) = sm n fun m => if i ≤ m then f m (m - i) else 0 := by
  obtain ⟨d, hd⟩ := Nat.exists_eq_add_of_le (show i ≤ n by omega)
  have e1 : sm n (fun k => if i + k < n then f (k + i) k else 0) = sm d fun k => f (k + i) k := by
    rw [sm_more (m := d) (n := n) (by omega) fun k h1 h2 => if_neg (by omega)]
    exact sm_congr fun k hk => if_pos (by omega)
  rw [e1, hd, sm_split, sm_zero (n := i) fun m hm => if_neg (by omega)]
  have e2 : sm d (fun k => f (k + i) k) = sm d fun k => if i ≤ i + k then f (i + k) (i + k - i) else 0 :=
    sm_congr fun k hk => by rw [if_pos (by omega), show i + k - i = k from by omega, Nat.add_comm i k]
  rw [e2]; grind
theorem dot_cond {row b : Rw F} (hr : row.length = n) (hb : b.length = n) (x : Vc F) : dot n (co (condR row b)) x = dot n (co b) (pV n (co row) x) := by
  have l : dot n (co (condR row b)) x = sm n fun k => sm n fun i => if i + k < n then (co b (k + i) * co row i) * x k else 0 :=
    sm_congr fun k hk => by
      rw [co_condR hr hb hk, sm_cut _ (by omega)]
      have : (fun i => if i + k < n then co b (k + i) * co row i * x k else 0) = fun i => x k * (if i + k < n then co b (k + i) * co row i else 0) := by
        funext i; split <;> grind
      rw [this, sm_mul]; grind
  have r : dot n (co b) (pV n (co row) x) = sm n fun m => sm n fun i => if i ≤ m then (co b m * co row i) * x (m - i) else 0 :=
    sm_congr fun m hm => by
      have e : pV n (co row) x m = sm n fun i => if i ≤ m then co row i * x (m - i) else 0 := by
        unfold pV
        rw [if_pos hm]
        unfold conv
        rw [sm_more (m := m + 1) (n := n) (by omega) fun i h1 h2 => if_neg (by omega)]
        exact sm_congr fun i hi => (if_pos (by omega)).symm
      rw [e, ← sm_mul]
      exact sm_congr fun i _ => by split <;> grind
  rw [l, r, sm_comm, sm_comm (fun m i => if i ≤ m then (co b m * co row i) * x (m - i) else 0)]
  refine sm_congr fun i hi => ?_
  have := sm_shift (n := n) (i := i) (fun m k => (co b m * co row i) * x k) hi
  rw [← this]
/-! ### factors -/
def mapsG (n : Nat) (barred : List (Rw F)) (P : List (Rw F)) (found : List (Rw F)) : List (Rw F) := P.foldl (fun found row => rref (found ++ conds row barred)) found
def mapsR (n : Nat) (P Q : List (Rw F)) : List (Rw F) := acr n (mapsG n (acr n Q) P [])
def facR (n : Nat) (P Q : List (Rw F)) : Option (Rw F) :=
  if n = 0 then some [] else match (if P.length = Q.length then mapsR n P Q else []) with
    | [] => none
    | g :: _ => if co g 0 ≠ 0 then some g else none
theorem conds_len {row : Rw F} {barred : List (Rw F)} (hr : row.length = n) : ∀ x, x ∈ conds row barred → x.length = n := fun x hx => by
  obtain ⟨b, _, e⟩ := List.mem_map.mp hx
  rw [← e, len_condR]; exact hr
theorem mapsG_ok {barred : List (Rw F)} : ∀ {P found : List (Rw F)}, (∀ x, x ∈ P → x.length = n) → (∀ x, x ∈ found → x.length = n) →
    (∀ x, x ∈ mapsG n barred P found → x.length = n) ∧ ∀ v, SpR (mapsG n barred P found) v ↔ Sp (fun w => InR found w ∨ ∃ row b, row ∈ P ∧ b ∈ barred ∧ w = co (condR row b)) v
  | [], found, _, hf => ⟨hf, fun v => ⟨fun s => s.mono fun w hw => .inl hw, fun s => s.mono fun w hw => hw.elim id fun ⟨_, _, z, _⟩ => (by cases z)⟩⟩
  | row :: P, found, hP, hf => by
    have al := app_len2 hf (conds_len (barred := barred) (hP row List.mem_cons_self))
    have ih := mapsG_ok (barred := barred) (P := P) (found := rref (found ++ conds row barred)) (fun x hx => hP x (List.mem_cons_of_mem _ hx)) (rref_rl al).len
    show (∀ x, x ∈ mapsG n barred P (rref (found ++ conds row barred)) → x.length = n) ∧ ∀ v, SpR (mapsG n barred P (rref (found ++ conds row barred))) v ↔ _
    refine ⟨ih.1, fun v => (ih.2 v).trans ⟨fun s => s.le fun w hw => ?_, fun s => s.le fun w hw => ?_⟩⟩
    · rcases hw with ⟨x, hx, e⟩ | ⟨row', b, h1, h2, e⟩
      · rw [e]
        refine ((rref_sp al _).mp (.of hx)).mono fun u ⟨s, hs, e2⟩ => ?_
        rcases List.mem_append.mp hs with q | q
        · exact .inl ⟨s, q, e2⟩
        · obtain ⟨b, hb, e3⟩ := List.mem_map.mp q
          exact .inr ⟨row, b, List.mem_cons_self, hb, by rw [e2, e3]⟩
      · exact .of (.inr ⟨row', b, List.mem_cons_of_mem _ h1, h2, e⟩)
    · have inn : ∀ s, s ∈ found ++ conds row barred → Sp (fun w => InR (rref (found ++ conds row barred)) w ∨ ∃ row b, row ∈ P ∧ b ∈ barred ∧ w = co (condR row b)) (co s) := fun s hs =>
        ((rref_sp al _).mpr (.of hs)).mono fun u hu => .inl hu
      rcases hw with ⟨x, hx, e⟩ | ⟨row', b, h1, h2, e⟩
      · rw [e]; exact inn x (List.mem_append.mpr (.inl hx))
      · rcases List.mem_cons.mp h1 with q | q
        · subst q
          rw [e]; exact inn _ (List.mem_append.mpr (.inr (List.mem_map.mpr ⟨b, h2, rfl⟩)))
        · exact .of (.inr ⟨row', b, q, h2, e⟩)
theorem co_sup (hx : x.length = n) : ∀ j, n ≤ j → co x j = 0 := fun j hj => co_ge (by omega)
theorem maps_sp (hP : ∀ x, x ∈ P → x.length = n) (hQ : ∀ x, x ∈ Q → x.length = n) {v : Vc F} (sv : ∀ j, n ≤ j → v j = 0) : SpR (mapsR n P Q) v ↔ ∀ row, row ∈ P → SpR Q (pV n (co row) v) := by
  have g := mapsG_ok (n := n) (barred := acr n Q) (P := P) (found := []) hP (fun _ z => by cases z)
  refine (acr_sp g.1 sv).trans ⟨fun k row hr => (sp_acr hQ (pV_sup _ _)).mpr fun b hb => ?_, fun k r hr => dot_sp (fun w hw => ?_) ((g.2 _).mp (.of hr))⟩
  · rw [← dot_cond (hP row hr) (acr_rl.len b hb)]
    exact dot_sp (R := InR (mapsG n (acr n Q) P [])) (fun w ⟨x, hx, e⟩ => e ▸ k x hx) ((g.2 _).mpr (.of (.inr ⟨row, b, hr, hb, rfl⟩)))
  · rcases hw with ⟨_, z, _⟩ | ⟨row, b, h1, h2, e⟩
    · cases z
    · rw [e, dot_cond (hP row h1) (acr_rl.len b h2)]
      exact (sp_acr hQ (pV_sup _ _)).mp (k row h1) b h2
theorem fac_some (hP : Rom n ra sb P) (hQ : Rom n ra sb Q) (hn : 0 < n) (e : facR n P Q = some g) : g.length = n ∧ co g 0 ≠ 0 ∧ byR P g = Q := by
  unfold facR at e
  rw [if_neg (by omega)] at e
  by_cases c : P.length = Q.length
  · rw [if_pos c] at e
    cases q : mapsR n P Q with
    | nil => rw [q] at e; cases e
    | cons a t =>
      rw [q] at e
      have e' : (if co a 0 ≠ 0 then some a else none) = some g := e
      by_cases a0 : co a 0 ≠ 0
      · rw [if_pos a0] at e'
        have ea : a = g := Option.some.inj e'
        subst ea
        have am : a ∈ mapsR n P Q := by rw [q]; exact List.mem_cons_self
        have al : a.length = n := (acr_rl (rows := mapsG n (acr n Q) P [])).len a am
        have k := (maps_sp hP.rl.len hQ.rl.len (co_sup al)).mp (.of am)
        refine ⟨al, a0, ((by_rl hP.rl.len al).sub hQ.rl fun x hx => ?_).2 (by rw [by_length hP.rl al fun _ => a0, c])⟩
        obtain ⟨u, hu, e⟩ := (by_sp hP.rl.len al _).mp (.of hx)
        rw [e]
        exact Sp.map (f := fun v => pV n v (co a)) (pV_0 _) (fun x y c => pV_lin x y _ c) hu fun w ⟨s, hs, e⟩ => e ▸ k s hs
      · rw [if_neg a0] at e'; cases e'
  · rw [if_neg c] at e; cases e
theorem fac_none (hP : Rom n ra sb P) (hQ : Rom n ra sb Q) (e : facR n P Q = none) : 0 < n ∧ ∀ g : Rw F, g.length = n → co g 0 ≠ 0 → byR P g ≠ Q := by
  unfold facR at e
  by_cases hn : n = 0
  · rw [if_pos hn] at e; cases e
  · rw [if_neg hn] at e
    refine ⟨by omega, fun g hg g0 eq => ?_⟩
    have hl : P.length = Q.length := by rw [← eq, by_length hP.rl hg fun _ => g0]
    rw [if_pos hl] at e
    have mg : SpR (mapsR n P Q) (co g) := (maps_sp hP.rl.len hQ.rl.len (co_sup hg)).mpr fun row hr => by
      rw [← eq]; exact (by_sp hP.rl.len hg _).mpr ⟨co row, .of hr, rfl⟩
    obtain ⟨a, t, q, a0⟩ := lead_row ((acr_rl (rows := mapsG n (acr n Q) P [])).lead (P := mapsR n P Q) mg g0)
    rw [q] at e
    have e' : (if co a 0 ≠ 0 then some a else none) = (none : Option (Rw F)) := e
    rw [if_pos a0] at e'; cases e'
theorem fac_sym (hP : Rom n ra sb P) (hQ : Rom n ra sb Q) (e : facR n P Q = none) : facR n Q P = none := by
  have k := fac_none hP hQ e
  cases q : facR n Q P with
  | none => rfl
  | some g =>
    have h := fac_some hQ hP k.1 q
    have hi := invL_ok h.1 fun _ => h.2.1
    exact absurd (by rw [← h.2.2]; exact by_inv hQ.rl h.1 fun _ => h.2.1) (k.2 (invL g) hi.1 (hi.2.2 k.1))
end
end Rm
set_option linter.unusedSectionVars false
set_option linter.unusedVariables false
namespace Rm
/-! ### the seven fields -/
inductive Fq where
  | f2 | f3 | f4 | f5 | f7 | f8 | f9
deriving DecidableEq
def Fq.n : Fq → Nat
  | .f2 => 2
  | .f3 => 3
  | .f4 => 4
  | .f5 => 5
  | .f7 => 7
  | .f8 => 8
  | .f9 => 9
def Fq.p : Fq → Nat
  | .f2 => 2
  | .f3 => 3
  | .f4 => 2
  | .f5 => 5
  | .f7 => 7
  | .f8 => 2
  | .f9 => 3
def Fq.t : Fq → Nat
  | .f2 => 1
  | .f3 => 1
  | .f4 => 2
  | .f5 => 1
  | .f7 => 1
  | .f8 => 3
  | .f9 => 2
def plusT : Fq → List (List Nat)
  | .f2 => [[0, 1], [1, 0]]
  | .f3 => [[0, 1, 2], [1, 2, 0], [2, 0, 1]]
  | .f4 => [[0, 1, 2, 3], [1, 0, 3, 2], [2, 3, 0, 1], [3, 2, 1, 0]]
  | .f5 => [[0, 1, 2, 3, 4], [1, 2, 3, 4, 0], [2, 3, 4, 0, 1], [3, 4, 0, 1, 2], [4, 0, 1, 2, 3]]
  | .f7 => [[0, 1, 2, 3, 4, 5, 6], [1, 2, 3, 4, 5, 6, 0], [2, 3, 4, 5, 6, 0, 1], [3, 4, 5, 6, 0, 1, 2], [4, 5, 6, 0, 1, 2, 3], [5, 6, 0, 1, 2, 3, 4], [6, 0, 1, 2, 3, 4, 5]]
  | .f8 => [[0, 1, 2, 3, 4, 5, 6, 7], [1, 0, 3, 2, 5, 4, 7, 6], [2, 3, 0, 1, 6, 7, 4, 5], [3, 2, 1, 0, 7, 6, 5, 4], [4, 5, 6, 7, 0, 1, 2, 3], [5, 4, 7, 6, 1, 0, 3, 2], [6, 7, 4, 5, 2, 3, 0, 1], [7, 6, 5, 4, 3, 2, 1, 0]]
  | .f9 => [[0, 1, 2, 3, 4, 5, 6, 7, 8], [1, 2, 0, 4, 5, 3, 7, 8, 6], [2, 0, 1, 5, 3, 4, 8, 6, 7], [3, 4, 5, 6, 7, 8, 0, 1, 2], [4, 5, 3, 7, 8, 6, 1, 2, 0], [5, 3, 4, 8, 6, 7, 2, 0, 1], [6, 7, 8, 0, 1, 2, 3, 4, 5], [7, 8, 6, 1, 2, 0, 4, 5, 3], [8, 6, 7, 2, 0, 1, 5, 3, 4]]
def timesT : Fq → List (List Nat)
  | .f2 => [[0, 0], [0, 1]]
  | .f3 => [[0, 0, 0], [0, 1, 2], [0, 2, 1]]
  | .f4 => [[0, 0, 0, 0], [0, 1, 2, 3], [0, 2, 3, 1], [0, 3, 1, 2]]
  | .f5 => [[0, 0, 0, 0, 0], [0, 1, 2, 3, 4], [0, 2, 4, 1, 3], [0, 3, 1, 4, 2], [0, 4, 3, 2, 1]]
  | .f7 => [[0, 0, 0, 0, 0, 0, 0], [0, 1, 2, 3, 4, 5, 6], [0, 2, 4, 6, 1, 3, 5], [0, 3, 6, 2, 5, 1, 4], [0, 4, 1, 5, 2, 6, 3], [0, 5, 3, 1, 6, 4, 2], [0, 6, 5, 4, 3, 2, 1]]
  | .f8 => [[0, 0, 0, 0, 0, 0, 0, 0], [0, 1, 2, 3, 4, 5, 6, 7], [0, 2, 4, 6, 3, 1, 7, 5], [0, 3, 6, 5, 7, 4, 1, 2], [0, 4, 3, 7, 6, 2, 5, 1], [0, 5, 1, 4, 2, 7, 3, 6], [0, 6, 7, 1, 5, 3, 2, 4], [0, 7, 5, 2, 1, 6, 4, 3]]
  | .f9 => [[0, 0, 0, 0, 0, 0, 0, 0, 0], [0, 1, 2, 3, 4, 5, 6, 7, 8], [0, 2, 1, 6, 8, 7, 3, 5, 4], [0, 3, 6, 2, 5, 8, 1, 4, 7], [0, 4, 8, 5, 6, 1, 7, 2, 3], [0, 5, 7, 8, 1, 3, 4, 6, 2], [0, 6, 3, 1, 7, 4, 2, 8, 5], [0, 7, 5, 4, 2, 6, 8, 3, 1], [0, 8, 4, 7, 3, 2, 5, 1, 6]]
def negT : Fq → List Nat
  | .f2 => [0, 1]
  | .f3 => [0, 2, 1]
  | .f4 => [0, 1, 2, 3]
  | .f5 => [0, 4, 3, 2, 1]
  | .f7 => [0, 6, 5, 4, 3, 2, 1]
  | .f8 => [0, 1, 2, 3, 4, 5, 6, 7]
  | .f9 => [0, 2, 1, 6, 8, 7, 3, 5, 4]
def invT7 : Fq → List Nat
  | .f2 => [0, 1]
  | .f3 => [0, 1, 2]
  | .f4 => [0, 1, 3, 2]
  | .f5 => [0, 1, 3, 2, 4]
  | .f7 => [0, 1, 4, 5, 2, 3, 6]
  | .f8 => [0, 1, 5, 6, 7, 2, 3, 4]
  | .f9 => [0, 1, 2, 6, 5, 4, 3, 8, 7]
theorem Fq.two (k : Fq) : 2 ≤ k.n := by cases k <;> decide
theorem Fq.le9 (k : Fq) : k.n ≤ 9 := by cases k <;> decide
def El (k : Fq) : Type := Fin k.n
def El.v {k : Fq} (x : El k) : Nat := Fin.val x
def ofN (k : Fq) (i : Nat) : El k := (⟨i % k.n, Nat.mod_lt _ (Nat.lt_of_lt_of_le (by decide : 0 < 2) k.two)⟩ : Fin k.n)
theorem El.lt {k : Fq} (x : El k) : x.v < k.n := Fin.isLt x
theorem El.ext {k : Fq} {x y : El k} (h : x.v = y.v) : x = y := Fin.ext h
theorem v_ofN {k : Fq} {i : Nat} (h : i < k.n) : (ofN k i).v = i := Nat.mod_eq_of_lt h
theorem ofN_v {k : Fq} (x : El k) : ofN k x.v = x := El.ext (v_ofN x.lt)
instance (k : Fq) : DecidableEq (El k) := inferInstanceAs (DecidableEq (Fin k.n))
def gT (T : List (List Nat)) (i j : Nat) : Nat := (T.getD i []).getD j 0
instance (k : Fq) : Add (El k) := ⟨fun x y => ofN k (gT (plusT k) x.v y.v)⟩
instance (k : Fq) : Mul (El k) := ⟨fun x y => ofN k (gT (timesT k) x.v y.v)⟩
instance (k : Fq) : Neg (El k) := ⟨fun x => ofN k ((negT k).getD x.v 0)⟩
def El.inv {k : Fq} (x : El k) : El k := ofN k ((invT7 k).getD x.v 0)
def el0 (k : Fq) : El k := ofN k 0
def el1 (k : Fq) : El k := ofN k 1
theorem el_all {k : Fq} {p : El k → Prop} (h : ∀ i : Fin k.n, p i) (x : El k) : p x := h x
instance (k : Fq) (p : El k → Prop) [h : DecidablePred p] : Decidable (∀ x, p x) := @Nat.decidableForallFin k.n p h
theorem el_add_comm : ∀ (k : Fq) (x y : El k), x + y = y + x := by intro k; cases k <;> decide +kernel
theorem el_add_assoc : ∀ (k : Fq) (x y z : El k), x + y + z = x + (y + z) := by intro k; cases k <;> decide +kernel
theorem el_add_zero : ∀ (k : Fq) (x : El k), x + el0 k = x := by intro k; cases k <;> decide +kernel
theorem el_mul_comm : ∀ (k : Fq) (x y : El k), x * y = y * x := by intro k; cases k <;> decide +kernel
theorem el_mul_assoc : ∀ (k : Fq) (x y z : El k), x * y * z = x * (y * z) := by intro k; cases k <;> decide +kernel
theorem el_mul_one : ∀ (k : Fq) (x : El k), x * el1 k = x := by intro k; cases k <;> decide +kernel
theorem el_dist : ∀ (k : Fq) (x y z : El k), x * (y + z) = x * y + x * z := by intro k; cases k <;> decide +kernel
theorem el_neg : ∀ (k : Fq) (x : El k), -x + x = el0 k := by intro k; cases k <;> decide +kernel
theorem el_zero_mul : ∀ (k : Fq) (x : El k), el0 k * x = el0 k := by intro k; cases k <;> decide +kernel
theorem el_inv : ∀ (k : Fq) (x : El k), x ≠ el0 k → x * x.inv = el1 k := by intro k; cases k <;> decide +kernel
theorem el_one_ne : ∀ (k : Fq), el1 k ≠ el0 k := by intro k; cases k <;> decide +kernel
def elN (k : Fq) : Nat → El k
  | 0 => el0 k
  | 1 => el1 k
  | n + 2 => elN k (n + 1) + el1 k
theorem elN_succ (k : Fq) : ∀ n, elN k (n + 1) = elN k n + el1 k
  | 0 => by show el1 k = el0 k + el1 k; rw [el_add_comm, el_add_zero]
  | n + 1 => rfl
def elP (k : Fq) (x : El k) : Nat → El k
  | 0 => el1 k
  | n + 1 => elP k x n * x
def elI (k : Fq) : Int → El k
  | .ofNat n => elN k n
  | .negSucc n => -elN k (n + 1)
theorem el_neg_neg : ∀ (k : Fq) (x : El k), - -x = x := by intro k; cases k <;> decide +kernel
theorem el_neg_mul : ∀ (k : Fq) (x y : El k), -x * y = -(x * y) := by intro k; cases k <;> decide +kernel
theorem elI_neg (k : Fq) : ∀ i : Int, elI k (-i) = -elI k i
  | .ofNat 0 => by show el0 k = -el0 k; cases k <;> decide +kernel
  | .ofNat (n + 1) => rfl
  | .negSucc n => (el_neg_neg k _).symm
instance (k : Fq) : Fl (El k) where
  natCast := ⟨elN k⟩
  ofNat n := ⟨elN k n⟩
  nsmul := ⟨fun n x => elN k n * x⟩
  npow := ⟨elP k⟩
  add_zero := el_add_zero k
  add_comm := el_add_comm k
  add_assoc := el_add_assoc k
  mul_assoc := el_mul_assoc k
  mul_one := el_mul_one k
  one_mul x := by rw [el_mul_comm]; exact el_mul_one k x
  left_distrib := el_dist k
  right_distrib x y z := by rw [el_mul_comm, el_dist, el_mul_comm k z x, el_mul_comm k z y]
  zero_mul := el_zero_mul k
  mul_zero x := by rw [el_mul_comm]; exact el_zero_mul k x
  pow_zero _ := rfl
  pow_succ _ _ := rfl
  ofNat_succ n := elN_succ k n
  ofNat_eq_natCast _ := rfl
  nsmul_eq_natCast_mul _ _ := rfl
  sub := fun x y => x + -y
  intCast := ⟨elI k⟩
  zsmul := ⟨fun i x => elI k i * x⟩
  neg_add_cancel := el_neg k
  sub_eq_add_neg _ _ := rfl
  neg_zsmul i x := by show elI k (-i) * x = -(elI k i * x); rw [elI_neg, el_neg_mul]
  zsmul_natCast_eq_nsmul _ _ := rfl
  intCast_ofNat _ := rfl
  intCast_neg i := elI_neg k i
  mul_comm := el_mul_comm k
  inv := El.inv
  mul_inv := el_inv k
  one_ne := el_one_ne k
  dec := inferInstance
theorem v_zero (k : Fq) : (0 : El k).v = 0 := by cases k <;> decide +kernel
theorem v_one (k : Fq) : (1 : El k).v = 1 := by cases k <;> decide +kernel
theorem v_eq_zero {k : Fq} {x : El k} : x.v = 0 ↔ x = 0 := ⟨fun h => El.ext (by rw [h, v_zero]), fun h => by rw [h, v_zero]⟩
theorem v_add {k : Fq} (x y : El k) : (x + y).v = gT (plusT k) x.v y.v := by
  have : ∀ (k : Fq) (x y : El k), (x + y).v = gT (plusT k) x.v y.v := by intro k; cases k <;> decide +kernel
  exact this k x y
theorem v_mul {k : Fq} (x y : El k) : (x * y).v = gT (timesT k) x.v y.v := by
  have : ∀ (k : Fq) (x y : El k), (x * y).v = gT (timesT k) x.v y.v := by intro k; cases k <;> decide +kernel
  exact this k x y
theorem v_neg {k : Fq} (x : El k) : (-x).v = (negT k).getD x.v 0 := by
  have : ∀ (k : Fq) (x : El k), (-x).v = (negT k).getD x.v 0 := by intro k; cases k <;> decide +kernel
  exact this k x
theorem v_inv {k : Fq} (x : El k) : (Fl.inv x).v = (invT7 k).getD x.v 0 := by
  have : ∀ (k : Fq) (x : El k), (Fl.inv x).v = (invT7 k).getD x.v 0 := by intro k; cases k <;> decide +kernel
  exact this k x
end Rm
set_option Elab.async false
set_option linter.all false
set_option maxRecDepth 100000
set_option maxHeartbeats 2000000
namespace Dl
open PySem PySem.Spec PyProof.Rows L2 SlX Rm
/-! ### the program's things as data -/
section
variable {k : Fq}
def inI (x : El k) : Int := (x.v : Int)
abbrev inP (x : El k) : PyData := .int (inI x)
abbrev rP (r : List (El k)) : PyData := .tuple ((r.map inI).map .int)
abbrev rsP (rs : List (List (El k))) : PyData := .tuple (rs.map rP)
def nats (l : List Nat) : List Int := l.map (fun (n : Nat) => (n : Int))
def plusI (k : Fq) : List (List Int) := (plusT k).map nats
def timesI (k : Fq) : List (List Int) := (timesT k).map nats
abbrev invP (k : Fq) : PyData := .tuple ((nats (invT7 k)).map .int)
abbrev negP (k : Fq) : PyData := .tuple ((nats (negT k)).map .int)
abbrev memP (k : Fq) : PyData := .tuple ((nats (List.range k.n)).map .int)
def fieldD (K : PySem.W.Frag) (k : Fq) : D := .obj (He.ga K "Field") [.py (invP k), .py (memP k), .py (negP k), .tab (plusI k), I (k.n : Int), .tab (timesI k)]
def slopeD (K : PySem.W.Frag) (r s : Nat) : D := .obj (He.ga K "Slope") [I ((Nat.gcd r s : Nat) : Int), I (r : Int), I (s : Int)]
def roomD (K : PySem.W.Frag) (k : Fq) (r s : Nat) (P : List (List (El k))) : D := .obj (He.ga K "Room") [.py (rsP P), fieldD K k, slopeD K r s]
def shelfD (K : PySem.W.Frag) (r s : Nat) (gaps least : List Int) : D := .obj (He.ga K "Shelf") [.py (.tuple (gaps.map .int)), .py (.tuple (least.map .int)), slopeD K r s]
/-- the law's own field: size, sums, products -/
abbrev tabL (rows : List (List Int)) : PyData := .list (rows.map fun ns => .list (ns.map .int))
abbrev lawF (k : Fq) : PyData := .list [.int (k.n : Int), tabL (plusI k), tabL (timesI k)]
theorem inI_nn (x : El k) : 0 ≤ inI x := Int.natCast_nonneg _
theorem inI_lt (x : El k) : inI x < (k.n : Int) := Int.ofNat_lt.mpr x.lt
theorem inI_9 (x : El k) : inI x < 9 := by have := inI_lt x; have := k.le9; omega
theorem inI_zero {x : El k} : inI x = 0 ↔ x = 0 := by
  unfold inI
  rw [← v_eq_zero]
  omega
theorem inI_0 : inI (0 : El k) = 0 := inI_zero.mpr rfl
theorem inI_1 : inI (1 : El k) = 1 := by unfold inI; rw [v_one]; rfl
theorem inI_inj {x y : El k} (h : inI x = inI y) : x = y := El.ext (by unfold inI at h; omega)
theorem rN_inj {x y : List (El k)} (h : x.map inI = y.map inI) : x = y := List.map_inj_right (fun _ _ e => inI_inj e) |>.mp h
theorem tabs_ok : ∀ k : Fq, ((plusT k).length = k.n ∧ ∀ r, r ∈ plusT k → r.length = k.n) ∧ ((timesT k).length = k.n ∧ ∀ r, r ∈ timesT k → r.length = k.n) ∧ (negT k).length = k.n ∧ (invT7 k).length = k.n := by intro k; cases k <;> decide
theorem gT_at {T : List (List Nat)} {n i j : Nat} (h : T.length = n ∧ ∀ r, r ∈ T → r.length = n) (hi : i < n) (hj : j < n) : ∃ r, T[i]? = some r ∧ r[j]? = some (gT T i j) := by
  have hi' : i < T.length := by rw [h.1]; exact hi
  refine ⟨T[i], List.getElem?_eq_getElem hi', ?_⟩
  have hj' : j < T[i].length := by rw [h.2 _ (List.getElem_mem hi')]; exact hj
  have e : T.getD i [] = T[i] := by rw [List.getD_eq_getElem?_getD, List.getElem?_eq_getElem hi']; rfl
  unfold gT
  rw [e, List.getD_eq_getElem?_getD, List.getElem?_eq_getElem hj']; rfl
theorem ints_at {l : List Nat} {i v : Nat} (h : l[i]? = some v) : (nats l)[i]? = some (v : Int) := by unfold nats; rw [List.getElem?_map, h]; rfl
/-- the row of a table at x -/
def rowI (T : List (List Nat)) (i : Nat) : List Int := nats (T.getD i [])
theorem plus_at (x y : El k) : (plusI k)[x.v]? = some (rowI (plusT k) x.v) ∧ (rowI (plusT k) x.v)[y.v]? = some (inI (x + y)) := by
  obtain ⟨r, h1, h2⟩ := gT_at (tabs_ok k).1 x.lt y.lt
  have e : (plusT k).getD x.v [] = r := by rw [List.getD_eq_getElem?_getD, h1]; rfl
  refine ⟨?_, ?_⟩
  · unfold plusI rowI; rw [List.getElem?_map, h1, e]; rfl
  · unfold rowI; rw [e, ints_at h2, ← Rm.v_add]; rfl
theorem times_at (x y : El k) : (timesI k)[x.v]? = some (rowI (timesT k) x.v) ∧ (rowI (timesT k) x.v)[y.v]? = some (inI (x * y)) := by
  obtain ⟨r, h1, h2⟩ := gT_at (tabs_ok k).2.1 x.lt y.lt
  have e : (timesT k).getD x.v [] = r := by rw [List.getD_eq_getElem?_getD, h1]; rfl
  refine ⟨?_, ?_⟩
  · unfold timesI rowI; rw [List.getElem?_map, h1, e]; rfl
  · unfold rowI; rw [e, ints_at h2, ← Rm.v_mul]; rfl
theorem neg_at (x : El k) : (nats (negT k))[x.v]? = some (inI (-x)) := by
  have hl : x.v < (negT k).length := by rw [(tabs_ok k).2.2.1]; exact x.lt
  have e : (negT k)[x.v]? = some ((negT k).getD x.v 0) := by rw [List.getD_eq_getElem?_getD, List.getElem?_eq_getElem hl]; rfl
  rw [ints_at e, ← v_neg]; rfl
theorem inv_at (x : El k) : (nats (invT7 k))[x.v]? = some (inI (Fl.inv x)) := by
  have hl : x.v < (invT7 k).length := by rw [(tabs_ok k).2.2.2]; exact x.lt
  have e : (invT7 k)[x.v]? = some ((invT7 k).getD x.v 0) := by rw [List.getD_eq_getElem?_getD, List.getElem?_eq_getElem hl]; rfl
  rw [ints_at e, ← v_inv]; rfl
end
/-! ### reading the tables -/
section
variable {K : PySem.W.Frag} {δ : Option Addr} {F0 H0 : Hp} {ρ : List Sl} {te ta tb tc : TE} {d : D} {k : Fq} {x y c : El k}
theorem map_at {α β : Type} {f : α → β} {l : List α} {i : Nat} {a : α} (h : l[i]? = some a) : (l.map f)[i]? = some (f a) := by rw [List.getElem?_map, h]; rfl
theorem ed_ixTI {l : List Int} {i : Nat} {v : Int} (ha : ED K δ H0 ta ρ (.py (.tuple (l.map .int)))) (hb : ED K δ H0 tb ρ (.py (.int (i : Int)))) (h : l[i]? = some v) : ED K δ H0 (tOp (rIx K) ta tb) ρ (.py (.int v)) :=
  ed_ixT ha hb (at_nat (map_at h))
theorem ed_ixLI {l : List Int} {i : Nat} {v : Int} (ha : EL K δ H0 ta ρ (l.map .int)) (hb : ED K δ H0 tb ρ (.py (.int (i : Int)))) (h : l[i]? = some v) : ED K δ H0 (tOp (rIx K) ta tb) ρ (.py (.int v)) :=
  ed_ixL ha hb (at_nat (map_at h))
/-- sums[x][y] -/
theorem ed_plus (ha : ED K δ H0 ta ρ (.tab (plusI k))) (hx : ED K δ H0 tb ρ (.py (inP x))) (hy : ED K δ H0 tc ρ (.py (inP y))) : ED K δ H0 (tOp (rIx K) (tOp (rIx K) ta tb) tc) ρ (.py (inP (x + y))) :=
  ed_ixTI (i := y.v) (ed_ixT (ed_tab ha) hx (at_nat (map_at (plus_at x y).1))) hy (plus_at x y).2
/-- products[x], a row of it -/
abbrev prodRow (c : El k) : PyData := .tuple ((rowI (timesT k) c.v).map .int)
theorem ed_prodRow (ha : ED K δ H0 ta ρ (.tab (timesI k))) (hx : ED K δ H0 tb ρ (.py (inP c))) : ED K δ H0 (tOp (rIx K) ta tb) ρ (.py (prodRow c)) := ed_ixT (ed_tab ha) hx (at_nat (map_at (times_at c c).1))
theorem ed_prodAt (ha : ED K δ H0 ta ρ (.py (prodRow c))) (hy : ED K δ H0 tb ρ (.py (inP y))) : ED K δ H0 (tOp (rIx K) ta tb) ρ (.py (inP (c * y))) := ed_ixTI (i := y.v) ha hy (times_at c y).2
theorem ed_times (ha : ED K δ H0 ta ρ (.tab (timesI k))) (hx : ED K δ H0 tb ρ (.py (inP x))) (hy : ED K δ H0 tc ρ (.py (inP y))) : ED K δ H0 (tOp (rIx K) (tOp (rIx K) ta tb) tc) ρ (.py (inP (x * y))) := ed_prodAt (ed_prodRow ha hx) hy
theorem ed_negAt (ha : ED K δ H0 ta ρ (.py (negP k))) (hx : ED K δ H0 tb ρ (.py (inP x))) : ED K δ H0 (tOp (rIx K) ta tb) ρ (.py (inP (-x))) := ed_ixTI (i := x.v) ha hx (neg_at x)
theorem ed_invAt (ha : ED K δ H0 ta ρ (.py (invP k))) (hx : ED K δ H0 tb ρ (.py (inP x))) : ED K δ H0 (tOp (rIx K) ta tb) ρ (.py (inP (Fl.inv x))) := ed_ixTI (i := x.v) ha hx (inv_at x)
/-- row[i] -/
theorem ed_rowAt {r : List (El k)} {i : Nat} (ha : ED K δ H0 ta ρ (.py (rP r))) (hb : ED K δ H0 tb ρ (.py (.int (i : Int)))) (h : i < r.length) : ED K δ H0 (tOp (rIx K) ta tb) ρ (.py (inP (co r i))) :=
  ed_ixTI ha hb (map_at (co_get h))
/-- the law's tables -/
theorem ed_lawPlus (ha : ED K δ H0 ta ρ (.py (lawF k))) (hx : ED K δ H0 tb ρ (.py (inP x))) (hy : ED K δ H0 tc ρ (.py (inP y))) : ED K δ H0 (tOp (rIx K) (tOp (rIx K) (tOp (rIx K) ta (tC (.int 1))) tb) tc) ρ (.py (inP (x + y))) :=
  ed_ixLI (i := y.v) (el_fz (ed_ixL (el_fz (ed_ixL (el_fz ha) ed_int (at_int (by decide) rfl))) hx (at_nat (map_at (plus_at x y).1)))) hy (plus_at x y).2
theorem ed_lawTimes (ha : ED K δ H0 ta ρ (.py (lawF k))) (hx : ED K δ H0 tb ρ (.py (inP x))) (hy : ED K δ H0 tc ρ (.py (inP y))) : ED K δ H0 (tOp (rIx K) (tOp (rIx K) (tOp (rIx K) ta (tC (.int 2))) tb) tc) ρ (.py (inP (x * y))) :=
  ed_ixLI (i := y.v) (el_fz (ed_ixL (el_fz (ed_ixL (el_fz ha) ed_int (at_int (by decide) rfl))) hx (at_nat (map_at (times_at x y).1)))) hy (times_at x y).2
theorem ed_lawRow1 (ha : ED K δ H0 ta ρ (.py (lawF k))) (hx : ED K δ H0 tb ρ (.py (inP x))) : EL K δ H0 (tOp (rIx K) (tOp (rIx K) ta (tC (.int 1))) tb) ρ ((rowI (plusT k) x.v).map .int) :=
  el_fz (ed_ixL (el_fz (ed_ixL (el_fz ha) ed_int (at_int (by decide) rfl))) hx (at_nat (map_at (plus_at x x).1)))
theorem ed_lawRow2 (ha : ED K δ H0 ta ρ (.py (lawF k))) (hx : ED K δ H0 tb ρ (.py (inP x))) : EL K δ H0 (tOp (rIx K) (tOp (rIx K) ta (tC (.int 2))) tb) ρ ((rowI (timesT k) x.v).map .int) :=
  el_fz (ed_ixL (el_fz (ed_ixL (el_fz ha) ed_int (at_int (by decide) rfl))) hx (at_nat (map_at (times_at x x).1)))
end
end Dl
set_option Elab.async false
set_option linter.all false
set_option maxRecDepth 100000
set_option maxHeartbeats 2000000
namespace Dl
open PySem PySem.Spec PyProof.Rows L2 SlX Rm
/-! ### what the text's names stand for -/
structure Tk (K : PySem.W.Frag) (mg : Str → Option Value) : Prop extends Tx K mg where
  cSlope : CLS K mg "Slope"
  slope_common : Sf K "Slope" "own_common" 0
  slope_rises : Sf K "Slope" "own_rises" 1
  slope_steps : Sf K "Slope" "own_steps" 2
  neSlope : PySem.W.findIn K (.ref (He.ga K "Slope")) "__ne__" = some (some (.builtin "object.__ne__"))
  cShelf : CLS K mg "Shelf"
  shelf_gaps : Sf K "Shelf" "own_gaps" 0
  shelf_least : Sf K "Shelf" "own_least" 1
  shelf_slope : Sf K "Shelf" "own_slope" 2
  neShelf : PySem.W.findIn K (.ref (He.ga K "Shelf")) "__ne__" = some (some (.builtin "object.__ne__"))
  cField : CLS K mg "Field"
  field_members : Sf K "Field" "own_members" 1
  field_inverses : Sf K "Field" "own_inverses" 0
  field_negatives : Sf K "Field" "own_negatives" 2
  field_plus : Sf K "Field" "own_plus" 3
  field_size : Sf K "Field" "own_size" 4
  field_times : Sf K "Field" "own_times" 5
  neField : PySem.W.findIn K (.ref (He.ga K "Field")) "__ne__" = some (some (.builtin "object.__ne__"))
  cRoom : CLS K mg "Room"
  room_basis : Sf K "Room" "own_basis" 0
  room_field : Sf K "Room" "own_field" 1
  room_slope : Sf K "Room" "own_slope" 2
  neRoom : PySem.W.findIn K (.ref (He.ga K "Room")) "__ne__" = some (some (.builtin "object.__ne__"))
  sfRoom : PySem.W.selfFirst K (He.ga K "Room") = true
  gcd_ : mg "gcd" = some (.builtin "math.gcd")
section
variable {K : PySem.W.Frag} {mg : Str → Option Value} {δ : Option Addr} {F0 H0 : Hp} {ρ : List Sl} {te ta tb tv : TE} {d : D} {x f : Str} {i j : Nat} {P : D → Prop} {E : En}
theorem ed_at {ds : List D} (h : ED K δ H0 te ρ (.obj (He.ga K x) ds)) (c : CLS K mg x) (t : Sf K x f i) (e : ds[i]? = some d) : ED K δ H0 (SlX.tSl K te f) ρ d := let ⟨_, t⟩ := t; ed_sl h c.sc t e
theorem ed_atM {o : Addr} {ds : List (Option D)} (h : ρ[j]? = some (.mk (He.ga K x, o) ds)) (c : CLS K mg x) (t : Sf K x f i) (e : ds[i]? = some (some d)) : ED K δ H0 (SlX.tSl K (tVar j) f) ρ d := let ⟨_, t⟩ := t; ed_slM h c.sc t e
theorem sd_at {o : Addr} {ds : List (Option D)} (hv : ED K δ H0 tv ρ d) (h : ρ[i]? = some (.mk (He.ga K x, o) ds)) (c : CLS K mg x) (t : Sf K x f j) (hj : j < ds.length) (k : E.N (ρ.set i (.mk (He.ga K x, o) (ds.set j (some d))))) : SD K δ F0 H0 (sSl K (tVar i) tv f) ρ E := let ⟨_, t⟩ := t; sd_slD hv h c.sc t hj k
theorem sd_atP {o : Addr} {ds : List (Option D)} (hv : EP K δ H0 tv ρ P) (h : ρ[i]? = some (.mk (He.ga K x, o) ds)) (c : CLS K mg x) (t : Sf K x f j) (hj : j < ds.length) (k : ∀ d, P d → E.N (ρ.set i (.mk (He.ga K x, o) (ds.set j (some d))))) : SD K δ F0 H0 (sSl K (tVar i) tv f) ρ E := let ⟨_, t⟩ := t; sd_sl hv h c.sc t hj k
theorem ed_isiC {ds : List D} (h : ED K δ H0 te ρ (.obj (He.ga K x) ds)) (c : CLS K mg x) : ED K δ H0 (tCB (rIsiSl K (.ref (He.ga K x))) (tCons te (tCons (tC (.ref (He.ga K x))) tNil))) ρ (.py (.bool true)) :=
  ed_isiO (mg := mg) h c.sc c.si (by unfold PySem.W.kitOne; simp)
theorem nf_self {C : Addr} : PySem.W.notFirst K C (.ref C) = true := by unfold PySem.W.notFirst; simp
theorem cmul_l {a b : Int} (h1 : -1000000000000000000 < a) (h2 : a < 1000000000000000000) : CMul a b := .inl ⟨by omega, by omega⟩
theorem cmul_r {a b : Int} (h1 : -1000000000000000000 < b) (h2 : b < 1000000000000000000) : CMul a b := .inr ⟨by omega, by omega⟩
end
end Dl
set_option Elab.async false
set_option linter.all false
set_option maxRecDepth 100000
set_option maxHeartbeats 2000000
namespace Dl
open PySem PySem.Spec PyProof.Rows L2 SlX Rm
/-! ### x //= e, x *= e -/
section
variable {X : Cx}
def ipC (C : Int → Int → Prop) (f : Int → Int → Int) : TIp := fun x y H Q => ∃ i j, x = .int i ∧ y = .int j ∧ C i j ∧ Q (.int (f i j)) H
theorem ip_mul : PIp X .Mult (ipC CMul fun i j => i * j) := by
  intro pins s σ H x y v u Q I r1 r2 h
  obtain ⟨i, j, rfl, rfl, hc, q⟩ := h
  obtain ⟨t, rfl⟩ := r1
  obtain ⟨t', rfl⟩ := r2
  exact imul_int ⟨.int _, H, I.tok _, ⟨_, rfl⟩, q⟩ hc.ok
theorem ip_fdiv : PIp X .FloorDiv (ipC CDiv fun i j => i / j) := by
  intro pins s σ H x y v u Q I r1 r2 h
  obtain ⟨i, j, rfl, rfl, hc, q⟩ := h
  obtain ⟨t, rfl⟩ := r1
  obtain ⟨t', rfl⟩ := r2
  have h1 : (0 : Int) < j := hc.1
  have h2 : j < 1073741824 := hc.2
  exact PyProof.Rows.ifloordiv_int (by omega) (by rw [Int.fdiv_eq_ediv_of_nonneg i (by omega)]; exact ⟨.int _, H, I.tok _, ⟨_, rfl⟩, q⟩) (.inl (PyProof.noPylong_small (by omega)))
end
section
variable {K : PySem.W.Frag} {δ : Option Addr} {F0 H0 : Hp} {ρ : List Sl} {te : TE} {E : En}
theorem sd_augC {C : Int → Int → Prop} {f : Int → Int → Int} {i : Nat} {a b : Int} (h : ρ[i]? = some (.fz (.py (.int a)))) (he : ED K δ H0 te ρ (.py (.int b))) (hc : C a b) (k : E.N (ρ.set i (.fz (.py (.int (f a b)))))) : SD K δ F0 H0 (tAug i te (ipC C f)) ρ E := fun σ F H Dn re w s q => by
  obtain ⟨v, e, r⟩ := re.fz i _ h
  refine ⟨v, e, he σ F H re (w.step s) _ fun u F1 H1 s1 r1 => ⟨a, b, rep_int r, rep_int r1, hc, q.nx _ _ (at_of k ((re.step s1).set i (.py (.int _))) w (s.trans w s1) s1.ff)⟩⟩
end
end Dl
set_option Elab.async false
set_option linter.all false
set_option maxRecDepth 100000
set_option maxHeartbeats 2000000
namespace Dl
open PySem PySem.Spec PyProof.Rows L2 SlX Rm
section
variable {K : PySem.W.Frag} {δ : Option Addr} {H0 : Hp} {ρ : List Sl}
theorem ix_seqK {X : Cx} {K : PySem.W.Frag} (h : X.K = K := by rfl) : IxR X (rIx K) := h ▸ ix_seq
theorem PE.fixK {X : Cx} {e : Expr} {te te' : TE} (h : PE X e te) (q : te = te') : PE X e te' := q ▸ h
/-- over a list of one kind: one name -/
theorem en_map {α : Type} {wi : TI} {te : TE} {i : Nat} {as : List α} {e : α → D} (hw : WI K δ H0 wi ρ (as.map e)) (f : α → PyData) (hl : as.length ≤ 100000)
    (hs : ∀ a, a ∈ as → ED K δ H0 te ((wipeS ρ [i]).set i (.fz (e a))) (.py (f a))) : EN K δ H0 (tLc wi (gName i) tYes te [i]) ρ (as.map f) :=
  enp_lc hw (fun d => (wipeS ρ [i]).set i (.fz d)) (fun n acc => acc = (as.take n).map f) (by rw [List.take_zero]; rfl) (fun d _ => gd_name) (fun j hj => hj) (by rw [List.length_map]; exact hl)
    (fun n d acc hd h => bp_yes (by
      rw [if_pos rfl]
      rw [List.getElem?_map] at hd
      cases q : as[n]? with
      | none => rw [q] at hd; cases hd
      | some a =>
        rw [q] at hd
        cases hd
        refine (hs a (List.mem_of_getElem? q)).ep ⟨_, rfl, ?_⟩
        rw [h, List.take_succ, q, List.map_append]; rfl)) (fun acc h => by rw [h, List.length_map, List.take_length])
theorem zipD_map {α β : Type} (ea : α → PyData) (eb : β → PyData) (as : List α) (bs : List β) : zipD (as.map ea) (bs.map eb) = (as.zip bs).map fun p => D.py (.tuple [ea p.1, eb p.2]) := by
  unfold zipD
  rw [List.zip_map, List.map_map]; rfl
/-- the names of a pair -/
def prS (ρ : List Sl) (i j : Nat) : D → List Sl
  | .py (.tuple [u, v]) => ((wipeS ρ [i, j]).set i (.fz (.py u))).set j (.fz (.py v))
  | _ => ρ
/-- over pairs -/
theorem en_zip {α β : Type} {wi : TI} {te : TE} {i j : Nat} {as : List α} {bs : List β} {ea : α → PyData} {eb : β → PyData} (hw : WI K δ H0 wi ρ (zipD (as.map ea) (bs.map eb))) (f : α → β → PyData) (hl : as.length ≤ 100000)
    (hs : ∀ a b, (a, b) ∈ as.zip bs → ED K δ H0 te (((wipeS ρ [i, j]).set i (.fz (.py (ea a)))).set j (.fz (.py (eb b)))) (.py (f a b))) :
    EN K δ H0 (tLc wi (gTup K 2 (gCons (gName i) (gCons (gName j) gNil))) tYes te [i, j]) ρ ((as.zip bs).map fun p => f p.1 p.2) := by
  rw [zipD_map] at hw
  refine enp_lc hw (prS ρ i j) (fun n acc => acc = ((as.zip bs).take n).map fun p => f p.1 p.2) (by rw [List.take_zero]; rfl) (fun d hd => ?_) (fun j hj => hj) (by rw [List.length_map, List.length_zip]; omega)
    (fun n d acc hd h => bp_yes ?_) (fun acc h => by rw [h, List.length_map, List.take_length])
  · obtain ⟨p, _, e⟩ := List.mem_map.mp hd
    subst e
    exact gd_two
  · rw [if_pos rfl]
    rw [List.getElem?_map] at hd
    cases q : (as.zip bs)[n]? with
    | none => rw [q] at hd; cases hd
    | some a =>
      rw [q] at hd
      cases hd
      refine (hs a.1 a.2 (List.mem_of_getElem? q)).ep ⟨_, rfl, ?_⟩
      rw [h, List.take_succ, q, List.map_append]; rfl
/-- the names of a triple -/
def trS (ρ : List Sl) (i j l : Nat) : D → List Sl
  | .py (.tuple [u, v, x]) => (((wipeS ρ [i, j, l]).set i (.fz (.py u))).set j (.fz (.py v))).set l (.fz (.py x))
  | _ => ρ
theorem zip3D_map {α β γ : Type} (ea : α → PyData) (eb : β → PyData) (ec : γ → PyData) (as : List α) (bs : List β) (cs : List γ) :
    zip3D (as.map ea) (bs.map eb) (cs.map ec) = (as.zip (bs.zip cs)).map fun p => D.py (.tuple [ea p.1, eb p.2.1, ec p.2.2]) := by
  unfold zip3D
  rw [List.zip_map, List.zip_map, List.map_map]; rfl
/-- over triples -/
theorem en_zip3 {α β γ : Type} {wi : TI} {te : TE} {i j l : Nat} {as : List α} {bs : List β} {cs : List γ} {ea : α → PyData} {eb : β → PyData} {ec : γ → PyData} (hw : WI K δ H0 wi ρ (zip3D (as.map ea) (bs.map eb) (cs.map ec))) (f : α → β → γ → PyData) (hl : as.length ≤ 100000)
    (hs : ∀ a b c, (a, b, c) ∈ as.zip (bs.zip cs) → ED K δ H0 te ((((wipeS ρ [i, j, l]).set i (.fz (.py (ea a)))).set j (.fz (.py (eb b)))).set l (.fz (.py (ec c)))) (.py (f a b c))) :
    EN K δ H0 (tLc wi (gTup K 3 (gCons (gName i) (gCons (gName j) (gCons (gName l) gNil)))) tYes te [i, j, l]) ρ ((as.zip (bs.zip cs)).map fun p => f p.1 p.2.1 p.2.2) := by
  rw [zip3D_map] at hw
  refine enp_lc hw (trS ρ i j l) (fun n acc => acc = ((as.zip (bs.zip cs)).take n).map fun p => f p.1 p.2.1 p.2.2) (by rw [List.take_zero]; rfl) (fun d hd => ?_) (fun j hj => hj) (by rw [List.length_map, List.length_zip]; omega)
    (fun n d acc hd h => bp_yes ?_) (fun acc h => by rw [h, List.length_map, List.take_length])
  · obtain ⟨p, _, e⟩ := List.mem_map.mp hd
    subst e
    exact gd_three
  · rw [if_pos rfl]
    rw [List.getElem?_map] at hd
    cases q : (as.zip (bs.zip cs))[n]? with
    | none => rw [q] at hd; cases hd
    | some a =>
      rw [q] at hd
      cases hd
      refine (hs a.1 a.2.1 a.2.2 (List.mem_of_getElem? q)).ep ⟨_, rfl, ?_⟩
      rw [h, List.take_succ, q, List.map_append]; rfl
theorem cut_last {α : Type} (xs : List α) : cutP xs none (some (-1)) = xs.dropLast := by
  show (xs.drop 0).take ((if (-1 : Int) < 0 then (-1 + (xs.length : Int)).toNat else min (-1 : Int).toNat xs.length) - 0) = _
  rw [if_pos (by decide), List.drop_zero, List.dropLast_eq_take]
  exact congrArg (fun n => xs.take n) (by omega)
theorem wi_listM {α : Type} {as : List α} {f : α → PyData} {tl : TE} (h : ED K δ H0 tl ρ (.py (.list (as.map f)))) : WI K δ H0 (iList K tl) ρ (as.map fun a => D.py (f a)) := by
  have z := wi_list h
  rw [List.map_map] at z
  exact z
theorem wi_tupM {α : Type} {as : List α} {f : α → PyData} {tl : TE} (h : ED K δ H0 tl ρ (.py (.tuple (as.map f)))) : WI K δ H0 (iTup K tl) ρ (as.map fun a => D.py (f a)) := by
  have z := wi_tup h
  rw [List.map_map] at z
  exact z
theorem at_last {α : Type} {f : α → PyData} {l : List α} {v : α} (h : l[l.length - 1]? = some v) : atI (l.map f) (-1) = some (f v) := by
  have hl : l.length - 1 < l.length := (List.getElem?_eq_some_iff.mp h).1
  unfold atI ixN
  rw [List.length_map, if_neg (by decide)]
  have e : ((-1 : Int) + (l.length : Int)) = ((l.length - 1 : Nat) : Int) := by omega
  simp only [e]
  rw [if_pos (by omega)]
  show (l.map f)[_]? = _
  rw [Int.toNat_natCast, List.getElem?_map, h]; rfl
theorem ad_one {te : TE} {t : TA} {d : D} {xs : List PyData} (h : ED K δ H0 te ρ d) (hx : EL K δ H0 te2 ρ xs) (ht : AD K δ H0 t ρ []) : AD K δ H0 (tCons te (StX.tStar K te2 t)) ρ (d :: xs.map .py) := by
  have z := ad_cons h (ad_star hx ht)
  rw [List.append_nil] at z
  exact z
theorem en_init {α : Type} {f : α → PyData} {l : List α} {te : TE} {tl th : TO} (h : EL K δ H0 te ρ (l.map f)) (hl : OD K δ H0 tl ρ none) (hh : OD K δ H0 th ρ (some (-1))) : EN K δ H0 (L2.tSl (rSlL K) te tl th) ρ (l.dropLast.map f) := by
  have z := en_slL h hl hh
  rw [cutP_map, cut_last] at z
  exact z
end
end Dl
set_option linter.unusedSectionVars false
set_option linter.unusedVariables false
namespace Rm
/-! ### digits, as the program and as the law count with them -/
def digI (k : Fq) (x : El k) : List Int := (List.range k.t).map fun i => ((x.v / k.p ^ i % k.p : Nat) : Int)
def elemI (k : Fq) (ds : List Int) : Int := ds.reverse.foldl (fun f d => f * (k.p : Int) + d % (k.p : Int)) 0
def carI : Fq → Option (List Int)
  | .f4 => some [1, 1]
  | .f8 => some [1, 1, 0]
  | .f9 => some [2, 0]
  | _ => none
def lastI (l : List Int) : Int := l.getD (l.length - 1) 0
/-- one factor digit taken in -/
def prStep (car digits found : List Int) (factor : Int) : List Int :=
  ((0 :: found.dropLast).zip ((car.map fun d => lastI found * d).zip digits)).map fun p => p.1 + p.2.1 + factor * p.2.2
def prDig (k : Fq) (car : List Int) (x y : El k) : List Int := (digI k y).reverse.foldl (prStep car (digI k x)) (List.replicate k.t 0)
theorem sum_ok : ∀ (k : Fq) (x y : El k), elemI k (((digI k x).zip (digI k y)).map fun p => p.1 + p.2) = ((x + y).v : Int) := by intro k; cases k <;> decide +kernel
theorem prod_ok : ∀ (k : Fq) (x y : El k), (match carI k with | some car => elemI k (prDig k car x y) | none => ((x.v * y.v % k.n : Nat) : Int)) = ((x * y).v : Int) := by intro k; cases k <;> decide +kernel
theorem pt_n : ∀ k : Fq, k.p ^ k.t = k.n ∧ 2 ≤ k.p ∧ k.p ≤ 7 ∧ k.t ≤ 3 ∧ 1 ≤ k.t := by intro k; cases k <;> decide
theorem car_len : ∀ (k : Fq) (c : List Int), carI k = some c → c.length = k.t := by intro k; cases k <;> decide +kernel
/-! ### the law's own product -/
def convI (a b : List Int) : List Int := (List.range (2 * a.length - 1)).map fun k => (List.range (k + 1)).foldl (fun t i => t + a.getD i 0 * b.getD (k - i) 0) 0
def prAt (k : Fq) (car : List Int) (x y : El k) (i : Nat) : List Int := ((digI k y).reverse.take i).foldl (prStep car (digI k x)) (List.replicate k.t 0)
theorem dig_len (k : Fq) (x : El k) : (digI k x).length = k.t := by unfold digI; rw [List.length_map, List.length_range]
theorem prStep_len {t : Nat} {car ds f : List Int} {v : Int} (h0 : 1 ≤ t) (h1 : car.length = t) (h2 : ds.length = t) (h3 : f.length = t) : (prStep car ds f v).length = t := by
  unfold prStep
  rw [List.length_map, List.length_zip, List.length_zip, List.length_cons, List.length_dropLast, List.length_map]
  omega
theorem prAt_succ {k : Fq} {car : List Int} {x y : El k} {i : Nat} {v : Int} (h : (digI k y).reverse[i]? = some v) : prAt k car x y (i + 1) = prStep car (digI k x) (prAt k car x y i) v := by
  unfold prAt
  rw [List.take_succ, h, List.foldl_append]; rfl
theorem prAt_len {k : Fq} {car : List Int} (hc : carI k = some car) (x y : El k) : ∀ i, (prAt k car x y i).length = k.t := by
  intro i
  unfold prAt
  have h0 : ∀ (l : List Int) (f : List Int), f.length = k.t → (l.foldl (prStep car (digI k x)) f).length = k.t := by
    intro l
    induction l with
    | nil => intro f hf; exact hf
    | cons v l ih => intro f hf; exact ih _ (prStep_len (pt_n k).2.2.2.2 (car_len k car hc) (dig_len k x) hf)
  exact h0 _ _ List.length_replicate
theorem prAt_end {k : Fq} {car : List Int} (x y : El k) : prAt k car x y k.t = prDig k car x y := by
  unfold prAt prDig
  rw [List.take_of_length_le (by rw [List.length_reverse, dig_len]; exact Nat.le_refl _)]
theorem prod_car {k : Fq} {car : List Int} (hc : carI k = some car) (x y : El k) : elemI k (prDig k car x y) = ((x * y).v : Int) := by have h := prod_ok k x y; rw [hc] at h; exact h
theorem prod_mod {k : Fq} (hc : carI k = none) (x y : El k) : (x.v : Int) * (y.v : Int) % (k.n : Int) = ((x * y).v : Int) := by
  have h := prod_ok k x y
  rw [hc] at h
  rw [← h]
  exact (by rw [Int.natCast_emod, Int.natCast_mul])
end Rm
set_option Elab.async false
set_option linter.all false
set_option maxRecDepth 100000
set_option maxHeartbeats 2000000
namespace Dl
open PySem PySem.Spec PyProof.Rows L2 SlX Rm
/-! ### the same rules, K told: inside a comprehension -/
section
variable {X : Cx} {K : PySem.W.Frag}
theorem callK {b : Value} (r : PySem.W.Frag → List V → Hp → VK → Prop) (h : CallR X b (r X.K)) (e : X.K = K := by rfl) : CallR X b (r K) := e ▸ h
theorem opK {f : Value → Value → Sem Value} (r : PySem.W.Frag → R2) (h : OpR X f (r X.K)) (e : X.K = K := by rfl) : OpR X f (r K) := e ▸ h
theorem slK (r : PySem.W.Frag → V → Option Int → Option Int → Hp → VK → Prop) (h : L2.SlR X (r X.K)) (e : X.K = K := by rfl) : L2.SlR X (r K) := e ▸ h
theorem mtK {id : String} (r : PySem.W.Frag → V → List V → Hp → VK → Prop) (h : MtR X id (r X.K)) (e : X.K = K := by rfl) : MtR X id (r K) := e ▸ h
theorem pi_listK {tg l : Expr} {tl : TE} (hl : PE X l tl) (e : X.K = K := by rfl) : PI X tg l (iList K tl) := e ▸ pi_list hl
theorem pi_tupK {tg l : Expr} {tl : TE} (hl : PE X l tl) (e : X.K = K := by rfl) : PI X tg l (iTup K tl) := e ▸ pi_tup hl
theorem pi_zipK {e e2 : Expr} {ta : TA} {p pos tpos : Pos} {elts : List Expr} {kk : Nat} (hg : Gl X "zip") (hm : X.mg "zip" = none) (ha : PA X [e, e2] ta) (q : X.K = K := by rfl)
    (hs : starEach [e, e2] X.env = (false, eval e X.env) :: starEach [e2] X.env := by rfl) (hpl : (backTo pos (starEach [e2] X.env)).any (·.1) = false := by rfl) : PI X (.Tuple elts kk tpos) (.Call (.Name "zip" p) [e, e2] [] pos) (RZ.iZipA K ta) := q ▸ RZ.pi_zipA hg hm ha hs hpl
theorem pe_slK {e : Expr} {ta : TE} {f : Str} {pos : Pos} (he : PE X e ta) (q : X.K = K := by rfl) (hb : attributeBase e f X.env (eval e X.env) = eval e X.env := by rfl) : PE X (.Attribute e f pos) (SlX.tSl K ta f) := q ▸ pe_sl he hb
section
variable {e : Expr} {es : List Expr} {t : TA} {x m : Str} {p pos : Pos} {j k : Nat} {C : Con}
theorem pe_foK (G : FO X.prog X.w X.K X.mg X.base j x C) (hr : Room k X.A) (hjk : j ≤ k) (hg : Gl X x) (ha : PA X (e :: es) t) (q : X.K = K := by rfl) (hdb : (x == ("__debug__" : Str)) = false := by decide)
    (he : starEach (e :: es) X.env = (false, eval e X.env) :: starEach es X.env := by rfl) (hpl : (backTo pos (starEach es X.env)).any (·.1) = false := by rfl) :
    PE X (.Call (.Name x p) (e :: es) [] pos) (tCall (spD K C) [] E0 t) := q ▸ pe_fo G hr hjk hg ha hdb he hpl
theorem pe_coK (G : CO X.prog X.w X.K X.mg X.base j x C) (hr : Room k X.A) (hjk : j + 1 ≤ k) (hg : Gl X x) (ha : PA X (e :: es) t) (q : X.K = K := by rfl) (hdb : (x == ("__debug__" : Str)) = false := by decide)
    (he : starEach (e :: es) X.env = (false, eval e X.env) :: starEach es X.env := by rfl) (hpl : (backTo pos (starEach es X.env)).any (·.1) = false := by rfl) :
    PE X (.Call (.Name x p) (e :: es) [] pos) (tMake (He.ga K x) (spI K (He.ga K x) C) [] E0 t) := q ▸ pe_co G hr hjk hg ha hdb he hpl
theorem op_inOK (G : MO X.prog X.w X.K X.mg X.base j x "__contains__" C) (hr : Room k X.A) (hjk : j ≤ k) (q : X.K = K := by rfl) : OpR X (compareOp .In) (rInOwn (He.ga K x) false (spD K C) E0) := q ▸ op_inO G hr hjk
theorem op_notInOK (G : MO X.prog X.w X.K X.mg X.base j x "__contains__" C) (hr : Room k X.A) (hjk : j ≤ k) (q : X.K = K := by rfl) : OpR X (compareOp .NotIn) (rInOwn (He.ga K x) true (spD K C) E0) := q ▸ op_notInO G hr hjk
end
section
variable {o e : Expr} {es : List Expr} {to : TE} {t : TA} {name : Str} {apos cpos : Pos} {T id : String} {r : V → List V → Hp → VK → Prop}
theorem pe_bmK (pa : PlainAttrs T) (slot : Slot T name id) (hty : typeOf (.builtin id) = pure (.type "method_descriptor")) (hm : MtR X id r) (ho : PE X o to) (ha : PA X (e :: es) t) (q : X.K = K := by rfl) (hbase : attributeBase o name X.env (eval o X.env) = eval o X.env := by rfl)
    (hfew : ((backTo cpos (starEach (e :: es) X.env)).all (fun x => !x.1) && (backToKw cpos (keywordEach [] X.env)).all (fun x => x.1.isSome) && decide ((e :: es).length + ([] : List Keyword).length + (if ([] : List Keyword).isEmpty then 0 else 1) < 30)) = true := by rfl)
    (hline : (apos.endLine == cpos.line) = true := by rfl) (hs : starEach (e :: es) X.env = (false, eval e X.env) :: starEach es X.env := by rfl) (hplain : (backTo cpos (starEach es X.env)).any (·.1) = false := by rfl) : PE X (.Call (.Attribute o name apos) (e :: es) [] cpos) (tBM K T r to t) := q ▸ pe_bm pa slot hty hm ho ha hbase hfew hline hs hplain
theorem pe_tmK (pa : PlainAttrs "tuple") (slot : Slot "tuple" name id) (hty : typeOf (.builtin id) = pure (.type "method_descriptor")) (hm : MtR X id r) (ho : PE X o to) (ha : PA X (e :: es) t) (q : X.K = K := by rfl) (hbase : attributeBase o name X.env (eval o X.env) = eval o X.env := by rfl)
    (hfew : ((backTo cpos (starEach (e :: es) X.env)).all (fun x => !x.1) && (backToKw cpos (keywordEach [] X.env)).all (fun x => x.1.isSome) && decide ((e :: es).length + ([] : List Keyword).length + (if ([] : List Keyword).isEmpty then 0 else 1) < 30)) = true := by rfl)
    (hline : (apos.endLine == cpos.line) = true := by rfl) (hs : starEach (e :: es) X.env = (false, eval e X.env) :: starEach es X.env := by rfl) (hplain : (backTo cpos (starEach es X.env)).any (·.1) = false := by rfl) : PE X (.Call (.Attribute o name apos) (e :: es) [] cpos) (tTM K r to t) := q ▸ pe_tm pa slot hty hm ho ha hbase hfew hline hs hplain
end
/-- either a list or a tuple -/
def iAny (K : PySem.W.Frag) (tl : TE) : TI := fun σ H R => iList K tl σ H R ∨ iTup K tl σ H R
theorem pi_any {tg l : Expr} {tl : TE} (hl : PE X l tl) : PI X tg l (iAny X.K tl) := ⟨fun pins s σ H R I h => h.elim ((pi_list hl).run pins s σ H R I) ((pi_tup hl).run pins s σ H R I)⟩
end
/-! ### rules for rows, lists of rows, ints -/
section
variable {K : PySem.W.Frag} {mg : Str → Option Value} {δ : Option Addr} {F0 H0 : Hp} {ρ : List Sl} {ta tb tc te tl : TE} {wi : TI} {d : D} {k : Fq} {x1 y1 : El k} {x y r : List (El k)} {rs qs : List (List (El k))} {E : En} {t : TS} {ar : TA}
theorem EN.to {xs ys : List PyData} (h : EN K δ H0 te ρ xs) (e : xs = ys) : EN K δ H0 te ρ ys := e ▸ h
theorem EL.to {xs ys : List PyData} (h : EL K δ H0 te ρ xs) (e : xs = ys) : EL K δ H0 te ρ ys := e ▸ h
theorem inV_ints (i : Int) (ns : List Int) : inV (.int i) (ns.map V.int) = decide (i ∈ ns) := by
  unfold inV
  rw [List.any_map]
  show (ns.any fun n => n == i) = _
  rw [Bool.eq_iff_iff]
  simp [List.any_eq_true]
theorem ed_inTI {ns : List Int} {i : Int} (hi : ED K δ H0 ta ρ (.py (.int i))) (h : ED K δ H0 tb ρ (.py (.tuple (ns.map .int)))) : ED K δ H0 (tOp (rIn K false) ta tb) ρ (.py (.bool (decide (i ∈ ns)))) :=
  ed_op hi h fun F H v w Q wd r1 r2 q => by
    have e1 := rep_int r1
    subst e1
    obtain ⟨a, vs, rfl, sq, dp⟩ := rep_tup r2
    have e2 := dpa_ints dp
    subst e2
    refine ⟨a, _, rfl, .inr (wd.fh.sqt sq), rfl, flat_ints ns, q _ F H wd.refl (.py ?_)⟩
    rw [inV_ints]; exact .bl _
theorem ed_notInTI {ns : List Int} {i : Int} (hi : ED K δ H0 ta ρ (.py (.int i))) (h : ED K δ H0 tb ρ (.py (.tuple (ns.map .int)))) : ED K δ H0 (tOp (rIn K true) ta tb) ρ (.py (.bool (!decide (i ∈ ns)))) :=
  ed_op hi h fun F H v w Q wd r1 r2 q => by
    have e1 := rep_int r1
    subst e1
    obtain ⟨a, vs, rfl, sq, dp⟩ := rep_tup r2
    have e2 := dpa_ints dp
    subst e2
    refine ⟨a, _, rfl, .inr (wd.fh.sqt sq), rfl, flat_ints ns, q _ F H wd.refl (.py ?_)⟩
    rw [inV_ints]; exact .bl _
/-! ### walks -/
theorem rngD01 (n : Nat) : rngD 0 1 n = (List.range n).map fun (i : Nat) => I (i : Int) := by
  unfold rngD
  refine List.map_congr_left fun i _ => ?_
  show D.py (.int (0 + (i : Int) * 1)) = D.py (.int (i : Int))
  rw [Int.mul_one, Int.zero_add]
theorem rngDlo (lo n : Nat) : rngD (lo : Int) 1 n = (List.range n).map fun (i : Nat) => I ((lo + i : Nat) : Int) := by
  unfold rngD
  refine List.map_congr_left fun i _ => ?_
  show D.py (.int ((lo : Int) + (i : Int) * 1)) = D.py (.int ((lo + i : Nat) : Int))
  rw [Int.mul_one, Int.natCast_add]
theorem wi_rngN {n : Nat} (h : AD K δ H0 ar ρ [.py (.int (n : Int))]) (hn : n ≤ 100000) : WI K δ H0 (iRng1 ar) ρ ((List.range n).map fun (i : Nat) => I (i : Int)) := by
  have z := wi_rng1 h ⟨by omega, by omega⟩
  rw [Int.toNat_natCast, rngD01] at z
  exact z
theorem wi_rngLo {lo n : Nat} (h : AD K δ H0 ar ρ [.py (.int (lo : Int)), .py (.int (n : Int))]) (hl : lo ≤ 100000) (hn : n ≤ 100000) : WI K δ H0 (iRng2 ar) ρ ((List.range (n - lo)).map fun (i : Nat) => I ((lo + i : Nat) : Int)) := by
  have z := wi_rng2 h ⟨by omega, by omega, by omega, by omega⟩
  have e : ((n : Int) - (lo : Int)).toNat = n - lo := by omega
  rw [e, rngDlo] at z
  exact z
theorem sd_forM {α : Type} {as : List α} {e : α → D} {j : Nat} (hw : WI K δ H0 wi ρ (as.map e)) (J : Nat → List Sl → Prop) (h0 : J 0 ρ)
    (hs : ∀ i a ρ1, as[i]? = some a → J i ρ1 → SD K δ F0 H0 t (ρ1.set j (.fz (e a))) { E with N := J (i + 1), C := J (i + 1), B := E.N })
    (hd : ∀ ρ1, J as.length ρ1 → E.N ρ1) : SD K δ F0 H0 (tFor wi (gName j) t) ρ E :=
  sd_forN hw J h0 (fun i d ρ1 h p => by
    rw [List.getElem?_map] at h
    cases q : as[i]? with
    | none => rw [q] at h; cases h
    | some a => rw [q] at h; cases h; exact hs i a ρ1 q p) (fun ρ1 p => hd ρ1 (by rw [List.length_map] at p; exact p))
theorem rng_get {n i a : Nat} (h : (List.range n)[i]? = some a) : i < n ∧ a = i := by
  obtain ⟨hl, e⟩ := List.getElem?_eq_some_iff.mp h
  rw [List.length_range] at hl
  rw [List.getElem_range] at e
  exact ⟨hl, e.symm⟩
theorem sd_forR {n j : Nat} (h : AD K δ H0 ar ρ [.py (.int (n : Int))]) (hn : n ≤ 100000) (J : Nat → List Sl → Prop) (h0 : J 0 ρ)
    (hs : ∀ i ρ1, i < n → J i ρ1 → SD K δ F0 H0 t (ρ1.set j (.fz (I (i : Int)))) { E with N := J (i + 1), C := J (i + 1), B := E.N })
    (hd : ∀ ρ1, J n ρ1 → E.N ρ1) : SD K δ F0 H0 (tFor (iRng1 ar) (gName j) t) ρ E :=
  sd_forM (wi_rngN h hn) J h0 (fun i a ρ1 q p => by
    obtain ⟨hi, rfl⟩ := rng_get q
    exact hs a ρ1 hi p) (fun ρ1 p => hd ρ1 (by rw [List.length_range] at p; exact p))
theorem sd_forRL {lo n j : Nat} (h : AD K δ H0 ar ρ [.py (.int (lo : Int)), .py (.int (n : Int))]) (hl : lo ≤ 100000) (hn : n ≤ 100000) (J : Nat → List Sl → Prop) (h0 : J 0 ρ)
    (hs : ∀ i ρ1, i < n - lo → J i ρ1 → SD K δ F0 H0 t (ρ1.set j (.fz (I ((lo + i : Nat) : Int)))) { E with N := J (i + 1), C := J (i + 1), B := E.N })
    (hd : ∀ ρ1, J (n - lo) ρ1 → E.N ρ1) : SD K δ F0 H0 (tFor (iRng2 ar) (gName j) t) ρ E :=
  sd_forM (wi_rngLo h hl hn) J h0 (fun i a ρ1 q p => by
    obtain ⟨hi, rfl⟩ := rng_get q
    exact hs a ρ1 hi p) (fun ρ1 p => hd ρ1 (by rw [List.length_range] at p; exact p))
/-- the names of a pair, nothing wiped -/
def pr2 (ρ : List Sl) (i j : Nat) : D → List Sl
  | .py (.tuple [u, v]) => (ρ.set i (.fz (.py u))).set j (.fz (.py v))
  | _ => ρ
theorem sd_forP {α : Type} {as : List α} {ea eb : α → PyData} {i j : Nat} (hw : WI K δ H0 wi ρ (as.map fun a => D.py (.tuple [ea a, eb a]))) (J : Nat → List Sl → Prop) (h0 : J 0 ρ)
    (hs : ∀ n a ρ1, as[n]? = some a → J n ρ1 → SD K δ F0 H0 t ((ρ1.set i (.fz (.py (ea a)))).set j (.fz (.py (eb a)))) { E with N := J (n + 1), C := J (n + 1), B := E.N })
    (hd : ∀ ρ1, J as.length ρ1 → E.N ρ1) : SD K δ F0 H0 (tFor wi (gTup K 2 (gCons (gName i) (gCons (gName j) gNil))) t) ρ E := by
  refine sd_for (js := [i, j]) hw J (fun _ d ρ1 => pr2 ρ1 i j d) h0 (fun n d ρ1 h p => ?_) (fun n d ρ1 h p => ?_) (fun ρ1 p => hd ρ1 (by rw [List.length_map] at p; exact p))
  all_goals
    rw [List.getElem?_map] at h
    cases q : as[n]? with
    | none => rw [q] at h; cases h
    | some a =>
      rw [q] at h
      cases h
      first | exact gd_two | exact hs n a ρ1 q p
theorem enumD_map {α : Type} (f : α → PyData) (as : List α) : enumD (as.map f) = (as.zipIdx.map fun p => D.py (.tuple [.int ((p.2 : Nat) : Int), f p.1])) := by
  refine List.ext_getElem? fun i => ?_
  cases q : as[i]? with
  | none =>
    have h := List.getElem?_eq_none_iff.mp q
    rw [List.getElem?_eq_none (by rw [enumD_len, List.length_map]; exact h), List.getElem?_eq_none (by rw [List.length_map, List.length_zipIdx]; exact h)]
  | some a =>
    rw [enumD_get (x := f a) (by rw [List.getElem?_map, q]; rfl), List.getElem?_map, List.getElem?_zipIdx, q]
    show some _ = some (D.py (.tuple [.int ((0 + i : Nat) : Int), f a]))
    rw [Nat.zero_add]
theorem zipIdx_get {α : Type} {as : List α} {n : Nat} {p : α × Nat} (h : as.zipIdx[n]? = some p) : as[n]? = some p.1 ∧ p.2 = n := by
  rw [List.getElem?_zipIdx] at h
  cases q : as[n]? with
  | none => rw [q] at h; cases h
  | some a => rw [q] at h; cases h; exact ⟨rfl, Nat.zero_add n⟩
/-- for i, x in enumerate -/
theorem sd_forE {α : Type} {as : List α} {f : α → PyData} {i j : Nat} (hw : WI K δ H0 wi ρ (enumD (as.map f))) (J : Nat → List Sl → Prop) (h0 : J 0 ρ)
    (hs : ∀ n a ρ1, as[n]? = some a → J n ρ1 → SD K δ F0 H0 t ((ρ1.set i (.fz (I (n : Int)))).set j (.fz (.py (f a)))) { E with N := J (n + 1), C := J (n + 1), B := E.N })
    (hd : ∀ ρ1, J as.length ρ1 → E.N ρ1) : SD K δ F0 H0 (tFor wi (gTup K 2 (gCons (gName i) (gCons (gName j) gNil))) t) ρ E := by
  rw [enumD_map] at hw
  refine sd_forP (as := as.zipIdx) (ea := fun (p : α × Nat) => .int ((p.2 : Nat) : Int)) (eb := fun (p : α × Nat) => f p.1) hw J h0 (fun n p ρ1 h q => ?_) (fun ρ1 p => hd ρ1 (by rw [List.length_zipIdx] at p; exact p))
  obtain ⟨h1, h2⟩ := zipIdx_get h
  have z := hs n p.1 ρ1 h1 q
  rw [h2]; exact z
/-- for a, b in zip -/
theorem sd_forZ {α β : Type} {as : List α} {bs : List β} {f : α → PyData} {g : β → PyData} {i j : Nat} (hw : WI K δ H0 wi ρ (zipD (as.map f) (bs.map g))) (J : Nat → List Sl → Prop) (h0 : J 0 ρ)
    (hs : ∀ n a b ρ1, (as.zip bs)[n]? = some (a, b) → J n ρ1 → SD K δ F0 H0 t ((ρ1.set i (.fz (.py (f a)))).set j (.fz (.py (g b)))) { E with N := J (n + 1), C := J (n + 1), B := E.N })
    (hd : ∀ ρ1, J (as.zip bs).length ρ1 → E.N ρ1) : SD K δ F0 H0 (tFor wi (gTup K 2 (gCons (gName i) (gCons (gName j) gNil))) t) ρ E := by
  rw [zipD_map] at hw
  exact sd_forP (as := as.zip bs) (ea := fun (p : α × β) => f p.1) (eb := fun (p : α × β) => g p.2) hw J h0 (fun n p ρ1 h q => hs n p.1 p.2 ρ1 h q) hd
/-! ### all, any -/
theorem ed_allM {α : Type} {as : List α} {g : α → Bool} (h : EN K δ H0 te ρ (as.map fun a => .bool (g a))) : ED K δ H0 (tCB (rAll K) (tCons te tNil)) ρ (.py (.bool (as.all g))) :=
  (ed_all (bs := as.map g) ((el_en h).to (by rw [List.map_map]; rfl))).to (by rw [List.all_map]; rfl)
theorem ed_anyM {α : Type} {as : List α} {g : α → Bool} (h : EN K δ H0 te ρ (as.map fun a => .bool (g a))) : ED K δ H0 (tCB (rAny K) (tCons te tNil)) ρ (.py (.bool (as.any g))) :=
  (ed_any (bs := as.map g) ((el_en h).to (by rw [List.map_map]; rfl))).to (by rw [List.any_map]; rfl)
/-! ### rows -/
theorem rP_eq (r : List (El k)) : rP r = .tuple (r.map inP) := by
  show PyData.tuple _ = _
  rw [List.map_map]; rfl
theorem wi_row (h : ED K δ H0 tl ρ (.py (rP r))) : WI K δ H0 (iTup K tl) ρ (r.map fun a => D.py (inP a)) := wi_tupM (f := inP) (h.to (by rw [rP_eq]))
theorem wi_rows (h : ED K δ H0 tl ρ (.py (rsP rs))) : WI K δ H0 (iTup K tl) ρ (rs.map fun r => D.py (rP r)) := wi_tupM h
theorem wi_zipRow (h : ED K δ H0 ta ρ (.py (rP x))) (h2 : ED K δ H0 tb ρ (.py (rP y))) : WI K δ H0 (RZ.iZipA K (tCons ta (tCons tb tNil))) ρ (zipD (x.map inP) (y.map inP)) := wi_zipT (h.to (by rw [rP_eq])) (h2.to (by rw [rP_eq]))
theorem wi_enumRow (h : ED K δ H0 te ρ (.py (rP r))) : WI K δ H0 (iEnumT K (tCons te tNil)) ρ (enumD (r.map inP)) := wi_enumT (h.to (by rw [rP_eq]))
theorem ed_tupRow (h : EN K δ H0 te ρ (r.map inP)) : ED K δ H0 (tCB (rTupOf K) (tCons te tNil)) ρ (.py (rP r)) := (ed_tupL (el_en h)).to (by rw [rP_eq])
theorem ed_tupRows (h : EN K δ H0 te ρ (rs.map rP)) : ED K δ H0 (tCB (rTupOf K) (tCons te tNil)) ρ (.py (rsP rs)) := ed_tupL (el_en h)
theorem ed_lenRow (h : ED K δ H0 te ρ (.py (rP r))) : ED K δ H0 (tCB (rLenSeq K) (tCons te tNil)) ρ (.py (.int (r.length : Int))) := (ed_lenT h).to (by rw [List.length_map, List.length_map])
theorem ed_lenRs (h : ED K δ H0 te ρ (.py (rsP rs))) : ED K δ H0 (tCB (rLenSeq K) (tCons te tNil)) ρ (.py (.int (rs.length : Int))) := (ed_lenT h).to (by rw [List.length_map])
theorem ed_catRow (ha : ED K δ H0 ta ρ (.py (rP x))) (hb : ED K δ H0 tb ρ (.py (rP y))) (hz : x.length + y.length ≤ 100000) : ED K δ H0 (tOp (rCatA K) ta tb) ρ (.py (rP (x ++ y))) :=
  (ed_catT ha hb (by simp only [List.length_map]; exact hz)).to (by show D.py (.tuple _) = D.py (.tuple _); rw [List.map_append, List.map_append])
theorem ed_catRs (ha : ED K δ H0 ta ρ (.py (rsP rs))) (hb : ED K δ H0 tb ρ (.py (rsP qs))) (hz : rs.length + qs.length ≤ 100000) : ED K δ H0 (tOp (rCatA K) ta tb) ρ (.py (rsP (rs ++ qs))) :=
  (ed_catT ha hb (by simp only [List.length_map]; exact hz)).to (by show D.py (.tuple _) = D.py (.tuple _); rw [List.map_append])
theorem ed_slRow {tl th : TO} {lo hi : Option Int} (h : ED K δ H0 te ρ (.py (rP r))) (hl : OD K δ H0 tl ρ lo) (hh : OD K δ H0 th ρ hi) : ED K δ H0 (L2.tSl (rSlA K) te tl th) ρ (.py (rP (cutP r lo hi))) :=
  (ed_slT h hl hh).to (by rw [cutP_map, cutP_map])
theorem ed_zeros {n : Nat} (hb : ED K δ H0 tb ρ (.py (.int (n : Int)))) (hn : n ≤ 1000) : ED K δ H0 (tOp (rRepA K) (tTup (tCons (tC (.int 0)) tNil)) tb) ρ (.py (rP (zr n : List (El k)))) :=
  (ed_rep1 (d := .int 0) (ed_tup (ds := [.int 0]) (ad_cons ed_int ap_nil) (by decide)) hb hn).to (by
    show D.py (.tuple _) = D.py (.tuple _)
    unfold zr
    rw [List.map_replicate, List.map_replicate, inI_0])
theorem ed_rsAt {i : Nat} (ha : ED K δ H0 ta ρ (.py (rsP rs))) (hb : ED K δ H0 tb ρ (.py (.int (i : Int)))) (h : rs[i]? = some r) : ED K δ H0 (tOp (rIx K) ta tb) ρ (.py (rP r)) := ed_ixT ha hb (at_nat (map_at h))
/-! ### == of rows -/
theorem eqv_ints : ∀ a b : List Int, PyData.eqvAll (a.map .int) (b.map .int) = decide (a = b)
  | [], [] => rfl
  | [], _ :: _ => rfl
  | _ :: _, [] => rfl
  | a :: as, b :: bs => by
    rw [List.map_cons, List.map_cons, PyData.eqvAll, PyData.eqv, eqv_ints as bs]
    by_cases h : a = b
    · subst h; simp
    · simp [h]
theorem eqv_row (x y : List (El k)) : PyData.eqv (rP x) (rP y) = decide (x = y) := by
  show PyData.eqv (.tuple _) (.tuple _) = _
  rw [PyData.eqv, eqv_ints]
  exact decide_eq_decide.mpr ⟨rN_inj, fun h => by rw [h]⟩
theorem eqv_rows : ∀ P Q : List (List (El k)), PyData.eqvAll (P.map rP) (Q.map rP) = decide (P = Q)
  | [], [] => rfl
  | [], _ :: _ => rfl
  | _ :: _, [] => rfl
  | a :: as, b :: bs => by
    rw [List.map_cons, List.map_cons, PyData.eqvAll, eqv_row, eqv_rows as bs]
    by_cases h : a = b
    · subst h; simp
    · simp [h]
theorem eqv_rs (P Q : List (List (El k))) : PyData.eqv (rsP P) (rsP Q) = decide (P = Q) := by
  show PyData.eqv (.tuple _) (.tuple _) = _
  rw [PyData.eqv, eqv_rows]
theorem lay_ints : ∀ a : List Int, PyData.canLayAll0 (a.map .int) = true ∧ PyData.depthAll (a.map .int) = 0
  | [] => ⟨rfl, rfl⟩
  | a :: as => by
    obtain ⟨h1, h2⟩ := lay_ints as
    rw [List.map_cons, PyData.canLayAll0, PyData.depthAll, h1, h2]
    exact ⟨rfl, rfl⟩
theorem lay_rows : ∀ P : List (List (El k)), PyData.canLayAll0 (P.map rP) = true ∧ PyData.depthAll (P.map rP) ≤ 1
  | [] => ⟨rfl, Nat.zero_le 1⟩
  | a :: as => by
    obtain ⟨h1, h2⟩ := lay_rows as
    obtain ⟨h3, h4⟩ := lay_ints (a.map inI)
    rw [List.map_cons, PyData.canLayAll0, PyData.depthAll, h1]
    show (PyData.canLay0 (.tuple _) && true) = true ∧ max (PyData.depth (.tuple _)) _ ≤ 1
    rw [PyData.canLay0, PyData.depth, h3, h4]
    exact ⟨rfl, by omega⟩
theorem sh_ints (a : List Int) : SeqAt.shaped (.tuple (a.map .int)) = true := by
  unfold SeqAt.shaped
  obtain ⟨h1, h2⟩ := lay_ints a
  rw [PyData.canLay0, PyData.depth, h1, h2]; rfl
theorem sh_rs (P : List (List (El k))) : SeqAt.shaped (rsP P) = true := by
  show SeqAt.shaped (.tuple _) = true
  unfold SeqAt.shaped
  obtain ⟨h1, h2⟩ := lay_rows P
  rw [PyData.canLay0, PyData.depth, h1, decide_eq_true (by omega)]; rfl
theorem ed_eqRs (ha : ED K δ H0 ta ρ (.py (rsP rs))) (hb : ED K δ H0 tb ρ (.py (rsP qs))) : ED K δ H0 (tOp (rEqD K) ta tb) ρ (.py (.bool (decide (rs = qs)))) := (ed_eqD ha hb (sh_rs _) (sh_rs _)).to (by rw [eqv_rs])
theorem ed_neRs (ha : ED K δ H0 ta ρ (.py (rsP rs))) (hb : ED K δ H0 tb ρ (.py (rsP qs))) : ED K δ H0 (tOp (rNeD K) ta tb) ρ (.py (.bool (!decide (rs = qs)))) := (ed_neD ha hb (sh_rs _) (sh_rs _)).to (by rw [eqv_rs])
theorem ed_eqRow (ha : ED K δ H0 ta ρ (.py (rP x))) (hb : ED K δ H0 tb ρ (.py (rP y))) : ED K δ H0 (tOp (rEqD K) ta tb) ρ (.py (.bool (decide (x = y)))) := (ed_eqD ha hb (sh_ints _) (sh_ints _)).to (by rw [eqv_row])
theorem eqv_tI (a b : List Int) : PyData.eqv (.tuple (a.map .int)) (.tuple (b.map .int)) = decide (a = b) := by rw [PyData.eqv, eqv_ints]
theorem ed_eqTI {a b : List Int} (ha : ED K δ H0 ta ρ (.py (.tuple (a.map .int)))) (hb : ED K δ H0 tb ρ (.py (.tuple (b.map .int)))) : ED K δ H0 (tOp (rEqD K) ta tb) ρ (.py (.bool (decide (a = b)))) := (ed_eqD ha hb (sh_ints _) (sh_ints _)).to (by rw [eqv_tI])
theorem zw_map {α β γ : Type} (f : α → β → γ) : ∀ (x : List α) (y : List β), (x.zip y).map (fun p => f p.1 p.2) = List.zipWith f x y
  | [], _ => rfl
  | _ :: _, [] => rfl
  | a :: x, b :: y => by rw [List.zip_cons_cons, List.map_cons, zw_map f x y]; rfl
theorem ed_plusP (ha : ED K δ H0 ta ρ (.py (tabP (plusI k)))) (hx : ED K δ H0 tb ρ (.py (inP x1))) (hy : ED K δ H0 tc ρ (.py (inP y1))) : ED K δ H0 (tOp (rIx K) (tOp (rIx K) ta tb) tc) ρ (.py (inP (x1 + y1))) :=
  ed_ixTI (i := y1.v) (ed_ixT ha hx (at_nat (map_at (plus_at x1 y1).1))) hy (plus_at x1 y1).2
def ordD : Option Nat → D
  | some o => I (o : Int)
  | none => .py .none
theorem co_q {i : Nat} {x : El k} (h : r[i]? = some x) : co r i = x := by
  unfold co
  rw [List.getD_eq_getElem?_getD, h]; rfl
/-! ### the field's parts -/
theorem ed_fPlus (T : Tk K mg) (h : ED K δ H0 te ρ (fieldD K k)) : ED K δ H0 (SlX.tSl K te "own_plus") ρ (.tab (plusI k)) := ed_at h T.cField T.field_plus rfl
theorem ed_fTimes (T : Tk K mg) (h : ED K δ H0 te ρ (fieldD K k)) : ED K δ H0 (SlX.tSl K te "own_times") ρ (.tab (timesI k)) := ed_at h T.cField T.field_times rfl
theorem ed_fNeg (T : Tk K mg) (h : ED K δ H0 te ρ (fieldD K k)) : ED K δ H0 (SlX.tSl K te "own_negatives") ρ (.py (negP k)) := ed_at h T.cField T.field_negatives rfl
theorem ed_fInv (T : Tk K mg) (h : ED K δ H0 te ρ (fieldD K k)) : ED K δ H0 (SlX.tSl K te "own_inverses") ρ (.py (invP k)) := ed_at h T.cField T.field_inverses rfl
theorem ed_fSize (T : Tk K mg) (h : ED K δ H0 te ρ (fieldD K k)) : ED K δ H0 (SlX.tSl K te "own_size") ρ (I (k.n : Int)) := ed_at h T.cField T.field_size rfl
end
end Dl
set_option Elab.async false
set_option linter.all false
set_option maxRecDepth 100000
set_option maxHeartbeats 2000000
namespace Dl
open PySem PySem.Spec PyProof.Rows L2 SlX Rm
/-! ### rows by orders as a dict -/
section
variable {k : Fq}
def kvs (A : Dw (El k)) : Kvs := A.map fun p => (((p.1 : Nat) : Int), rP p.2)
def dwD (A : Dw (El k)) : D := .dic (kvs A)
theorem beq_nat (a b : Nat) : ((a : Int) == (b : Int)) = (a == b) := by
  rw [Bool.eq_iff_iff]
  simp [Int.ofNat_inj]
theorem kvs_lk (o : Nat) : ∀ A : Dw (El k), (kvs A).lookup (o : Int) = (A.lookup o).map rP
  | [] => rfl
  | p :: A => by
    have ih := kvs_lk o A
    unfold kvs at ih ⊢
    rw [List.map_cons, List.lookup_cons, List.lookup_cons, beq_nat]
    cases q : (o == p.1) with
    | true => rfl
    | false => exact ih
theorem kvs_keys (A : Dw (El k)) : (kvs A).map (·.1) = (keys A).map fun (n : Nat) => (n : Int) := by
  unfold kvs keys
  rw [List.map_map, List.map_map]; rfl
theorem nd_cast {l : List Nat} (h : l.Nodup) : (l.map fun (n : Nat) => (n : Int)).Nodup :=
  List.Pairwise.map (R := (· ≠ ·)) (S := (· ≠ ·)) _ (fun a b h e => h (Int.ofNat_inj.mp e)) h
theorem kvs_nd {A : Dw (El k)} (h : (keys A).Nodup) : ((kvs A).map (·.1)).Nodup := by rw [kvs_keys]; exact nd_cast h
theorem okd_len {n : Nat} {A : Dw (El k)} (h : OkD n A) : A.length ≤ n := by
  have h1 := keys_cnt h
  have h2 := cnt_le (tb A) n
  unfold keys at h1
  rw [List.length_map] at h1
  omega
theorem getA_lk {n o : Nat} {A : Dw (El k)} (ho : o ∈ keys A) : A.lookup o = some (getA A o) := by
  obtain ⟨r, h⟩ := mem_keys.mp ho
  rw [h, getA_some h]
theorem redF_len {n : Nat} {A : Dw (El k)} (h : OkD n A) : ∀ (ks : List Nat) (row : List (El k)), row.length = n → (∀ o, o ∈ ks → o ∈ keys A) → (redF A ks row).length = n
  | [], row, hl, _ => hl
  | o :: ks, row, hl, hk => by
    unfold redF
    rw [List.foldl_cons]
    refine redF_len h ks _ ?_ fun p hp => hk p (List.mem_cons_of_mem _ hp)
    split
    · exact len_addT hl (h.glen (hk o List.mem_cons_self)) _
    · exact hl
theorem redF_snoc (A : Dw (El k)) (ks : List Nat) (o : Nat) (row : List (El k)) : redF A (ks ++ [o]) row = if co (redF A ks row) o ≠ 0 then addT (redF A ks row) (getA A o) (-(co (redF A ks row) o)) else redF A ks row := by
  unfold redF
  rw [List.foldl_append]; rfl
theorem take_snoc {α : Type} {l : List α} {i : Nat} {a : α} (h : l[i]? = some a) : l.take (i + 1) = l.take i ++ [a] := by rw [List.take_succ, h]; rfl
end
section
variable {K : PySem.W.Frag} {mg : Str → Option Value} {δ : Option Addr} {F0 H0 : Hp} {ρ : List Sl} {td ta tb tc te tl tk tv ty tx : TE} {wi : TI} {d : D} {k : Fq} {x y r : List (El k)} {rs qs : List (List (El k))} {E : En} {t : TS} {ar : TA} {A : Dw (El k)}
theorem edd_new : EDD K δ H0 tDNewK ρ [] := fun σ F H re w Q q p hp => q _ F _ (w.allocU hp) ⟨p, [], rfl, upd_same, w.nn hp, hp, rfl, .nil⟩
theorem ed_sortedA {r : List V → Hp → VK → Prop} (hr : r = fun xs H Q => ∃ (a : Addr) (kvs : List (L2.Key × V)) (ks : List Int), xs = [.ref a] ∧ Rd H a (.dK kvs) ∧ kvs.map (·.1) = ks.map Sum.inl ∧ ks.length < 64 ∧ ∀ (ys : List Int) (p : Addr), ys.Perm ks → ys.Pairwise (· ≤ ·) → H p = none → Q (.ref p) (upd H p (.lst (ys.map V.int))))
    (hd : ED K δ H0 td ρ (dwD A)) (hl : A.length < 64) : EN K δ H0 (tCB r (tCons td tNil)) ρ ((sortN (keys A)).map fun (o : Nat) => .int (o : Int)) :=
  (ed_sortedD (ks := kvs A) (ys := (sortN (keys A)).map fun (o : Nat) => (o : Int)) hr hd (by unfold kvs; rw [List.length_map]; exact hl) (by rw [kvs_keys]; exact (sortN_perm _).map _)
    (List.Pairwise.map (R := (· ≤ ·)) (S := (· ≤ ·)) _ (fun a b h => Int.ofNat_le.mpr h) (sortN_sorted _))).to (by rw [List.map_map]; rfl)
theorem ed_dwGet {o : Nat} (hd : ED K δ H0 td ρ (dwD A)) (hi : ED K δ H0 ty ρ (.py (.int (o : Int)))) (ho : o ∈ keys A) : ED K δ H0 (tDGet td ty) ρ (.py (rP (getA A o))) :=
  ed_dget hd hi (by rw [kvs_lk, getA_lk (n := 0) ho]; rfl)
theorem ed_dwNotIn {o : Nat} (hi : ED K δ H0 ty ρ (.py (.int (o : Int)))) (hd : ED K δ H0 td ρ (dwD A)) : ED K δ H0 (tDNotIn ty td) ρ (.py (.bool (decide (o ∉ keys A)))) :=
  (ed_dnotin hi hd).to (by
    show D.py (.bool (!((kvs A).lookup (o : Int)).isSome)) = _
    rw [kvs_lk]
    cases q : A.lookup o with
    | none => rw [decide_eq_true (lk_none.mp q)]; rfl
    | some v => rw [decide_eq_false (fun h => h (mem_keys.mpr ⟨v, q⟩))]; rfl)
/-- {k: f for k, v in d.items()} -/
theorem find_nd {α : Type} {ke : α → Int} : ∀ {A : List α} {a : α}, (A.map ke).Nodup → a ∈ A → A.find? (fun b => ke b == ke a) = some a
  | b :: A, a, h, m => by
    rw [List.map_cons, List.nodup_cons] at h
    rw [List.find?_cons]
    rcases List.mem_cons.mp m with z | z
    · subst z; simp
    · have ne : (ke b == ke a) = false := by
        rw [beq_eq_false_iff_ne]
        exact fun e => h.1 (e ▸ List.mem_map_of_mem z)
      rw [ne]
      exact find_nd h.2 z
theorem edd_itemsA {α : Type} {A : List α} {ke : α → Int} {va : α → PyData} {i l m : Nat} (f : α → PyData) (h : ρ[i]? = some (.fz (.dic (A.map fun a => (ke a, va a))))) (hl : A.length ≤ 100000) (hnd : (A.map ke).Nodup)
    (hk : ∀ a, a ∈ A → ED K δ H0 tk (((wipeS ρ [l, m]).set l (.fz (.py (.int (ke a))))).set m (.fz (.py (va a)))) (.py (.int (ke a))))
    (hv : ∀ a, a ∈ A → ED K δ H0 tv (((wipeS ρ [l, m]).set l (.fz (.py (.int (ke a))))).set m (.fz (.py (va a)))) (.py (f a))) :
    EDD K δ H0 (tOrE (tDc (iItems (tVar i)) (gTup K 2 (gCons (gName l) (gCons (gName m) gNil))) tYes tk tv [l, m]) (tLockE (tDc (iItems (tVar i)) (gTup K 2 (gCons (gName l) (gCons (gName m) gNil))) tYes tk tv [l, m]))) ρ (A.map fun a => (ke a, f a)) := by
  have e1 : itemsD (A.map fun a => (ke a, va a)) = A.map fun a => D.py (.tuple [.int (ke a), va a]) := by unfold itemsD; rw [List.map_map]; rfl
  let kf : D → Int := fun d => match d with
    | .py (.tuple [.int i, _]) => i
    | _ => 0
  let vf : D → PyData := fun d => match d with
    | .py (.tuple [.int i, _]) => ((A.find? fun b => ke b == i).map f).getD .none
    | _ => .none
  have ev : ∀ a, a ∈ A → vf (.py (.tuple [.int (ke a), va a])) = f a := fun a ha => by
    show ((A.find? fun b => ke b == ke a).map f).getD .none = f a
    rw [find_nd hnd ha]; rfl
  have z := edd_items (K := K) (δ := δ) (H0 := H0) (tk := tk) (tv := tv) (g := gTup K 2 (gCons (gName l) (gCons (gName m) gNil))) (vs := [l, m]) (js := [l, m]) h (prS ρ l m) kf vf (fun d hd => by
      rw [e1] at hd
      obtain ⟨a, _, e⟩ := List.mem_map.mp hd
      subst e
      exact gd_two) (fun j hj => hj) (by rw [List.length_map]; exact hl) (by rw [e1, List.map_map]; exact hnd) (fun d hd => by
      rw [e1] at hd
      obtain ⟨a, ha, e⟩ := List.mem_map.mp hd
      subst e
      exact hk a ha) (fun d hd => by
      rw [e1] at hd
      obtain ⟨a, ha, e⟩ := List.mem_map.mp hd
      subst e
      rw [ev a ha]
      exact hv a ha)
  have e2 : ((itemsD (A.map fun a => (ke a, va a))).map fun d => (kf d, vf d)) = A.map fun a => (ke a, f a) := by
    rw [e1, List.map_map]
    refine List.map_congr_left fun a ha => ?_
    show (ke a, vf (.py (.tuple [.int (ke a), va a]))) = _
    rw [ev a ha]
  rw [e2] at z
  exact z
/-- rows as a tuple, or as a list -/
def rsA (b : Bool) (P : List (List (El k))) : PyData := if b then .list (P.map rP) else rsP P
theorem wi_any {b : Bool} (h : ED K δ H0 tl ρ (.py (rsA b rs))) : WI K δ H0 (iAny K tl) ρ (rs.map fun r => D.py (rP r)) := by
  cases b with
  | true => exact fun σ F H re w R q => .inl (wi_listM (f := rP) h σ F H re w R q)
  | false => exact fun σ F H re w R q => .inr (wi_tupM (f := rP) h σ F H re w R q)
/-- less than either -/
theorem min_eq (a b : Nat) : (if (b : Int) < (a : Int) then (b : Int) else (a : Int)) = ((min a b : Nat) : Int) := by
  by_cases h : b < a
  · rw [if_pos (Int.ofNat_lt.mpr h), Nat.min_eq_right (by omega)]
  · rw [if_neg (fun z => h (Int.ofNat_lt.mp z)), Nat.min_eq_left (by omega)]
theorem cutP_0 {α : Type} (xs : List α) {n : Nat} {z : Int} (e : z = (n : Int)) : cutP xs none (some z) = xs.take n := by rw [e, cutP_take]
end
end Dl
set_option Elab.async false
set_option linter.all false
set_option maxRecDepth 100000
set_option maxHeartbeats 2000000
namespace Dl
open PySem PySem.Spec PyProof.Rows L2 SlX Rm
structure SlOk (r s : Nat) : Prop where
  cop : Nat.gcd r s = 1
  r1 : 1 ≤ r
  r2 : r ≤ 60
  s1 : 1 ≤ s
  s2 : s ≤ 60
  w : (r - 1) * (s - 1) ≤ 24
abbrev wdt (r s : Nat) : Nat := (r - 1) * (s - 1)
section
variable {k : Fq}
theorem lk_gen {k : Fq} (f : List (El k) → PyData) (o : Nat) : ∀ A : Dw (El k), (A.map fun p => (((p.1 : Nat) : Int), f p.2)).lookup (o : Int) = (A.lookup o).map f
  | [] => rfl
  | p :: A => by
    have ih := lk_gen f o A
    rw [List.map_cons, List.lookup_cons, List.lookup_cons, beq_nat]
    cases q : (o == p.1) with
    | true => rfl
    | false => exact ih
theorem range_co {β : Type} {n : Nat} {r : List (El k)} (h : r.length = n) (f : El k → β) : (List.range n).map (fun j => f (co r j)) = r.map f := by
  subst h
  refine List.ext_getElem? fun i => ?_
  rw [List.getElem?_map, List.getElem?_map]
  by_cases hi : i < r.length
  · rw [List.getElem?_range hi, co_get hi]; rfl
  · rw [List.getElem?_eq_none (by rw [List.length_range]; omega), List.getElem?_eq_none (by omega)]; rfl
def endI (A : Dw (El k)) (i j : Nat) : Int := match A.lookup j with
  | some r => inI (-(co r i))
  | none => 0
theorem endI_get (A : Dw (El k)) (i j : Nat) : ((A.map fun p => (((p.1 : Nat) : Int), inP (-(co p.2 i)))).lookup (j : Int)).getD (.int 0) = .int (endI A i j) := by
  rw [lk_gen (fun r => inP (-(co r i)))]
  unfold endI
  cases A.lookup j <;> rfl
theorem cross_at {n i j : Nat} {A : Dw (El k)} (hj : j < n) (hi : i ∉ keys A) : (if decide ((j : Int) = (i : Int)) = true then (1 : Int) else 0) + endI A i j = inI (co (crossv n A i) j) := by
  rw [co_crossv i hj]
  unfold endI
  by_cases e : j = i
  · subst e
    rw [if_pos rfl, lk_none.mpr hi, if_pos (by simp), inI_1]; rfl
  · rw [if_neg e, if_neg (by simp; omega)]
    cases q : A.lookup j with
    | none => rw [if_neg (lk_none.mp q), inI_0]; rfl
    | some v =>
      rw [if_pos (mem_keys.mpr ⟨v, q⟩), getA_some q]
      show (0 : Int) + inI _ = _
      rw [Int.zero_add]
theorem filt_succ {p : Nat → Bool} (i : Nat) : (List.range (i + 1)).filter p = (List.range i).filter p ++ (if p i = true then [i] else []) := by
  rw [List.range_succ, List.filter_append]
  show _ ++ List.filter p [i] = _
  rw [List.filter_cons]; rfl
end
section
variable {K : PySem.W.Frag} {mg : Str → Option Value} {δ : Option Addr} {F0 H0 : Hp} {ρ : List Sl} {td ta tb tc te tl tk tv ty tx : TE} {d : D} {k : Fq} {E : En} {t : TS} {r s : Nat}
theorem sd_asgNil {i : Nat} (k : E.N (ρ.set i (.ow []))) : SD K δ F0 H0 (tAsg (tLst tNil) (gName i)) ρ E := sd_asgN (Pe := fun xs => xs = []) (en_lst ap_nil (by decide)) fun xs e => by subst e; exact k
theorem sd_asgEN {i : Nat} {xs : List PyData} (h : EN K δ H0 te ρ xs) (k : E.N (ρ.set i (.ow xs))) : SD K δ F0 H0 (tAsg te (gName i)) ρ E := sd_asgN h fun ys e => by subst e; exact k
theorem sd_appM {α : Type} {f : α → PyData} {xs : List α} {x : α} {i : Nat} (h : ρ[i]? = some (.ow (xs.map f))) (he : ED K δ H0 te ρ (.py (f x))) (hz : xs.length < 100000) (k : E.N (ρ.set i (.ow ((xs ++ [x]).map f)))) :
    SD K δ F0 H0 (tDrop (tBM K "list" rAppend (tVar i) (tCons te tNil))) ρ E := sd_appD h he (by rw [List.length_map]; exact hz) (by rw [List.map_append] at k; exact k)
/-- a call for nothing -/
theorem sd_dropD (h : ED K δ H0 te ρ d) (k : E.N ρ) : SD K δ F0 H0 (tDrop te) ρ E := sd_drop (P := fun _ => True) (h.ep trivial) k
theorem prodS_eq {one other X : List (El k)} {i : Nat} (hi : i ≤ other.length) : prodS one other X i = if co one i ≠ 0 then addT X (zr i ++ other.take (other.length - i)) (co one i) else X := by
  unfold prodS mvR zr
  rw [Nat.min_eq_left hi]
theorem wdt_int (h1 : 1 ≤ r) (h2 : 1 ≤ s) : ((r : Int) - 1) * ((s : Int) - 1) = ((wdt r s : Nat) : Int) := by
  have e1 : (r : Int) - 1 = ((r - 1 : Nat) : Int) := by omega
  have e2 : (s : Int) - 1 = ((s - 1 : Nat) : Int) := by omega
  rw [e1, e2]; exact (Int.natCast_mul _ _).symm
end
end Dl
set_option Elab.async false
set_option linter.all false
set_option maxRecDepth 100000
set_option maxHeartbeats 2000000
namespace Dl
open PySem PySem.Spec PyProof.Rows L2 SlX Rm
section
variable {K : PySem.W.Frag} {mg : Str → Option Value} {δ : Option Addr} {F0 H0 : Hp} {ρ : List Sl} {td ta tb tc te tl tk tv ty tx : TE} {x y d : D} {k : Fq} {E : En} {t : TS} {wi : TI}
/-- a, b = (x, y) by a tuple, of any things -/
theorem sd_tupD {i j : Nat} (ha : ED K δ H0 ta ρ x) (hb : ED K δ H0 tb ρ y) (k : E.N ((ρ.set i (.fz x)).set j (.fz y))) :
    SD K δ F0 H0 (tAsg (tTup (tCons ta (tCons tb tNil))) (gTup K 2 (gCons (gName i) (gCons (gName j) gNil)))) ρ E := fun σ F H Dn re w s q =>
  ha σ F H re (w.step s) _ fun v0 F1 H1 s1 r1 => by
    have w0 := w.step s
    have w1 := w0.step s1
    refine hb σ F1 H1 (re.step s1) w1 _ fun v2 F2 H2 s2 r2 => ⟨by show 2 ≤ sizeLine; decide, fun A hT => ?_⟩
    have w2 := w1.step s2
    have s4 := w2.allocU (o := .tup [v0, v2]) hT
    have sAll := (s.trans w s1).trans w s2
    have re4 := ((re.step s1).step s2).step s4
    exact ⟨A, _, rfl, SqT.of upd_same, rfl, _, _, rfl, _, _, rfl, rfl, q.nx _ _ (at_of k ((re4.set i (r1.mono s2.ff)).set j r2) w (sAll.trans w s4) (s1.ff.trans s2.ff))⟩
/-- {k: v for n in ..}, n an int -/
theorem edd_dcI {ns : List Int} {v : PyData} {i : Nat} (hw : WI K δ H0 wi ρ (ns.map fun n => I n)) (hnd : ns.Nodup) (hl : ns.length ≤ 100000)
    (hk : ∀ n, n ∈ ns → ED K δ H0 tk ((wipeS ρ [i]).set i (.fz (I n))) (.py (.int n))) (hv : ∀ n, n ∈ ns → ED K δ H0 tv ((wipeS ρ [i]).set i (.fz (I n))) (.py v)) : EDD K δ H0 (tDc wi (gName i) tYes tk tv [i]) ρ (ns.map fun n => (n, v)) := by
  let kf : D → Int := fun d => match d with
    | .py (.int i) => i
    | _ => 0
  have e1 : (ns.map fun n => I n).map kf = ns := by rw [List.map_map]; exact List.map_id _
  have z := edd_dc (K := K) (δ := δ) (H0 := H0) (tk := tk) (tv := tv) (g := gName i) (vs := [i]) (js := [i]) hw (fun d => (wipeS ρ [i]).set i (.fz d)) kf (fun _ => v) (fun d _ => gd_name) (fun j hj => hj) (by rw [List.length_map]; exact hl) (by rw [e1]; exact hnd)
    (fun d hd => by
      obtain ⟨n, hn, e⟩ := List.mem_map.mp hd
      subst e
      exact hk n hn) (fun d hd => by
      obtain ⟨n, hn, e⟩ := List.mem_map.mp hd
      subst e
      exact hv n hn)
  rw [List.map_map] at z
  exact z
theorem lk_true (i : Int) : ∀ ns : List Int, ((ns.map fun n => (n, PyData.bool true)).lookup i).isSome = decide (i ∈ ns)
  | [] => by simp
  | n :: ns => by
    rw [List.map_cons, List.lookup_cons]
    by_cases h : i = n
    · subst h; simp
    · have e : (i == n) = false := by simpa using h
      rw [e]
      show ((ns.map fun n => (n, PyData.bool true)).lookup i).isSome = _
      rw [lk_true i ns]
      simp [h]
/-- over a list of one kind, with a test -/
theorem en_mapF {α : Type} {tt : TT} {i : Nat} {as : List α} {e : α → D} (hw : WI K δ H0 wi ρ (as.map e)) (p : α → Bool) (f : α → PyData) (hl : as.length ≤ 100000)
    (ht : ∀ a, a ∈ as → BD K δ H0 tt ((wipeS ρ [i]).set i (.fz (e a))) (p a)) (hs : ∀ a, a ∈ as → p a = true → ED K δ H0 te ((wipeS ρ [i]).set i (.fz (e a))) (.py (f a))) : EN K δ H0 (tLc wi (gName i) tt te [i]) ρ ((as.filter p).map f) :=
  enp_lc hw (fun d => (wipeS ρ [i]).set i (.fz d)) (fun n acc => acc = ((as.take n).filter p).map f) (by rw [List.take_zero]; rfl) (fun d _ => gd_name) (fun j hj => hj) (by rw [List.length_map]; exact hl)
    (fun n d acc hd h => by
      rw [List.getElem?_map] at hd
      cases q : as[n]? with
      | none => rw [q] at hd; cases hd
      | some a =>
        rw [q] at hd
        cases hd
        have ha := List.mem_of_getElem? q
        refine (ht a ha).imp fun b eb => ?_
        subst eb
        have e2 : (as.take (n + 1)).filter p = (as.take n).filter p ++ (if p a = true then [a] else []) := by
          rw [List.take_succ, q, List.filter_append]
          show _ ++ List.filter p [a] = _
          rw [List.filter_cons]; rfl
        by_cases hp : p a = true
        · rw [if_pos hp]
          refine (hs a ha hp).ep ⟨_, rfl, ?_⟩
          rw [h, e2, if_pos hp, List.map_append]; rfl
        · rw [if_neg hp, h, e2, if_neg hp, List.append_nil]) (fun acc h => by rw [h, List.length_map, List.take_length])
theorem asc_zip {ns : List Int} (h : ns.Pairwise (· < ·)) : ∀ p, p ∈ ns.zip (ns.drop 1) → p.1 < p.2 := fun p hp => by
  obtain ⟨i, hi, e⟩ := List.mem_iff_getElem.mp hp
  rw [List.length_zip, List.length_drop] at hi
  rw [List.getElem_zip] at e
  subst e
  rw [List.getElem_drop]
  exact List.pairwise_iff_getElem.mp h i (1 + i) (by omega) (by omega) (by omega)
/-! ### gaps -/
structure GpOk (r s : Nat) (gs : List Nat) : Prop where
  asc : gs.Pairwise (· < ·)
  le : ∀ g, g ∈ gs → g ≤ 1000
  len : gs.length ≤ 1000
  ok : ∀ g, g ∈ gs → 1 ≤ g ∧ (g ≠ r ∧ g ≠ s) ∧ (g < r ∨ g - r ∈ gs) ∧ (g < s ∨ g - s ∈ gs)
def natI (l : List Nat) : List Int := l.map fun (n : Nat) => (n : Int)
theorem mem_natI {l : List Nat} {n : Nat} : (n : Int) ∈ natI l ↔ n ∈ l := by
  unfold natI
  rw [List.mem_map]
  exact ⟨fun ⟨a, h, e⟩ => Int.ofNat_inj.mp e ▸ h, fun h => ⟨n, h, rfl⟩⟩
theorem natI_asc {l : List Nat} (h : l.Pairwise (· < ·)) : (natI l).Pairwise (· < ·) := List.Pairwise.map (R := (· < ·)) (S := (· < ·)) _ (fun a b h => Int.ofNat_lt.mpr h) h
theorem natI_inj {l m : List Nat} (h : natI l = natI m) : l = m := List.map_inj_right (fun _ _ e => Int.ofNat_inj.mp e) |>.mp h
theorem asc_nd {l : List Nat} (h : l.Pairwise (· < ·)) : l.Nodup := h.imp fun h e => by omega
/-- one gap's turn in the least ones -/
def lbS (side : Nat) (f : List Int) (g : Nat) : List Int := f.set (g % side) (f.getD (g % side) 0 + (side : Int))
def leastL (gs : List Nat) (side : Nat) : List Int := gs.foldl (lbS side) (natI (List.range side))
theorem lbS_len (side : Nat) (f : List Int) (g : Nat) : (lbS side f g).length = f.length := by unfold lbS; rw [List.length_set]
theorem lb_len (side : Nat) : ∀ (gs : List Nat) (f : List Int), (gs.foldl (lbS side) f).length = f.length
  | [], _ => rfl
  | g :: gs, f => by rw [List.foldl_cons, lb_len side gs, lbS_len]
theorem sd_setM {i : Nat} {xs : List Int} {j : Nat} {z jz : Int} (h : ρ[i]? = some (.ow (xs.map .int))) (he : ED K δ H0 te ρ (.py (.int z))) (hi : ED K δ H0 tb ρ (.py (.int jz))) (ej : jz = (j : Int)) (hj : j < xs.length) (k : E.N (ρ.set i (.ow ((xs.set j z).map .int)))) :
    SD K δ F0 H0 (tAsg te (gSub (tVar i) tb rSetL)) ρ E := sd_setL h he hi ej (by rw [List.length_map]; exact hj) (by rw [List.map_set] at k; exact k)
/-- the gaps of a room -/
theorem gaps_gp {r s : Nat} {P : List (List (El k))} (h : Rom (wdt r s) r s P) (hw : wdt r s ≤ 24) : GpOk r s (gapsR (wdt r s) P) := by
  have hle : ∀ g, g ∈ gapsR (wdt r s) P → g < wdt r s := fun g hg => by
    unfold gapsR at hg
    exact List.mem_range.mp (List.mem_filter.mp hg).1
  refine ⟨?_, fun g hg => by have := hle g hg; omega, ?_, fun g hg => ?_⟩
  · unfold gapsR
    exact List.Pairwise.filter _ List.pairwise_lt_range
  · unfold gapsR
    have := List.length_filter_le (fun a => decide (a ∉ ords P)) (List.range (wdt r s))
    rw [List.length_range] at this
    omega
  · obtain ⟨a1, a2, a3⟩ := gaps_ok h h.c1 hg
    obtain ⟨b1, b2, b3⟩ := gaps_ok h h.c2 hg
    exact ⟨a1, ⟨a2, b2⟩, a3, b3⟩
def facD (o : Option (List (El k))) : D := match o with
  | some g => .py (rP g)
  | none => .py .none
end
end Dl
set_option linter.unusedVariables false
namespace Rm
/-! ### the law's own product of digits -/
def lpAdd (f : List Int) (m : Nat) (v : Int) : List Int := f.set m (f.getD m 0 + v)
def lpRow (b : List Int) (i : Nat) (x : Int) (f : List Int) : List Int := b.zipIdx.foldl (fun f p => lpAdd f (i + p.2) (x * p.1)) f
def lpMul (a b : List Int) : List Int := a.zipIdx.foldl (fun f p => lpRow b p.2 p.1 f) (List.replicate (2 * a.length - 1) 0)
def lpR8 (n : Nat) (f : List Int) (h : Nat) : List Int := if n = 8 then f.set (h - 3) (f.getD (h - 3) 0 + f.getD h 0) else f
def lpR49 (n : Nat) (f : List Int) (h : Nat) : List Int := if n = 4 ∨ n = 9 then f.set (h - 2) (f.getD (h - 2) 0 + (if n = 4 then f.getD h 0 else 2 * f.getD h 0)) else f
def lpR48 (n : Nat) (f : List Int) (h : Nat) : List Int := if n = 4 ∨ n = 8 then f.set (h - n / 4) (f.getD (h - n / 4) 0 + f.getD h 0) else f
def lpRed (n t : Nat) (f : List Int) (i : Nat) : List Int := lpR48 n (lpR49 n (lpR8 n f (2 * t - 2 - i)) (2 * t - 2 - i)) (2 * t - 2 - i)
def lpFin (k : Fq) (x y : El k) : List Int := (List.range (k.t - 1)).foldl (lpRed k.n k.t) (lpMul (digI k x) (digI k y))
theorem lp_ok : ∀ (k : Fq) (x y : El k), elemI k ((lpFin k x y).take k.t) = ((x * y).v : Int) := by intro k; cases k <;> decide +kernel
theorem lpAdd_len (f : List Int) (m : Nat) (v : Int) : (lpAdd f m v).length = f.length := by unfold lpAdd; rw [List.length_set]
theorem lpRow_len (b : List Int) (i : Nat) (x : Int) (f : List Int) : (lpRow b i x f).length = f.length := by
  unfold lpRow
  generalize b.zipIdx = l
  induction l generalizing f with
  | nil => rfl
  | cons p l ih => rw [List.foldl_cons, ih, lpAdd_len]
theorem lpRed_len (n t : Nat) (f : List Int) (i : Nat) : (lpRed n t f i).length = f.length := by
  unfold lpRed lpR48 lpR49 lpR8
  repeat' split
  all_goals simp
theorem fold_len {α : Type} {g : List Int → α → List Int} (h : ∀ f a, (g f a).length = f.length) : ∀ (l : List α) (f : List Int), (l.foldl g f).length = f.length
  | [], _ => rfl
  | a :: l, f => by rw [List.foldl_cons, fold_len h l, h]
theorem shp : ∀ (k : Fq) (i : Nat), i < 4 → ∀ m, m < 3 → (k.n = ([2, 3, 5, 7] : List Nat).getD i 0 * (if m = 0 then 1 else ([2, 3, 5, 7] : List Nat).getD i 0) * (if m ≤ 1 then 1 else ([2, 3, 5, 7] : List Nat).getD i 0)) = (([2, 3, 5, 7] : List Nat).getD i 0 = k.p ∧ m + 1 = k.t) := by
  intro k i hi m hm
  refine propext ?_
  revert m
  revert i
  cases k <;> decide
theorem shp_p : ∀ k : Fq, ∃ j, j < 4 ∧ ([2, 3, 5, 7] : List Nat)[j]? = some k.p := by
  intro k
  cases k
  · exact ⟨0, by decide, rfl⟩
  · exact ⟨1, by decide, rfl⟩
  · exact ⟨0, by decide, rfl⟩
  · exact ⟨2, by decide, rfl⟩
  · exact ⟨3, by decide, rfl⟩
  · exact ⟨0, by decide, rfl⟩
  · exact ⟨1, by decide, rfl⟩
theorem dig_le {k : Fq} {x : El k} {d : Int} (h : d ∈ digI k x) : 0 ≤ d ∧ d ≤ 7 := by
  obtain ⟨i, _, q⟩ := List.mem_map.mp h
  have p := pt_n k
  have := Nat.mod_lt (x.v / k.p ^ i) (show 0 < k.p by omega)
  omega
/-- all rows of a length -/
def allR (k : Fq) : Nat → List (List (El k))
  | 0 => [[]]
  | n + 1 => (allR k n).flatMap fun r => (List.range k.n).map fun i => r ++ [ofN k i]
theorem allR_len (k : Fq) : ∀ n x, x ∈ allR k n → x.length = n
  | 0, x, h => by
    unfold allR at h
    rw [List.mem_singleton.mp h]; rfl
  | n + 1, x, h => by
    unfold allR at h
    obtain ⟨r, hr, hx⟩ := List.mem_flatMap.mp h
    obtain ⟨i, _, e⟩ := List.mem_map.mp hx
    rw [← e, List.length_append, allR_len k n r hr]; rfl
theorem flat_len {α β : Type} {c : Nat} {f : α → List β} (h : ∀ a, (f a).length = c) : ∀ l : List α, (l.flatMap f).length = l.length * c
  | [] => by simp
  | a :: l => by rw [List.flatMap_cons, List.length_append, flat_len h l, h, List.length_cons, Nat.succ_mul]; omega
theorem allR_cnt (k : Fq) : ∀ n, (allR k n).length = k.n ^ n
  | 0 => rfl
  | n + 1 => by
    unfold allR
    rw [flat_len (c := k.n) (fun r => by rw [List.length_map, List.length_range]), allR_cnt k n, Nat.pow_succ]
end Rm
set_option Elab.async false
set_option linter.all false
set_option maxRecDepth 100000
set_option maxHeartbeats 2000000
namespace Dl
open PySem PySem.Spec PyProof.Rows L2 SlX Rm
section
variable {K : PySem.W.Frag} {mg : Str → Option Value} {δ : Option Addr} {F0 H0 : Hp} {ρ : List Sl} {td ta tb tc te tl tk tv ty tx : TE} {d : D} {k : Fq} {E : En} {t u : TS} {wi : TI} {x y c : El k} {rs qs : List (List (El k))}
/-- one statement with a condition behind it, then the others -/
theorem sd_mid (J : List Sl → Prop) (h : SD K δ F0 H0 t ρ { E with N := J }) (k : ∀ ρ1, J ρ1 → SD K δ F0 H0 u ρ1 E) : SD K δ F0 H0 (tSeq t u) ρ E := fun σ F H Dn re w s q =>
  h σ F H { Dn with nx := u Dn } re w s ⟨fun σ' H' ⟨F', ρ', p, r, s', w', e⟩ => k ρ' p σ' F' H' Dn r w s' (q.mono e), q.rt, q.bk, q.ct⟩
theorem sh_lrs (P : List (List (El k))) : SeqAt.shaped (.list (P.map rP)) = true := by
  unfold SeqAt.shaped
  obtain ⟨h1, h2⟩ := lay_rows P
  rw [PyData.canLay0, PyData.depth, h1, decide_eq_true (by omega)]; rfl
theorem ed_neLs (ha : ED K δ H0 ta ρ (.py (.list (rs.map rP)))) (hb : ED K δ H0 tb ρ (.py (.list (qs.map rP)))) : ED K δ H0 (tOp (rNeD K) ta tb) ρ (.py (.bool (!decide (rs = qs)))) := (ed_neD ha hb (sh_lrs _) (sh_lrs _)).to (by rw [PyData.eqv, eqv_rows])
theorem ed_lawSize (ha : ED K δ H0 ta ρ (.py (lawF k))) : ED K δ H0 (tOp (rIx K) ta (tC (.int 0))) ρ (.py (.int (k.n : Int))) := ed_ixL (el_fz ha) ed_int (at_int (by decide) rfl)
theorem neg_ix : ∀ (k : Fq) (x : El k), (rowI (plusT k) x.v)[(-x).v]? = some 0 ∧ ∀ m, m < (-x).v → (rowI (plusT k) x.v)[m]? ≠ some 0 := by intro k; cases k <;> decide +kernel
theorem inv_ix : ∀ (k : Fq) (x : El k), x ≠ el0 k → (rowI (timesT k) x.v)[(Fl.inv x).v]? = some 1 ∧ ∀ m, m < (Fl.inv x).v → (rowI (timesT k) x.v)[m]? ≠ some 1 := by intro k; cases k <;> decide +kernel
theorem ed_lawNeg (ha : ED K δ H0 ta ρ (.py (lawF k))) (hx : ED K δ H0 tb ρ (.py (inP x))) : ED K δ H0 (tBM K "list" (rIndex K) (tOp (rIx K) (tOp (rIx K) ta (tC (.int 1))) tb) (tCons (tC (.int 0)) tNil)) ρ (.py (inP (-x))) :=
  ed_index (ed_lawRow1 ha hx) ed_int (neg_ix k x).1 fun m z hm hz e => (neg_ix k x).2 m hm (by rw [hz, e])
theorem ed_lawInv (ha : ED K δ H0 ta ρ (.py (lawF k))) (hx : ED K δ H0 tb ρ (.py (inP x))) (h : x ≠ 0) : ED K δ H0 (tBM K "list" (rIndex K) (tOp (rIx K) (tOp (rIx K) ta (tC (.int 2))) tb) (tCons (tC (.int 1)) tNil)) ρ (.py (inP (Fl.inv x))) :=
  ed_index (ed_lawRow2 ha hx) ed_int (inv_ix k x h).1 fun m z hm hz e => (inv_ix k x h).2 m hm (by rw [hz, e])
theorem ed_neg1 (h : ED K δ H0 te ρ (.py (.int 1))) : ED K δ H0 (tUn (rU fun i => .int (-i)) te) ρ (.py (.int (-1))) := ed_neg h
theorem getD_q {l : List Int} {i : Nat} (h : i < l.length) : l[i]? = some (l.getD i 0) := by rw [List.getD_eq_getElem?_getD, List.getElem?_eq_getElem h]; rfl
theorem zipIdx_q {α : Type} {l : List α} {i : Nat} {a : α} (h : l[i]? = some a) : l.zipIdx[i]? = some (a, i) := by rw [List.getElem?_zipIdx, h]; simp
/-- found[i] of a list of ints of the frame's own -/
theorem ed_ownAt {xs : List Int} {i j : Nat} {jz : Int} (h : ρ[i]? = some (.ow (xs.map .int))) (hi : ED K δ H0 tb ρ (.py (.int jz))) (ej : jz = (j : Int)) (hj : j < xs.length) : ED K δ H0 (tOp (rIx K) (tVar i) tb) ρ (.py (.int (xs.getD j 0))) :=
  ed_ixLI (l := xs) (i := j) (el_own h) (hi.to (by rw [ej])) (getD_q hj)
theorem ed_shIx {i : Nat} {v : Int} {a b : Int} (h : ED K δ H0 te ρ (.py (.list [.int a, .int b]))) (hi : ED K δ H0 tb ρ (.py (.int (i : Int)))) (e : ([a, b] : List Int)[i]? = some v) : ED K δ H0 (tOp (rIx K) te tb) ρ (.py (.int v)) :=
  ed_ixLI (l := [a, b]) (el_fz h) hi e
end
end Dl
set_option Elab.async false
set_option linter.all false
set_option maxRecDepth 100000
set_option maxHeartbeats 2000000
namespace Dl
open PySem PySem.Spec PyProof.Rows L2 SlX Rm
/-! ### ints of which something is known; the dice -/
section
variable {K : PySem.W.Frag} {mg : Str → Option Value} {δ : Option Addr} {F0 H0 : Hp} {ρ : List Sl} {td ta tb tc te tl : TE} {x y d : D} {k : Fq} {E : En} {t u : TS} {wi : TI} {ar : TA} {P1 P2 P3 : Int → Prop}
def EI (K : PySem.W.Frag) (δ : Option Addr) (H0 : Hp) (te : TE) (ρ : List Sl) (P : Int → Prop) : Prop := EP K δ H0 te ρ fun d => ∃ i, d = I i ∧ P i
theorem ei_of {i : Int} (h : ED K δ H0 te ρ (I i)) (p : P1 i) : EI K δ H0 te ρ P1 := h.ep ⟨i, rfl, p⟩
theorem EI.imp (h : EI K δ H0 te ρ P1) (q : ∀ i, P1 i → P2 i) : EI K δ H0 te ρ P2 := EP.imp h fun _ ⟨i, e, p⟩ => ⟨i, e, q i p⟩
theorem ei_op {C : Int → Int → Prop} {g : Int → Int → Int} (ha : EI K δ H0 ta ρ P1) (hb : EI K δ H0 tb ρ P2) (hc : ∀ i j, P1 i → P2 j → C i j ∧ P3 (g i j)) : EI K δ H0 (tOp (rI C fun i j => .int (g i j)) ta tb) ρ P3 :=
  ep_op ha (fun _ _ => hb) fun F H v w x y Q wd ⟨i, e1, p1⟩ ⟨j, e2, p2⟩ r1 r2 q => by
    subst e1 e2
    exact ⟨i, j, rep_int r1, rep_int r2, (hc i j p1 p2).1, q _ _ F H wd.refl ⟨_, rfl, (hc i j p1 p2).2⟩ (.py (.int _))⟩
theorem ei_op0 {g : Int → Int → Int} (ha : EI K δ H0 ta ρ P1) (hb : EI K δ H0 tb ρ P2) (hc : ∀ i j, P1 i → P2 j → P3 (g i j)) : EI K δ H0 (tOp (rI0 fun i j => .int (g i j)) ta tb) ρ P3 :=
  ep_op ha (fun _ _ => hb) fun F H v w x y Q wd ⟨i, e1, p1⟩ ⟨j, e2, p2⟩ r1 r2 q => by
    subst e1 e2
    exact ⟨i, j, rep_int r1, rep_int r2, q _ _ F H wd.refl ⟨_, rfl, hc i j p1 p2⟩ (.py (.int _))⟩
theorem ei_int (h : EI K δ H0 te ρ P1) : EI K δ H0 (tCB rInt1 (tCons te tNil)) ρ P1 := fun σ F H re w Q q =>
  h σ F H re w _ fun v F1 H1 s1 ⟨d, ⟨i, e, p⟩, r⟩ => by
    subst e
    exact .inl ⟨i, by rw [rep_int r], q _ F1 H1 s1 ⟨_, ⟨i, rfl, p⟩, .py (.int i)⟩⟩
theorem bp_cmp {g : Int → Int → Bool} (ha : EI K δ H0 ta ρ P1) (hb : EI K δ H0 tb ρ P2) : BP K δ H0 (tB (tOp (rI0 fun i j => .bl (g i j)) ta tb)) ρ fun _ => True := fun σ F H re w Q q =>
  ha σ F H re w _ fun v F1 H1 s1 ⟨x, ⟨i, e1, _⟩, r1⟩ => hb σ F1 H1 (re.step s1) (w.step s1) _ fun u F2 H2 s2 ⟨y, ⟨j, e2, _⟩, r2⟩ => by
    subst e1 e2
    exact ⟨i, j, rep_int r1, rep_int r2, _, rfl, q _ F2 H2 (s1.trans w s2) trivial⟩
theorem rep_dice {F : Hp} {v : V} (h : Rep K δ F v .dice) : ∃ a, v = .ref a ∧ δ = some a := by
  cases h with
  | dice h => exact ⟨_, rfl, h⟩
/-- dice[i] -/
theorem ei_dice {i : Nat} (h : ED K δ H0 td ρ .dice) (hi : i < 3) : EI K δ H0 (tOp (rIx K) td (tC (.int (i : Int)))) ρ fun _ => True := fun σ F H re w Q q =>
  h σ F H re w _ fun v F1 H1 s1 r => by
    obtain ⟨a, rfl, e⟩ := rep_dice r
    obtain ⟨x, y, z, hd⟩ := (w.step s1).dc a e
    obtain ⟨n, hn⟩ : ∃ n, [x, y, z][i]? = some n := ⟨_, List.getElem?_eq_getElem (by simpa using hi)⟩
    refine .inl ⟨a, [V.int x, V.int y, V.int z], (i : Int), V.int n, rfl, rfl, SqL.of hd, at_nat (xs := [x, y, z].map V.int) (by rw [List.getElem?_map, hn]; rfl), q _ F1 H1 s1 ⟨_, ⟨n, rfl, trivial⟩, .py (.int n)⟩⟩
/-- dice[i] = e -/
theorem sd_setDice {i j : Nat} (h : ρ[j]? = some (.fz .dice)) (he : EI K δ H0 te ρ P1) (hi : i < 3) (k : E.N ρ) : SD K δ F0 H0 (tAsg te (gSub (tVar j) (tC (.int (i : Int))) rSetL)) ρ E := fun σ F H Dn re w s q =>
  he σ F H re (w.step s) _ fun v F1 H1 s1 ⟨d, ⟨n, e, _⟩, r⟩ => by
    subst e
    have re1 := re.step s1
    have w1 := (w.step s).step s1
    obtain ⟨u, eu, ru⟩ := re1.fz j _ h
    obtain ⟨a, rfl, ea⟩ := rep_dice ru
    obtain ⟨x, y, z, hd⟩ := w1.dc a ea
    have fa := w1.dn a ea
    have s2 : Stp δ F1 H1 F1 (upd H1 a (.lst ([V.int x, V.int y, V.int z].set i v))) := by
      refine ⟨Ex.refl F1, fun b o hb => ?_, fun b o hb => .inl hb, fun b o hb nb => ?_, fun b eb => ?_⟩
      · have ne : b ≠ a := fun e => by subst e; rw [fa] at hb; cases hb
        rw [upd_ne ne]; exact w1.fh b o hb
      · have ne : b ≠ a := fun e => nb (by rw [e]; exact ea)
        rw [upd_ne ne]; exact hb
      · have e2 : b = a := Option.some.inj (eb.symm.trans ea)
        subst e2
        have e3 := rep_int r
        subst e3
        rw [show Dc (upd H1 b (.lst ([V.int x, V.int y, V.int z].set i (V.int n)))) b = ∃ x' y' z' : Int, (upd H1 b (.lst ([V.int x, V.int y, V.int z].set i (V.int n)))) b = some (.lst [.int x', .int y', .int z']) from rfl, upd_same]
        match i, hi with
        | 0, _ => exact ⟨_, _, _, rfl⟩
        | 1, _ => exact ⟨_, _, _, rfl⟩
        | 2, _ => exact ⟨_, _, _, rfl⟩
    refine ⟨_, eu, a, _, (i : Int), i, rfl, rfl, hd, ix_nat (by simpa using hi), q.nx _ _ (at_of k (re1.step s2) w ((s.trans w s1).trans w s2) s1.ff)⟩
/-- a loop of which the items are told but for a choice -/
def WIP (K : PySem.W.Frag) (δ : Option Addr) (H0 : Hp) (wi : TI) (ρ : List Sl) (Pn : List D → Prop) : Prop :=
  ∀ (σ : L2.St) (F H : Hp), RepE K δ H0 F H σ ρ → Wd δ F H → ∀ R : It → Hp → Prop, (∀ items J F' H', Pn items → Stp δ F H F' H' → IterD K δ J F' items → R J H') → wi σ H R
theorem wip_rng {m : Nat} (h : EI K δ H0 te ρ fun i => 0 ≤ i ∧ i < (m : Int)) (hm : m ≤ 100000) : WIP K δ H0 (iRng1 (tCons te tNil)) ρ fun items => ∃ n : Nat, n < m ∧ items = (List.range n).map fun (i : Nat) => I (i : Int) := fun σ F H re w R q =>
  h σ F H re w _ fun v F1 H1 s1 ⟨d, ⟨i, e, p1, p2⟩, r⟩ => by
    subst e
    have ev := rep_int r
    subst ev
    refine ⟨i, rfl, by omega, by omega, q _ _ F1 H1 ⟨i.toNat, by omega, rfl⟩ s1 ?_⟩
    rw [← rngD01]
    exact iter_r
theorem sd_forX {g : TG} {js : List Nat} {Pn : List D → Prop} (hw : WIP K δ H0 wi ρ Pn) (I : Nat → List Sl → Prop) (ρ' : Nat → D → List Sl → List Sl) (h0 : I 0 ρ)
    (hg : ∀ items i d ρ1, Pn items → items[i]? = some d → I i ρ1 → GD K δ H0 g d ρ1 (ρ' i d ρ1) js)
    (hs : ∀ items i d ρ1, Pn items → items[i]? = some d → I i ρ1 → SD K δ F0 H0 t (ρ' i d ρ1) { E with N := I (i + 1), C := I (i + 1), B := E.N })
    (hd : ∀ items ρ1, Pn items → I items.length ρ1 → E.N ρ1) : SD K δ F0 H0 (tFor wi g t) ρ E := fun σ F H Dn re w s q =>
  hw σ F H re (w.step s) _ fun items J F1 H1 pn s1 it => by
    refine ⟨fun i m σc Hc => m = items.length - i ∧ i ≤ items.length ∧ At K δ F0 H0 F1 (I i) σc Hc, ⟨_, rfl, Nat.zero_le _, at_of h0 (re.step s1) w (s.trans w s1) (Ex.refl F1)⟩, ?_⟩
    rintro i m σc Hc ⟨rfl, hi, Fc, ρ1, p, rc, sc, wc, ex⟩
    by_cases hlt : i < items.length
    · obtain ⟨hgo, hy⟩ := it.go Fc Hc i ex wc hlt
      refine .inr ⟨hgo, fun σ' H' => At K δ F0 H0 F1 (I (i + 1)) σ' H', fun σ' H' n => ⟨items.length - (i + 1), by omega, rfl, hlt, n⟩, fun v H2 yl => ?_⟩
      obtain ⟨F2, d, hd1, s2, r2⟩ := hy v H2 yl
      refine hg items i d ρ1 pn hd1 p σc F2 H2 v (rc.step s2) (wc.step s2) r2 _ fun σ2 re2 _ _ => ?_
      exact hs items i d ρ1 pn hd1 p σ2 F2 H2 _ re2 w (sc.trans w s2) ⟨fun σ' H' n => n.mono (ex.trans s2.ff), q.rt, fun σ' H' n => q.nx σ' H' (n.mono ((s1.ff.trans ex).trans s2.ff)), fun σ' H' n => n.mono (ex.trans s2.ff)⟩
    · have e : i = items.length := by omega
      subst e
      exact .inl ⟨it.stop Fc Hc _ ex wc rfl, q.nx σc Hc ⟨Fc, ρ1, hd items ρ1 pn p, rc, sc, wc, s1.ff.trans ex⟩⟩
theorem sd_forRX {m j : Nat} (h : EI K δ H0 te ρ fun i => 0 ≤ i ∧ i < (m : Int)) (hm : m ≤ 100000) (J : Nat → List Sl → Prop) (h0 : J 0 ρ)
    (hs : ∀ i ρ1, i + 1 < m → J i ρ1 → SD K δ F0 H0 t (ρ1.set j (.fz (Dl.I (i : Int)))) { E with N := J (i + 1), C := J (i + 1), B := E.N })
    (hd : ∀ n ρ1, n < m → J n ρ1 → E.N ρ1) : SD K δ F0 H0 (tFor (iRng1 (tCons te tNil)) (gName j) t) ρ E :=
  sd_forX (js := [j]) (wip_rng h hm) J (fun _ d ρ1 => ρ1.set j (.fz d)) h0 (fun _ _ _ _ _ _ _ => gd_name) (fun items i d ρ1 ⟨n, hn, e⟩ hq p => by
    subst e
    rw [List.getElem?_map] at hq
    cases q : (List.range n)[i]? with
    | none => rw [q] at hq; cases hq
    | some a =>
      rw [q] at hq
      cases hq
      obtain ⟨h1, rfl⟩ := rng_get q
      exact hs a ρ1 (by omega) p) (fun items ρ1 ⟨n, hn, e⟩ p => hd n ρ1 hn (by rw [e, List.length_map, List.length_range] at p; exact p))
/-- rows of which something is known -/
def EW (K : PySem.W.Frag) (δ : Option Addr) (H0 : Hp) (te : TE) (ρ : List Sl) (k : Fq) (P : List (El k) → Prop) : Prop := EP K δ H0 te ρ fun d => ∃ r : List (El k), d = .py (rP r) ∧ P r
theorem ew_of {r : List (El k)} {P : List (El k) → Prop} (h : ED K δ H0 te ρ (.py (rP r))) (p : P r) : EW K δ H0 te ρ k P := h.ep ⟨r, rfl, p⟩
theorem ew_cat {A B C : List (El k) → Prop} (ha : EW K δ H0 ta ρ k A) (hb : EW K δ H0 tb ρ k B) (hl : ∀ x y, A x → B y → x.length + y.length ≤ 100000) (hc : ∀ x y, A x → B y → C (x ++ y)) : EW K δ H0 (tOp (rCatA K) ta tb) ρ k C :=
  EP.imp (ep_catT (Pa := fun xs => ∃ r : List (El k), xs = (r.map inI).map .int ∧ A r) (Pb := fun xs => ∃ r : List (El k), xs = (r.map inI).map .int ∧ B r) (P := fun d => ∃ r : List (El k), d = .py (rP r) ∧ C r) (EP.imp ha fun _ ⟨r, e, p⟩ => ⟨_, e, r, rfl, p⟩) (EP.imp hb fun _ ⟨r, e, p⟩ => ⟨_, e, r, rfl, p⟩)
    (by
      rintro xs ys ⟨r, rfl, p⟩ ⟨r', rfl, p'⟩
      exact ⟨by simp only [List.length_map]; exact hl r r' p p', r ++ r', by show D.py (.tuple _) = D.py (.tuple _); rw [List.map_append, List.map_append], hc r r' p p'⟩)) fun _ h => h
/-- (e,), e an element -/
theorem ew_one {P : El k → Prop} {Q : List (El k) → Prop} (h : EI K δ H0 te ρ fun i => ∃ x : El k, i = inI x ∧ P x) (hq : ∀ x, P x → Q [x]) : EW K δ H0 (tTup (tCons te tNil)) ρ k Q :=
  ep_tup (Ps := fun ds => ∃ x : El k, ds = [.py (inP x)] ∧ P x) (ap_cons (P := fun d => ∃ i, d = I i ∧ ∃ x : El k, i = inI x ∧ P x) (P2 := fun _ xs => xs = []) h (fun _ _ => ap_nil) (by
    rintro _ _ ⟨i, rfl, x, rfl, p⟩ rfl
    exact ⟨x, rfl, p⟩)) (by
    rintro _ ⟨x, rfl, p⟩
    exact ⟨[inP x], rfl, (by decide : 1 ≤ 100000), [x], rfl, hq x p⟩)
end
end Dl
set_option Elab.async false
set_option linter.all false
set_option maxRecDepth 100000
set_option maxHeartbeats 2000000
namespace Dl
open PySem PySem.Spec PyProof.Rows L2 SlX Rm
/-! ### the text of rows of small numbers -/
theorem piled_le {c : Nat} : ∀ ts : List Str, (∀ t, t ∈ ts → t.length ≤ c) → piled ts ≤ (c + 2) * ts.length
  | [], _ => Nat.le_refl _
  | t :: r, h => by
    have h1 := h t List.mem_cons_self
    have h2 := piled_le r fun t ht => h t (List.mem_cons_of_mem _ ht)
    have e : piled (t :: r) = t.length + 2 + piled r := by simp [piled]
    rw [e, List.length_cons, Nat.mul_succ]
    omega
theorem tupT_le {c : Nat} (ts : List Str) (h : ∀ t, t ∈ ts → t.length ≤ c) : (tupleText ts).length ≤ (c + 2) * ts.length + 3 := by
  have hp := piled_le ts h
  unfold tupleText
  rw [Str.length_append, Str.length_append]
  have e1 : (("(" : String) : Str).length = 1 := rfl
  have e2 : ((if ts.length == 1 then ",)" else ")" : String) : Str).length ≤ 2 := by split <;> decide
  have e3 : (Str.join ", " ts).length ≤ piled ts := by
    cases ts with
    | nil => exact Nat.zero_le _
    | cons t r => have := join_length_add (t :: r) (by simp); omega
  omega
theorem shI : ∀ n : Nat, n < 9 → (PyData.shown (.int (n : Int))).length ≤ 1 ∧ PyData.showable (.int (n : Int)) = true := by
  intro n hn
  have h : n = 0 ∨ n = 1 ∨ n = 2 ∨ n = 3 ∨ n = 4 ∨ n = 5 ∨ n = 6 ∨ n = 7 ∨ n = 8 := by omega
  rcases h with e | e | e | e | e | e | e | e | e <;> subst e <;> exact ⟨by decide +kernel, by decide +kernel⟩
section
variable {k : Fq}
theorem sh_el (x : El k) : (PyData.shown (inP x)).length ≤ 1 ∧ PyData.showable (inP x) = true := shI x.v (Nat.lt_of_lt_of_le x.lt k.le9)
theorem shAll_map {α : Type} (f : α → PyData) : ∀ l : List α, PyData.shownAll (l.map f) = l.map fun a => PyData.shown (f a)
  | [] => by rw [List.map_nil, PyData.shownAll]; rfl
  | a :: l => by rw [List.map_cons, PyData.shownAll, shAll_map f l]; rfl
theorem swAll {α : Type} {f : α → PyData} : ∀ {l : List α}, (∀ a, a ∈ l → PyData.showable (f a) = true) → PyData.showableAll (l.map f) = true
  | [], _ => by rw [List.map_nil, PyData.showableAll]
  | a :: l, h => by rw [List.map_cons, PyData.showableAll, h a List.mem_cons_self, swAll fun b hb => h b (List.mem_cons_of_mem _ hb)]; rfl
theorem hdAll {α : Type} {f : α → PyData} : ∀ {l : List α}, (∀ a, a ∈ l → PyData.hasDict (f a) = false) → PyData.hasDictAll (l.map f) = false
  | [], _ => by rw [List.map_nil, PyData.hasDictAll]
  | a :: l, h => by rw [List.map_cons, PyData.hasDictAll, h a List.mem_cons_self, hdAll fun b hb => h b (List.mem_cons_of_mem _ hb)]; rfl
theorem sh_row (r : List (El k)) : (PyData.shown (rP r)).length ≤ 3 * r.length + 3 ∧ PyData.showable (rP r) = true ∧ PyData.hasDict (rP r) = false := by
  rw [rP_eq]
  refine ⟨?_, ?_, ?_⟩
  · rw [PyData.shown, shAll_map]
    have z := tupT_le (c := 1) (r.map fun a => PyData.shown (inP a)) fun t ht => by
      obtain ⟨a, _, e⟩ := List.mem_map.mp ht
      rw [← e]; exact (sh_el a).1
    rw [List.length_map] at z
    exact z
  · rw [PyData.showable]; exact swAll fun a _ => (sh_el a).2
  · rw [PyData.hasDict]; exact hdAll fun a _ => by rw [PyData.hasDict]
theorem sh_rows {n : Nat} (P : List (List (El k))) (hl : ∀ x, x ∈ P → x.length ≤ n) : (PyData.shown (rsP P)).length ≤ (3 * n + 5) * P.length + 3 ∧ PyData.showable (rsP P) = true ∧ PyData.hasDict (rsP P) = false := by
  show (PyData.shown (.tuple (P.map rP))).length ≤ _ ∧ PyData.showable (.tuple (P.map rP)) = true ∧ PyData.hasDict (.tuple (P.map rP)) = false
  refine ⟨?_, ?_, ?_⟩
  · rw [PyData.shown, shAll_map]
    have z := tupT_le (c := 3 * n + 3) (P.map fun a => PyData.shown (rP a)) fun t ht => by
      obtain ⟨a, ha, e⟩ := List.mem_map.mp ht
      have h1 := (sh_row a).1
      have h2 := hl a ha
      rw [← e]; omega
    rw [List.length_map] at z
    exact z
  · rw [PyData.showable]; exact swAll fun a _ => (sh_row a).2.1
  · rw [PyData.hasDict]; exact hdAll fun a _ => (sh_row a).2.2
theorem dp_rows (P : List (List (El k))) : PyData.depth (rsP P) ≤ 60 := by
  show PyData.depth (.tuple (P.map rP)) ≤ 60
  rw [PyData.depth]
  have := (lay_rows P).2
  omega
end
section
variable {K : PySem.W.Frag} {mg : Str → Option Value} {δ : Option Addr} {F0 H0 : Hp} {ρ : List Sl} {td ta tb tc te tl : TE} {x y z d : D} {k : Fq} {E : En} {t u : TS} {wi : TI} {ar : TA}
theorem ed_repr {P : List (List (El k))} {n : Nat} (h : ED K δ H0 te ρ (.py (rsP P))) (hl : ∀ x, x ∈ P → x.length ≤ n) (hn : n ≤ 60) (hP : P.length ≤ 60) : ED K δ H0 (tCB (rRepr K) (tCons te tNil)) ρ (.py (.str (PyData.shown (rsP P)))) := fun σ F H re w Q q =>
  h σ F H re w _ fun v F1 H1 s1 r => by
    obtain ⟨a, vs, ev, _⟩ := rep_tup r
    have dp := rep_py r
    subst ev
    obtain ⟨h1, h2, h3⟩ := sh_rows P hl
    refine ⟨a, rsP P, rfl, dp_mono (w.step s1).fh _ _ dp, h2, h3, dp_rows P, ?_, q _ F1 H1 s1 (.py (.str _))⟩
    have e : (3 * n + 5) * P.length ≤ 185 * 60 := Nat.mul_le_mul (by omega) hP
    have e2 : (11200 : Nat) ≤ sizeLine := by decide
    omega
theorem rep_str {F : Hp} {v : V} {a : Str} (h : Rep K δ F v (.py (.str a))) : v = .str a := by
  cases h with
  | py h => cases h; rfl
theorem ed_neS {a : Str} (ha : ED K δ H0 ta ρ (.py (.str a))) (hb : ED K δ H0 tb ρ (.py (.str a))) : ED K δ H0 (tOp rNe ta tb) ρ (.py (.bool false)) :=
  ed_op ha hb fun F H v w Q wd r1 r2 q => by
    have e1 := rep_str r1
    have e2 := rep_str r2
    subst e1 e2
    refine ⟨rfl, q _ F H wd.refl (.py ?_)⟩
    rw [decide_eq_true rfl]; exact .bl _
theorem ed_neRow {x y : List (El k)} (ha : ED K δ H0 ta ρ (.py (rP x))) (hb : ED K δ H0 tb ρ (.py (rP y))) : ED K δ H0 (tOp (rNeD K) ta tb) ρ (.py (.bool (!decide (x = y)))) := (ed_neD ha hb (sh_ints _) (sh_ints _)).to (by rw [eqv_row])
/-- a, b, c = (x, y, z) by a tuple, of any things -/
theorem sd_tupD3 {i j l : Nat} (ha : ED K δ H0 ta ρ x) (hb : ED K δ H0 tb ρ y) (hc : ED K δ H0 tc ρ z) (k : E.N (((ρ.set i (.fz x)).set j (.fz y)).set l (.fz z))) :
    SD K δ F0 H0 (tAsg (tTup (tCons ta (tCons tb (tCons tc tNil)))) (gTup K 3 (gCons (gName i) (gCons (gName j) (gCons (gName l) gNil))))) ρ E := fun σ F H Dn re w s q =>
  ha σ F H re (w.step s) _ fun v0 F1 H1 s1 r1 => by
    have w0 := w.step s
    have w1 := w0.step s1
    refine hb σ F1 H1 (re.step s1) w1 _ fun v2 F2 H2 s2 r2 => ?_
    have w2 := w1.step s2
    refine hc σ F2 H2 ((re.step s1).step s2) w2 _ fun v3 F3 H3 s3 r3 => ⟨by show 3 ≤ sizeLine; decide, fun A hT => ?_⟩
    have w3 := w2.step s3
    have s4 := w3.allocU (o := .tup [v0, v2, v3]) hT
    have sAll := ((s.trans w s1).trans w s2).trans w s3
    have re4 := (((re.step s1).step s2).step s3).step s4
    exact ⟨A, _, rfl, SqT.of upd_same, rfl, _, _, rfl, _, _, rfl, _, _, rfl, rfl, q.nx _ _ (at_of k (((re4.set i (r1.mono (s2.ff.trans s3.ff))).set j (r2.mono s3.ff)).set l r3) w (sAll.trans w s4) ((s1.ff.trans s2.ff).trans s3.ff))⟩
theorem nonFac (o : Option (List (El k))) : isNonD (facD o) = o.isNone := by cases o <;> rfl
/-! ### a new list of three ints handed back, not frozen -/
def SDr (K : PySem.W.Frag) (δ : Option Addr) (F0 H0 : Hp) (ts : TS) (ρ : List Sl) : Prop :=
  ∀ (σ : L2.St) (F H : Hp) (Dn : Ends), RepE K δ H0 F H σ ρ → Wd δ F0 H0 → Stp δ F0 H0 F H → (∀ p (x y z : Int) F' H', H' p = some (.lst [.int x, .int y, .int z]) → F' p = none → H0 p = none → Stp δ F0 H0 F' H' → Dn.rt (.ref p) H') → ts Dn σ H
theorem sdr_seq (h : SD K δ F0 H0 t ρ { N := fun ρ' => SDr K δ F0 H0 u ρ', R := fun _ => False }) : SDr K δ F0 H0 (tSeq t u) ρ := fun σ F H Dn re w s q =>
  h σ F H { Dn with nx := u Dn } re w s ⟨fun σ' H' ⟨F', ρ', p, r, s', w', e⟩ => p σ' F' H' Dn r w s' q, fun _ _ _ _ z => z.elim, fun _ _ ⟨_, _, z, _⟩ => z.elim, fun _ _ ⟨_, _, z, _⟩ => z.elim⟩
theorem sdr_ret {a b c : Int} (h : EN K δ H0 te ρ [.int a, .int b, .int c]) : SDr K δ F0 H0 (tRet te) ρ := fun σ F H Dn re w s q =>
  h σ F H re (w.step s) _ fun v F' H' s' ⟨p, vs, ys, e, ey, a', b', c', dp⟩ => by
    subst e ey
    have ev := dpa_ints (ns := [a, b, c]) dp
    subst ev
    exact q p a b c F' H' a' b' (s.back c') (s.trans w s')
def spDice (K : PySem.W.Frag) : Sp := fun vs H Q _ => ∃ (δ : Option Addr) (F : Hp) (ns : List Int) (i : Nat), i ≤ 1000 ∧ Reps K δ F vs [.py (.list (ns.map .int)), I (i : Int)] ∧ Wd δ F H ∧
  ∀ p (x y z : Int) F' H', H' p = some (.lst [.int x, .int y, .int z]) → F' p = none → H p = none → Stp δ F H F' H' → Q (.ref p) H'
theorem dice_run {t : TS} {N : List Str} {vs : List V} {H : Hp} {Q : VK} {Ex : XK} (h : spDice K vs H Q Ex)
    (k : ∀ (δ : Option Addr) (F0 : Hp) (ns : List Int) (i : Nat), i ≤ 1000 → SDr K δ F0 H t (.fz (.py (.list (ns.map .int))) :: .fz (I (i : Int)) :: List.replicate (N.length - 2) .no)) : t { nx := fun _ H' => Q .non H', rt := Q } (L2.start N vs) H := by
  obtain ⟨δ, F, ns, i, hi, r, w, q⟩ := h
  have hl := reps_len r
  refine k δ F ns i hi (L2.start N vs) F H _ ?_ w w.refl fun p x y z F' H' a b c s => q p x y z F' H' a b c s
  unfold L2.start
  rw [hl]
  exact repE_start _ r
/-- called with new dice -/
theorem ed_callDice {C : Con} {Ea Eb : XK} {ns : List Int} {i : Nat} (a : C.α) (ha : AD K none H0 ar ρ [.py (.list (ns.map .int)), I (i : Int)]) (hi : i ≤ 1000) (ok : C.ok a) (e : C.args a = [.dice]) (hq : ∀ d, C.R a d → d = Bo true) :
    ED K none H0 (tCall (spD K C) [] Ea (tCons (tCall (spDice K) [] Eb ar) tNil)) ρ (Bo true) := fun σ F H re w Q q =>
  ha σ F H re w _ fun vs ds F1 H1 s1 e1 r1 => by
    subst e1
    have w1 := w.step s1
    refine ⟨none, F1, ns, i, hi, by rw [List.append_nil]; exact r1, w1, fun p x y z F2 H2 hp fp hp0 s2 => ?_⟩
    have w2 := w1.step s2
    have pH : H p = none := s1.back hp0
    refine ⟨some p, F2, a, ok, by rw [e]; exact .cons (.dice rfl) .nil, ⟨w2.fh, fun b eb => by cases eb; exact fp, fun b eb => by cases eb; exact ⟨x, y, z, hp⟩⟩, fun v d F3 H3 rd rv s3 => ?_⟩
    have ed := hq d rd
    subst ed
    have ev := rep_bool rv
    subst ev
    have s12 := s1.trans w s2
    refine q _ F3 H3 ⟨s12.ff.trans s3.ff, s3.fh, fun b o hb => ?_, fun b o hb nb => ?_, fun b eb => by cases eb⟩ (.py (.bl _))
    · rcases s3.new b o hb with z1 | z1
      · exact s12.new b o z1
      · right
        cases qq : H b with
        | none => rfl
        | some u =>
          have := s12.keep b u qq (fun z => by cases z)
          rw [z1] at this; cases this
    · have h2 := s12.keep b o hb nb
      exact s3.keep b o h2 fun z1 => by
        have e4 : p = b := Option.some.inj z1
        subst e4
        rw [pH] at hb; cases hb
end
/-! ### defs called where no repr is under way; a def with a promise of its own -/
section
variable {P : Program} {w : World} {K : PySem.W.Frag} {mg : Str → Option Value} {base : Heap}
theorem fng_mk {k : Nat} {x : Str} {st : Stmt} {f : Addr} {fd : FuncData} {N ps : List Str} {C : Con} (F : FD K x st f fd) (S : FnScope N ps (defScope st))
    (hp : ∀ a, C.ok a → (C.args a).length = ps.length)
    (hbody : ∀ (cdv : Value) (A : Around) (outer : List Env) (s : Shared) (H : Hp) (E : XK), Room k (A.deeper (envOfC x (defScope st) s.heap.objs.size f cdv)) → A.guards = some [] →
      ∃ t, PSs (cxOf CX0 P w K mg base N x (defScope st) f cdv A outer s H E).nox (defBody st) t ∧ ∀ (δ : Option Addr) (F0 : Hp) (a : C.α), C.ok a →
        SD K δ F0 H t ((C.args a).map .fz ++ List.replicate (N.length - (C.args a).length) .no) { N := fun _ => C.R a (.py .none), R := C.R a }) : FnG P w K mg base (k + 1) f fd ps (spD K C) :=
  fng_of F S (fun vs H Q E ⟨δ, F, a, p, r, _⟩ => by rw [reps_len r]; exact hp a p) fun cdv A outer s H vs Q E hr hg h => by
    obtain ⟨t, h1, h2⟩ := hbody cdv A outer s H E hr hg
    exact ⟨t, h1.nox, body_run h h2⟩
structure FOS (P : Program) (w : World) (K : PySem.W.Frag) (mg : Str → Option Value) (base : Heap) (k : Nat) (x : Str) (sp : Sp) : Prop where
  ex : ∃ f fd ps, mg x = some (.ref f) ∧ PySem.W.keepIn K (.ref f) = true ∧ Binds K fd ps [] ∧ FnOk P w K mg base CX0 k f fd ps sp
theorem fos_dice {k : Nat} {x : Str} {st : Stmt} {f : Addr} {fd : FuncData} {N ps : List Str} (F : FD K x st f fd) (g : mg x = some (.ref f)) (S : FnScope N ps (defScope st)) (b : Binds K fd ps []) (hp : ps.length = 2)
    (hbody : ∀ (cdv : Value) (A : Around) (outer : List Env) (s : Shared) (H : Hp) (E : XK), Room k (A.deeper (envOfC x (defScope st) s.heap.objs.size f cdv)) →
      ∃ t, PSs (cxOf CX0 P w K mg base N x (defScope st) f cdv A outer s H E).nox (defBody st) t ∧ ∀ (δ : Option Addr) (F0 : Hp) (ns : List Int) (i : Nat), i ≤ 1000 →
        SDr K δ F0 H t (.fz (.py (.list (ns.map .int))) :: .fz (I (i : Int)) :: List.replicate (N.length - 2) .no)) : FOS P w K mg base (k + 1) x (spDice K) :=
  ⟨f, fd, ps, g, F.kp, b, FunD.ok F S (fun vs H Q E ⟨δ, F, ns, i, _, r, _⟩ => by rw [reps_len r, hp]; rfl) fun cdv A outer s H vs Q E hr h => by
    obtain ⟨t, h1, h2⟩ := hbody cdv A outer s H E hr
    exact ⟨t, h1.nox, dice_run h h2⟩⟩
end
section
variable {X : Cx} {e : Expr} {es : List Expr} {t : TA} {x : Str} {p pos : Pos} {j k : Nat} {sp : Sp}
theorem pe_fos (G : FOS X.prog X.w X.K X.mg X.base j x sp) (hr : Room k X.A) (hjk : j ≤ k) (hg : Gl X x) (ha : PA X (e :: es) t) (hdb : (x == ("__debug__" : Str)) = false := by decide)
    (he : starEach (e :: es) X.env = (false, eval e X.env) :: starEach es X.env := by rfl) (hpl : (backTo pos (starEach es X.env)).any (·.1) = false := by rfl) :
    PE X (.Call (.Name x p) (e :: es) [] pos) (tCall sp [] E0 t) := by
  obtain ⟨f, fd, ps, a, b, c, d⟩ := G.ex
  exact pe_call d (hr.mono hjk) hg a b c .nil pass0 ha hdb he hpl
end
end Dl
set_option Elab.async false
set_option linter.all false
set_option maxRecDepth 100000
set_option maxHeartbeats 4000000
namespace Dl
open PySem PySem.Spec PyProof.Rows L2 SlX Rm
section
variable {P : Program} {w : World} {K : PySem.W.Frag} {mg : Str → Option Value} {base : Heap}
def c_is_integer (K : PySem.W.Frag) : Con := { α := Int, ok := fun v => -(10 ^ 60) < v ∧ v < 10 ^ 60, args := fun v => [I v], R := fun _ d => d = Bo true }
abbrev s_is_integer : Stmt := tp 14
theorem sc_is_integer : FnScope ["value"] ["value"] (defScope s_is_integer) := ⟨rfl, rfl, rfl, by decide +kernel, rfl, by decide +kernel, by decide +kernel⟩
theorem fo_is_integer {f : Addr} {fd : FuncData} (F : FD K "is_integer" s_is_integer f fd) (g : mg "is_integer" = some (.ref f)) (T : Tk K mg) : FO P w K mg base 1 "is_integer" (c_is_integer K) :=
  fo_mk F g sc_is_integer (F.bindsN fun _ _ _ _ _ _ us hl => match us, hl with | [_], _ => rfl) (fun a _ => by first | rfl | (cases a; rfl)) fun cdv A outer s H E hr => ⟨_,
    (pss_one (ps_ret (pe_and (pe_callB (call_isi) (by rfl) T.isinstance_ (by decide +kernel) (pa_cons (pv 0) (pa_cons (pe_ty (n := "int") (by rfl) T.int_ (by decide +kernel)) pa_nil))) (pe_and (pe_not (pe_callB (call_isi) (by rfl) T.isinstance_ (by decide +kernel) (pa_cons (pv 0) (pa_cons (pe_ty (n := "bool") (by rfl) T.bool_ (by decide +kernel)) pa_nil)))) (pe_one (pe_chain op_lt op_lt (pe_un un_neg (pe_gd T.GREATEST (by rfl))) (pv 0) (pe_gd T.GREATEST (by rfl)))))))),
  fun δ F0 (v : Int) (ok : -(10 ^ 60) < v ∧ v < 10 ^ 60) => by
    refine sd_retD (ed_andV (ed_isiI (b := true) (ed_var rfl) (by decide +kernel)) fun _ => ed_andV (ed_notV (ed_isiI (b := false) (ed_var rfl) (by decide +kernel))) fun _ => ed_chainLL (ed_neg (ed_gd T.GREATEST)) (ed_var rfl) (ed_gd T.GREATEST)) ?_
    show D.py (.bool (true && (!false && (decide (-(10 ^ 60) < v) && decide (v < 10 ^ 60))))) = D.py _
    rw [decide_eq_true ok.1, decide_eq_true ok.2]; rfl⟩
def c_require_integer (K : PySem.W.Frag) : Con := { α := Int, ok := fun v => -(10 ^ 60) < v ∧ v < 10 ^ 60, args := fun v => [I v], R := fun _ d => d = .py .none }
abbrev s_require_integer : Stmt := tp 15
theorem sc_require_integer : FnScope ["value"] ["value"] (defScope s_require_integer) := ⟨rfl, rfl, rfl, by decide +kernel, rfl, by decide +kernel, by decide +kernel⟩
theorem fo_require_integer {f : Addr} {fd : FuncData} (F : FD K "require_integer" s_require_integer f fd) (g : mg "require_integer" = some (.ref f)) (T : Tk K mg) (G_is_integer : FO P w K mg base 1 "is_integer" (c_is_integer K)) : FO P w K mg base 2 "require_integer" (c_require_integer K) :=
  fo_mk F g sc_require_integer (F.bindsN fun _ _ _ _ _ _ us hl => match us, hl with | [_], _ => rfl) (fun a _ => by first | rfl | (cases a; rfl)) fun cdv A outer s H E hr => ⟨_,
    (pss_one (ps_if (pt_not (pt_val (pe_fo G_is_integer hr (by decide) (by rfl) (pa_cons (pv 0) pa_nil)))) (pss_one ps_never) pss_nil)),
  fun δ F0 v ok =>
    sd_ifD (bd_not (bd_test (ed_call (C := c_is_integer K) v (ad_cons (ed_var rfl) ap_nil) ok fun _ h => h))) (fun e => by cases e) fun _ => sd_nx rfl⟩
def c_is_from (K : PySem.W.Frag) : Con := { α := Int × Int × Int, ok := fun a => -(10 ^ 60) < a.1 ∧ a.1 < 10 ^ 60 ∧ a.2.1 ≤ a.1 ∧ a.1 ≤ a.2.2, args := fun a => [I a.1, I a.2.1, I a.2.2], R := fun _ d => d = Bo true }
abbrev s_is_from : Stmt := tp 16
theorem sc_is_from : FnScope ["value", "least", "most"] ["value", "least", "most"] (defScope s_is_from) := ⟨rfl, rfl, rfl, by decide +kernel, rfl, by decide +kernel, by decide +kernel⟩
theorem fo_is_from {f : Addr} {fd : FuncData} (F : FD K "is_from" s_is_from f fd) (g : mg "is_from" = some (.ref f)) (T : Tk K mg) (G_is_integer : FO P w K mg base 1 "is_integer" (c_is_integer K)) : FO P w K mg base 2 "is_from" (c_is_from K) :=
  fo_mk F g sc_is_from (F.bindsN fun _ _ _ _ _ _ us hl => match us, hl with | [_, _, _], _ => rfl) (fun a _ => by first | rfl | (cases a; rfl)) fun cdv A outer s H E hr => ⟨_,
    (pss_one (ps_ret (pe_and (pe_fo G_is_integer hr (by decide) (by rfl) (pa_cons (pv 0) pa_nil)) (pe_one (pe_chain op_le op_le (pv 1) (pv 0) (pv 2)))))),
  fun δ F0 a ok => by
    refine sd_retD (ed_andV (ed_call (C := c_is_integer K) a.1 (ad_cons (ed_var rfl) ap_nil) ⟨ok.1, ok.2.1⟩ fun _ h => h) fun _ => ed_chainEE (ed_var rfl) (ed_var rfl) (ed_var rfl)) ?_
    show D.py _ = D.py _
    rw [decide_eq_true ok.2.2.1, decide_eq_true ok.2.2.2]; rfl⟩
def c_require_from (K : PySem.W.Frag) : Con := { α := Int × Int × Int, ok := fun a => -(10 ^ 60) < a.1 ∧ a.1 < 10 ^ 60 ∧ a.2.1 ≤ a.1 ∧ a.1 ≤ a.2.2, args := fun a => [I a.1, I a.2.1, I a.2.2], R := fun _ d => d = .py .none }
abbrev s_require_from : Stmt := tp 17
theorem sc_require_from : FnScope ["value", "least", "most"] ["value", "least", "most"] (defScope s_require_from) := ⟨rfl, rfl, rfl, by decide +kernel, rfl, by decide +kernel, by decide +kernel⟩
theorem fo_require_from {f : Addr} {fd : FuncData} (F : FD K "require_from" s_require_from f fd) (g : mg "require_from" = some (.ref f)) (T : Tk K mg) (G_is_from : FO P w K mg base 2 "is_from" (c_is_from K)) : FO P w K mg base 3 "require_from" (c_require_from K) :=
  fo_mk F g sc_require_from (F.bindsN fun _ _ _ _ _ _ us hl => match us, hl with | [_, _, _], _ => rfl) (fun a _ => by first | rfl | (cases a; rfl)) fun cdv A outer s H E hr => ⟨_,
    (pss_one (ps_if (pt_not (pt_val (pe_fo G_is_from hr (by decide) (by rfl) (pa_cons (pv 0) (pa_cons (pv 1) (pa_cons (pv 2) pa_nil)))))) (pss_one ps_never) pss_nil)),
  fun δ F0 a ok =>
    sd_ifD (bd_not (bd_test (ed_call (C := c_is_from K) a (ad_cons (ed_var rfl) (ad_cons (ed_var rfl) (ad_cons (ed_var rfl) ap_nil))) ok fun _ h => h))) (fun e => by cases e) fun _ => sd_nx rfl⟩
def c_Slope___init__ (K : PySem.W.Frag) : Con := { α := Nat × Nat, ok := fun a => 1 ≤ a.1 ∧ a.1 ≤ 60 ∧ 1 ≤ a.2 ∧ a.2 ≤ 60, args := fun a => [I (a.1 : Int), I (a.2 : Int)], R := fun a d => d = slopeD K a.1 a.2 }
abbrev s_Slope___init__ : Stmt := L2.inClass (tp 22) 1
theorem sc_Slope___init__ : FnScope ["self", "rises", "steps"] ["self", "rises", "steps"] (defScope s_Slope___init__) := ⟨rfl, rfl, rfl, by decide +kernel, rfl, by decide +kernel, by decide +kernel⟩
theorem fo_Slope___init__ {f : Addr} {fd : FuncData} {dvs : List V} (M : Mk K (He.ga K "Slope") f) (F : FunD K "__init__" "Slope.__init__" (defArgs s_Slope___init__) (defBody s_Slope___init__) (defScope s_Slope___init__) dvs [] f fd) (b : L2.Binds K fd ["self", "rises", "steps"] []) (T : Tk K mg) (G_require_from : FO P w K mg base 3 "require_from" (c_require_from K)) : CO P w K mg base 4 "Slope" (c_Slope___init__ K) :=
  co_mk (n := 3) M T.cSlope.mg_ F sc_Slope___init__ b (fun a _ => by first | rfl | (cases a; rfl)) fun cdv A outer s H E hr => ⟨_,
    (pss_cons (ps_expr (pe_fo G_require_from hr (by decide) (by rfl) (pa_cons (pv 1) (pa_cons pe_int (pa_cons (pe_gd T.MAX_SIDE (by rfl)) pa_nil)))))
    (pss_cons (ps_expr (pe_fo G_require_from hr (by decide) (by rfl) (pa_cons (pv 2) (pa_cons pe_int (pa_cons (pe_gd T.MAX_SIDE (by rfl)) pa_nil)))))
    (pss_cons (ps_sl (pv 0) (pv 1))
    (pss_cons (ps_sl (pv 0) (pv 2))
    (pss_one (ps_sl (pv 0) (pe_callBfun cr_gcd (by rfl) T.gcd_ (pa_cons (pv 1) (pa_cons (pv 2) pa_nil))))))))),
  fun δ F0 H0 o a ok => by
    obtain ⟨r, s⟩ := a
    obtain ⟨o1, o2, o3, o4⟩ := (show 1 ≤ r ∧ r ≤ 60 ∧ 1 ≤ s ∧ s ≤ 60 from ok)
    refine sd_seq (sd_drop (P := fun _ => True) ((ed_call (C := c_require_from K) ((r : Int), 1, 60) (ad_cons (ed_var rfl) (ad_cons ed_int (ad_cons (ed_gd T.MAX_SIDE) ap_nil))) (show -(10 ^ 60) < (_ : Int) ∧ (_ : Int) < 10 ^ 60 ∧ (1 : Int) ≤ _ ∧ (_ : Int) ≤ 60 from ⟨by omega, by omega, by omega, by omega⟩) fun _ h => h).ep trivial) ?_)
    refine sd_seq (sd_drop (P := fun _ => True) ((ed_call (C := c_require_from K) ((s : Int), 1, 60) (ad_cons (ed_var rfl) (ad_cons ed_int (ad_cons (ed_gd T.MAX_SIDE) ap_nil))) (show -(10 ^ 60) < (_ : Int) ∧ (_ : Int) < 10 ^ 60 ∧ (1 : Int) ≤ _ ∧ (_ : Int) ≤ 60 from ⟨by omega, by omega, by omega, by omega⟩) fun _ h => h).ep trivial) ?_)
    refine sd_seq (sd_at (ed_var rfl) rfl T.cSlope T.slope_rises (by simp) ?_)
    refine sd_seq (sd_at (ed_var rfl) rfl T.cSlope T.slope_steps (by simp) ?_)
    exact sd_at (ed_gcd (ed_var rfl) (ed_var rfl)) rfl T.cSlope T.slope_common (by simp) ⟨_, rfl, rfl⟩⟩
def c_Slope___eq__ (K : PySem.W.Frag) : Con := { α := (Nat × Nat) × (Nat × Nat), ok := fun _ => True, args := fun a => [slopeD K a.1.1 a.1.2, slopeD K a.2.1 a.2.2], R := fun a d => d = Bo (decide (a.1 = a.2)) }
abbrev s_Slope___eq__ : Stmt := L2.inClass (tp 22) 9
theorem sc_Slope___eq__ : FnScope ["self", "other"] ["self", "other"] (defScope s_Slope___eq__) := ⟨rfl, rfl, rfl, by decide +kernel, rfl, by decide +kernel, by decide +kernel⟩
theorem fo_Slope___eq__ {f : Addr} {fd : FuncData} (F : MD K "Slope" "__eq__" "Slope.__eq__" s_Slope___eq__ f fd) (T : Tk K mg) : MO P w K mg base 1 "Slope" "__eq__" (c_Slope___eq__ K) :=
  mo_mk F sc_Slope___eq__ (F.fn.bindsN fun _ _ _ _ _ _ us hl => match us, hl with | [_, _], _ => rfl) (fun a _ => by first | rfl | (cases a; rfl)) fun cdv A outer s H E hr => ⟨_,
    (pss_one (ps_ret (pe_and (pe_callB (call_isiSl (.ref (He.ga K "Slope"))) (by rfl) T.isinstance_ (by decide +kernel) (pa_cons (pv 1) (pa_cons (pe_cls T.cSlope (by rfl)) pa_nil))) (pe_and (pe_cmpR op_eq (pe_sl (pv 0)) (pe_sl (pv 1)) (nomark _)) (pe_one (pe_cmpR op_eq (pe_sl (pv 0)) (pe_sl (pv 1)) (nomark _))))))),
  fun δ F0 a _ => by
    refine sd_retD (ed_andV (ed_isiC (ed_var rfl) T.cSlope) fun _ => ed_andV (ed_eq (ed_at (ed_var rfl) T.cSlope T.slope_rises rfl) (ed_at (ed_var rfl) T.cSlope T.slope_rises rfl)) fun _ => ed_eq (ed_at (ed_var rfl) T.cSlope T.slope_steps rfl) (ed_at (ed_var rfl) T.cSlope T.slope_steps rfl)) ?_
    obtain ⟨⟨p, q⟩, ⟨r, s⟩⟩ := a
    show D.py (.bool _) = D.py (.bool _)
    congr 2
    simp [Prod.mk.injEq, Int.ofNat_inj]⟩
def c_Slope_rises (K : PySem.W.Frag) : Con := { α := Nat × Nat, ok := fun _ => True, args := fun a => [slopeD K a.1 a.2], R := fun a d => d = I (a.1 : Int) }
abbrev s_Slope_rises : Stmt := L2.inClass (tp 22) 3
theorem sc_Slope_rises : FnScope ["self"] ["self"] (defScope s_Slope_rises) := ⟨rfl, rfl, rfl, by decide +kernel, rfl, by decide +kernel, by decide +kernel⟩
theorem fo_Slope_rises {p f : Addr} {fd : FuncData} (F : PD K "Slope" "rises" "Slope.rises" s_Slope_rises p f fd) (T : Tk K mg) : PO P w K mg base 1 "Slope" "rises" (c_Slope_rises K) :=
  po_mk F sc_Slope_rises (F.fn.bindsN fun _ _ _ _ _ _ us hl => match us, hl with | [_], _ => rfl) (fun a _ => by first | rfl | (cases a; rfl)) fun cdv A outer s H E hr => ⟨_,
    (pss_one (ps_ret (pe_sl (pv 0)))),
  fun δ F0 a _ => sd_retD (ed_at (ed_var rfl) T.cSlope T.slope_rises rfl) rfl⟩
def c_Slope_steps (K : PySem.W.Frag) : Con := { α := Nat × Nat, ok := fun _ => True, args := fun a => [slopeD K a.1 a.2], R := fun a d => d = I (a.2 : Int) }
abbrev s_Slope_steps : Stmt := L2.inClass (tp 22) 4
theorem sc_Slope_steps : FnScope ["self"] ["self"] (defScope s_Slope_steps) := ⟨rfl, rfl, rfl, by decide +kernel, rfl, by decide +kernel, by decide +kernel⟩
theorem fo_Slope_steps {p f : Addr} {fd : FuncData} (F : PD K "Slope" "steps" "Slope.steps" s_Slope_steps p f fd) (T : Tk K mg) : PO P w K mg base 1 "Slope" "steps" (c_Slope_steps K) :=
  po_mk F sc_Slope_steps (F.fn.bindsN fun _ _ _ _ _ _ us hl => match us, hl with | [_], _ => rfl) (fun a _ => by first | rfl | (cases a; rfl)) fun cdv A outer s H E hr => ⟨_,
    (pss_one (ps_ret (pe_sl (pv 0)))),
  fun δ F0 a _ => sd_retD (ed_at (ed_var rfl) T.cSlope T.slope_steps rfl) rfl⟩
def c_require_slope (K : PySem.W.Frag) : Con := { α := Nat × Nat, ok := fun _ => True, args := fun a => [slopeD K a.1 a.2], R := fun _ d => d = .py .none }
abbrev s_require_slope : Stmt := tp 23
theorem sc_require_slope : FnScope ["value"] ["value"] (defScope s_require_slope) := ⟨rfl, rfl, rfl, by decide +kernel, rfl, by decide +kernel, by decide +kernel⟩
theorem fo_require_slope {f : Addr} {fd : FuncData} (F : FD K "require_slope" s_require_slope f fd) (g : mg "require_slope" = some (.ref f)) (T : Tk K mg) : FO P w K mg base 1 "require_slope" (c_require_slope K) :=
  fo_mk F g sc_require_slope (F.bindsN fun _ _ _ _ _ _ us hl => match us, hl with | [_], _ => rfl) (fun a _ => by first | rfl | (cases a; rfl)) fun cdv A outer s H E hr => ⟨_,
    (pss_one (ps_if (pt_not (pt_val (pe_callB (call_isiSl (.ref (He.ga K "Slope"))) (by rfl) T.isinstance_ (by decide +kernel) (pa_cons (pv 0) (pa_cons (pe_cls T.cSlope (by rfl)) pa_nil))))) (pss_one ps_never) pss_nil)),
  fun δ F0 a _ => sd_ifD (bd_not (bd_test (ed_isiC (ed_var rfl) T.cSlope))) (fun e => by cases e) fun _ => sd_nx rfl⟩
def c_require_coprime (K : PySem.W.Frag) : Con := { α := Nat × Nat, ok := fun a => Nat.gcd a.1 a.2 = 1, args := fun a => [slopeD K a.1 a.2], R := fun _ d => d = .py .none }
abbrev s_require_coprime : Stmt := tp 24
theorem sc_require_coprime : FnScope ["slope"] ["slope"] (defScope s_require_coprime) := ⟨rfl, rfl, rfl, by decide +kernel, rfl, by decide +kernel, by decide +kernel⟩
theorem fo_require_coprime {f : Addr} {fd : FuncData} (F : FD K "require_coprime" s_require_coprime f fd) (g : mg "require_coprime" = some (.ref f)) (T : Tk K mg) : FO P w K mg base 1 "require_coprime" (c_require_coprime K) :=
  fo_mk F g sc_require_coprime (F.bindsN fun _ _ _ _ _ _ us hl => match us, hl with | [_], _ => rfl) (fun a _ => by first | rfl | (cases a; rfl)) fun cdv A outer s H E hr => ⟨_,
    (pss_one (ps_if (pt_cmpR op_gt (pe_sl (pv 0)) pe_int (nomark _)) (pss_one ps_never) pss_nil)),
  fun δ F0 a ok => sd_ifD (bd_B (ed_gt (ed_at (ed_var rfl) T.cSlope T.slope_common rfl) ed_int)) (fun e => by rw [ok] at e; exact absurd e (by decide)) fun _ => sd_nx rfl⟩
end
end Dl
set_option Elab.async false
set_option linter.all false
set_option maxRecDepth 100000
set_option maxHeartbeats 4000000
namespace Dl
open PySem PySem.Spec PyProof.Rows L2 SlX Rm
section
variable {P : Program} {w : World} {K : PySem.W.Frag} {mg : Str → Option Value} {base : Heap}
def c_digits_of (K : PySem.W.Frag) : Con := { α := (k : Fq) × El k, ok := fun _ => True, args := fun a => [I (a.1.n : Int), .py (inP a.2)], R := fun a d => d = .py (.list ((digI a.1 a.2).map .int)) }
abbrev s_digits_of : Stmt := tp 39
theorem sc_digits_of : FnScope ["size", "element", "prime", "found", "left", "whole"] ["size", "element"] (defScope s_digits_of) := ⟨rfl, rfl, rfl, by decide +kernel, rfl, by decide +kernel, by decide +kernel⟩
theorem fo_digits_of {f : Addr} {fd : FuncData} (F : FD K "digits_of" s_digits_of f fd) (g : mg "digits_of" = some (.ref f)) (T : Tk K mg) : FO P w K mg base 1 "digits_of" (c_digits_of K) :=
  fo_mk F g sc_digits_of (F.bindsN fun _ _ _ _ _ _ us hl => match us, hl with | [_, _], _ => rfl) (fun a _ => by first | rfl | (cases a; rfl)) fun cdv A outer s H E hr => ⟨_,
    (pss_cons (ps_asg (pe_tup (pa_cons (pe_ix (ix_idk T.PRIMES.at_) (pe_gref T.PRIMES (by rfl)) (pv 0) (fun _ _ => rfl)) (pa_cons (pe_lst pa_nil) (pa_cons (pv 1) (pa_cons pe_int pa_nil))))) (pg_tup rfl (pgs_cons (pg_name (i := 2) sc_digits_of.nd rfl (Or.inl rfl)) (pgs_cons (pg_name (i := 3) sc_digits_of.nd rfl (Or.inl rfl)) (pgs_cons (pg_name (i := 4) sc_digits_of.nd rfl (Or.inl rfl)) (pgs_cons (pg_name (i := 5) sc_digits_of.nd rfl (Or.inl rfl)) pgs_nil))))))
    (pss_cons (ps_while PassesOwn.never (pt_cmpR op_lt (pv 5) (pv 0) (nomark _)) (pss_cons (ps_expr (pe_bm PySem.F.plainAttrs_list PySem.F.slot_list_append PySem.F.type_list_append mt_append (pv 3) (pa_cons (pe_op op_mod (pv 4) (pv 2)) pa_nil)))
    (pss_cons (ps_aug (i := 4) sc_digits_of.nd rfl (Or.inl rfl) (pv 2) ip_fdiv)
    (pss_one (ps_aug (i := 5) sc_digits_of.nd rfl (Or.inl rfl) (pv 2) ip_mul)))))
    (pss_one (ps_ret (pv 3))))),
  fun δ F0 (a : (k : Fq) × El k) _ => by
    obtain ⟨k, x⟩ := a
    obtain ⟨p1, p2, p3, p4, p5⟩ := pt_n k
    refine sd_seq (sd_tup4N (x := .int (k.p : Int)) (xs := []) (z := inP x) (u := .int 1) (ed_ixI (ed_var rfl) (by cases k <;> rfl)) (en_lst ap_nil (by decide)) (ed_var rfl) ed_int (by decide) (by decide) (by decide) ?_)
    refine sd_seq (sd_while (fun m ρ1 => ∃ i, i ≤ k.t ∧ m = k.t - i ∧ ρ1 = [.fz (I (k.n : Int)), .fz (.py (inP x)), .fz (I (k.p : Int)), .ow (((List.range i).map fun j => ((x.v / k.p ^ j % k.p : Nat) : Int)).map .int), .fz (I ((x.v / k.p ^ i : Nat) : Int)), .fz (I ((k.p ^ i : Nat) : Int))]) k.t ⟨0, Nat.zero_le _, rfl, ?_⟩ ?_)
    · show [_, _, _, _, _, _] = _
      rw [Nat.pow_zero, Nat.div_one]; rfl
    · rintro m ρ1 ⟨i, hi, hm, rfl⟩
      refine ⟨_, bd_B (ed_lt (ed_var rfl) (ed_var rfl)), fun e => ?_, fun e => ?_⟩
      · have hlt : k.p ^ i < k.n := Int.ofNat_lt.mp (of_decide_eq_true e)
        have it : i < k.t := by
          rcases Nat.lt_or_ge i k.t with h | h
          · exact h
          · have := Nat.pow_le_pow_right (show 0 < k.p by omega) h
            omega
        refine sd_seq (sd_appD rfl (ed_mod (ed_var rfl) (ed_var rfl) (by omega)) (by simp; omega) ?_)
        refine sd_seq (sd_augC (a := ((x.v / k.p ^ i : Nat) : Int)) (b := (k.p : Int)) rfl (ed_var rfl) (⟨by omega, by omega⟩ : CDiv _ _) ?_)
        refine sd_augC (a := ((k.p ^ i : Nat) : Int)) (b := (k.p : Int)) rfl (ed_var rfl) (cmul_r (by omega) (by omega)) ⟨k.t - (i + 1), by omega, i + 1, it, rfl, ?_⟩
        have e1 : ((x.v / k.p ^ i : Nat) : Int) % (k.p : Int) = ((x.v / k.p ^ i % k.p : Nat) : Int) := (Int.natCast_emod _ _).symm
        have e2 : ((x.v / k.p ^ i : Nat) : Int) / (k.p : Int) = ((x.v / k.p ^ (i + 1) : Nat) : Int) := by rw [Nat.pow_succ, ← Nat.div_div_eq_div_mul]; exact (Int.natCast_ediv _ _).symm
        have e3 : ((k.p ^ i : Nat) : Int) * (k.p : Int) = ((k.p ^ (i + 1) : Nat) : Int) := by rw [Nat.pow_succ]; exact (Int.natCast_mul _ _).symm
        show [_, _, _, _, _, _] = _
        rw [e1, e2, e3, List.range_succ, List.map_append, List.map_append]; rfl
      · have hge : k.n ≤ k.p ^ i := by have := of_decide_eq_false e; omega
        have it : i = k.t := by
          rcases Nat.lt_or_ge i k.t with h | h
          · have := Nat.pow_lt_pow_right (show 1 < k.p by omega) h
            omega
          · omega
        subst it
        exact sd_freeze (i := 3) rfl (sd_retD (ed_var rfl) rfl)⟩
def c_element_of (K : PySem.W.Frag) : Con := { α := (_ : Fq) × List Int, ok := fun _ => True, args := fun a => [I (a.1.n : Int), .py (.list (a.2.map .int))], R := fun a d => d = I (elemI a.1 a.2) }
abbrev s_element_of : Stmt := tp 40
theorem sc_element_of : FnScope ["size", "digits", "digit", "prime", "found"] ["size", "digits"] (defScope s_element_of) := ⟨rfl, rfl, rfl, by decide +kernel, rfl, by decide +kernel, by decide +kernel⟩
theorem fo_element_of {f : Addr} {fd : FuncData} (F : FD K "element_of" s_element_of f fd) (g : mg "element_of" = some (.ref f)) (T : Tk K mg) : FO P w K mg base 1 "element_of" (c_element_of K) :=
  fo_mk F g sc_element_of (F.bindsN fun _ _ _ _ _ _ us hl => match us, hl with | [_, _], _ => rfl) (fun a _ => by first | rfl | (cases a; rfl)) fun cdv A outer s H E hr => ⟨_,
    (pss_cons (ps_par (i := 3) (j := 4) rfl sc_element_of.nd rfl rfl (by decide) rfl rfl (pa_cons (pe_ix (ix_idk T.PRIMES.at_) (pe_gref T.PRIMES (by rfl)) (pv 0) (fun _ _ => rfl)) (pa_cons pe_int pa_nil)) (by rfl))
    (pss_cons (ps_for PassesOwn.never rfl (pi_list (pe_revL (pv 1))) (pg_name (i := 2) sc_element_of.nd rfl (Or.inl rfl)) (pss_one (ps_set (i := 4) sc_element_of.nd rfl (Or.inl rfl) (pe_op op_add (pe_op op_mul (pv 4) (pv 3)) (pe_op op_mod (pv 2) (pv 3))))))
    (pss_one (ps_ret (pv 4))))),
  fun δ F0 (a : (_ : Fq) × List Int) _ => by
    obtain ⟨k, ds⟩ := a
    obtain ⟨p1, p2, p3, p4, p5⟩ := pt_n k
    refine sd_seq (sd_parD (x := I (k.p : Int)) (y := I 0) (ed_ixI (ed_var rfl) (by cases k <;> rfl)) ed_int ?_)
    refine sd_seq (sd_forN (wi_list (ed_en (en_rev (el_fz (ed_var rfl))))) (fun i ρ1 => ∃ z, ρ1 = [.fz (I (k.n : Int)), .fz (.py (.list (ds.map .int))), z, .fz (I (k.p : Int)), .fz (I ((ds.reverse.take i).foldl (fun f d => f * (k.p : Int) + d % (k.p : Int)) 0))]) ⟨_, rfl⟩ ?_ ?_)
    · rintro i d ρ1 hd ⟨z, rfl⟩
      rw [List.getElem?_map, ← List.map_reverse, List.getElem?_map] at hd
      cases q : ds.reverse[i]? with
      | none => rw [q] at hd; cases hd
      | some v =>
        rw [q] at hd
        cases hd
        refine sd_asgD (ed_add (ed_mul (ed_var rfl) (ed_var rfl) (cmul_r (by omega) (by omega))) (ed_mod (ed_var rfl) (ed_var rfl) (by omega))) ⟨.fz (I v), ?_⟩
        show [_, _, _, _, _] = _
        rw [List.take_succ, q, List.foldl_append]; rfl
    · rintro ρ1 ⟨z, rfl⟩
      refine sd_retD (ed_var rfl) ?_
      rw [List.length_map, List.length_reverse, List.length_map]
      have e : ds.reverse.take ds.length = ds.reverse := List.take_of_length_le (by rw [List.length_reverse]; exact Nat.le_refl _)
      rw [e]; rfl⟩
def c_sum_in (K : PySem.W.Frag) : Con := { α := (k : Fq) × El k × El k, ok := fun _ => True, args := fun a => [I (a.1.n : Int), .py (inP a.2.1), .py (inP a.2.2)], R := fun a d => d = .py (inP (a.2.1 + a.2.2)) }
abbrev s_sum_in : Stmt := tp 41
theorem sc_sum_in : FnScope ["size", "one", "other", "x", "y"] ["size", "one", "other"] (defScope s_sum_in) := ⟨rfl, rfl, rfl, by decide +kernel, rfl, by decide +kernel, by decide +kernel⟩
theorem fo_sum_in {f : Addr} {fd : FuncData} (F : FD K "sum_in" s_sum_in f fd) (g : mg "sum_in" = some (.ref f)) (T : Tk K mg) (G_element_of : FO P w K mg base 1 "element_of" (c_element_of K)) (G_digits_of : FO P w K mg base 1 "digits_of" (c_digits_of K)) : FO P w K mg base 2 "sum_in" (c_sum_in K) :=
  fo_mk F g sc_sum_in (F.bindsN fun _ _ _ _ _ _ us hl => match us, hl with | [_, _, _], _ => rfl) (fun a _ => by first | rfl | (cases a; rfl)) fun cdv A outer s H E hr => ⟨_,
    (pss_one (ps_ret (pe_fo G_element_of hr (by decide) (by rfl) (pa_cons (pv 0) (pa_cons (pe_lc rfl sc_sum_in.nd (RZ.pi_zipA (by rfl) T.zip_ (pa_cons (pe_fo G_digits_of hr (by decide) (by rfl) (pa_cons (pv 0) (pa_cons (pv 1) pa_nil))) (pa_cons (pe_fo G_digits_of hr (by decide) (by rfl) (pa_cons (pv 0) (pa_cons (pv 2) pa_nil))) pa_nil))) (blkOk_by (N := ["size", "one", "other", "x", "y"]) (own := [("x", 3), ("y", 4)]) (sc := defScope s_sum_in) (by decide +kernel)) (g := gTup K 2 (gCons (gName 3) (gCons (gName 4) gNil))) (tt := tYes) (fun _ _ _ _ _ => (pg_tup rfl (pgs_cons (pg_name (i := 3) sc_sum_in.nd rfl (Or.inl rfl)) (pgs_cons (pg_name (i := 4) sc_sum_in.nd rfl (Or.inl rfl)) pgs_nil)))) (fun _ _ _ _ _ => pts_nil) (fun _ _ _ _ _ => (pe_op op_add (pv 3) (pv 4)))) pa_nil))))),
  fun δ F0 (a : (k : Fq) × El k × El k) _ => by
    obtain ⟨k, x, y⟩ := a
    have dl : ∀ z : El k, (digI k z).length = k.t := fun z => by unfold digI; simp
    obtain ⟨p1, p2, p3, p4, p5⟩ := pt_n k
    refine sd_retD (ed_call (C := c_element_of K) ⟨k, ((digI k x).zip (digI k y)).map fun p => p.1 + p.2⟩ (ad_cons (ed_var rfl) (ad_cons ((ed_en (en_zip (as := digI k x) (bs := digI k y) (ea := .int) (eb := .int)
      (wi_zipL (ed_call (C := c_digits_of K) ⟨k, x⟩ (ad_cons (ed_var rfl) (ad_cons (ed_var rfl) ap_nil)) trivial fun _ h => h) (ed_call (C := c_digits_of K) ⟨k, y⟩ (ad_cons (ed_var rfl) (ad_cons (ed_var rfl) ap_nil)) trivial fun _ h => h))
      (fun u v => .int (u + v)) (by rw [dl]; omega) fun u v _ => ed_add (ed_var rfl) (ed_var rfl))).to ?_) ap_nil)) trivial fun _ h => h) (congrArg (fun z => D.py (.int z)) (sum_ok k x y))
    rw [List.map_map]; rfl⟩
def c_product_in (K : PySem.W.Frag) : Con := { α := (k : Fq) × El k × El k, ok := fun _ => True, args := fun a => [I (a.1.n : Int), .py (inP a.2.1), .py (inP a.2.2)], R := fun a d => d = .py (inP (a.2.1 * a.2.2)) }
abbrev s_product_in : Stmt := tp 42
theorem sc_product_in : FnScope ["size", "one", "other", "found", "factor", "digits", "factors", "carried", "moved", "digit", "here", "over"] ["size", "one", "other"] (defScope s_product_in) := ⟨rfl, rfl, rfl, by decide +kernel, rfl, by decide +kernel, by decide +kernel⟩
theorem fo_product_in {f : Addr} {fd : FuncData} (F : FD K "product_in" s_product_in f fd) (g : mg "product_in" = some (.ref f)) (T : Tk K mg) (G_element_of : FO P w K mg base 1 "element_of" (c_element_of K)) (G_digits_of : FO P w K mg base 1 "digits_of" (c_digits_of K)) : FO P w K mg base 2 "product_in" (c_product_in K) :=
  fo_mk F g sc_product_in (F.bindsN fun _ _ _ _ _ _ us hl => match us, hl with | [_, _, _], _ => rfl) (fun a _ => by first | rfl | (cases a; rfl)) fun cdv A outer s H E hr => ⟨_,
    (pss_cons (ps_if (pt_cmpR (op_notIn_idk T.CARRIES.at_) (pv 0) (pe_gref T.CARRIES (by rfl)) rfl) (pss_one (ps_ret (pe_op op_mod (pe_op op_mul (pv 1) (pv 2)) (pv 0)))) pss_nil)
    (pss_cons (ps_par (i := 5) (j := 6) rfl sc_product_in.nd rfl rfl (by decide) rfl rfl (pa_cons (pe_fo G_digits_of hr (by decide) (by rfl) (pa_cons (pv 0) (pa_cons (pv 1) pa_nil))) (pa_cons (pe_fo G_digits_of hr (by decide) (by rfl) (pa_cons (pv 0) (pa_cons (pv 2) pa_nil))) pa_nil)) (by rfl))
    (pss_cons (ps_set (i := 3) sc_product_in.nd rfl (Or.inr rfl) (pe_lc rfl sc_product_in.nd (pi_list (pv 5)) (blkOk_by (N := ["size", "one", "other", "found", "factor", "digits", "factors", "carried", "moved", "digit", "here", "over"]) (own := [("digit", 9)]) (sc := defScope s_product_in) (by decide +kernel)) (g := gName 9) (tt := tYes) (fun _ _ _ _ _ => (pg_name (i := 9) sc_product_in.nd rfl (Or.inl rfl))) (fun _ _ _ _ _ => pts_nil) (fun _ _ _ _ _ => pe_int)))
    (pss_cons (ps_for PassesOwn.never rfl (pi_list (pe_revL (pv 6))) (pg_name (i := 4) sc_product_in.nd rfl (Or.inr rfl)) (pss_cons (ps_setLc (i := 7) rfl sc_product_in.nd rfl rfl (sw_true rfl rfl rfl (by decide +kernel)) (pi_tup (pe_ix (ix_idk T.CARRIES.at_) (pe_gref T.CARRIES (by rfl)) (pv 0) (fun _ _ => rfl))) (blkOk_by (N := ["size", "one", "other", "found", "factor", "digits", "factors", "carried", "moved", "digit", "here", "over"]) (own := [("digit", 9)]) (sc := defScope s_product_in) (by decide +kernel)) (g := gName 9) (tt := tYes) (fun _ _ _ _ _ => (pg_name (i := 9) sc_product_in.nd rfl (Or.inl rfl))) (fun _ _ _ _ _ => pts_nil) (fun _ _ _ _ _ => (pe_op op_mul (pe_ix (ix_seqK (K := K)) (pv 3) (pe_un un_neg pe_int) (fun _ _ => rfl)) (pv 9))))
    (pss_cons (ps_set (i := 8) sc_product_in.nd rfl (Or.inl rfl) (pe_lst (pa_cons pe_int (StX.pa_star (pe_slice sl_list (pv 3) po_none (po_some (pe_un un_neg pe_int))) pa_nil))))
    (pss_one (ps_set (i := 3) sc_product_in.nd rfl (Or.inr rfl) (pe_lc rfl sc_product_in.nd (pi_zip3 (by rfl) T.zip_ (pa_cons (pv 8) (pa_cons (pv 7) (pa_cons (pv 5) pa_nil)))) (blkOk_by (N := ["size", "one", "other", "found", "factor", "digits", "factors", "carried", "moved", "digit", "here", "over"]) (own := [("here", 10), ("over", 11), ("digit", 9)]) (sc := defScope s_product_in) (by decide +kernel)) (g := gTup K 3 (gCons (gName 10) (gCons (gName 11) (gCons (gName 9) gNil)))) (tt := tYes) (fun _ _ _ _ _ => (pg_tup rfl (pgs_cons (pg_name (i := 10) sc_product_in.nd rfl (Or.inl rfl)) (pgs_cons (pg_name (i := 11) sc_product_in.nd rfl (Or.inl rfl)) (pgs_cons (pg_name (i := 9) sc_product_in.nd rfl (Or.inl rfl)) pgs_nil))))) (fun _ _ _ _ _ => pts_nil) (fun _ _ _ _ _ => (pe_op op_add (pe_op op_add (pv 10) (pv 11)) (pe_op op_mul (pv 4) (pv 9))))))))))
    (pss_one (ps_ret (pe_fo G_element_of hr (by decide) (by rfl) (pa_cons (pv 0) (pa_cons (pv 3) pa_nil))))))))),
  fun δ F0 (a : (k : Fq) × El k × El k) _ => by
    obtain ⟨k, x, y⟩ := a
    obtain ⟨p1, p2, p3, p4, p5⟩ := pt_n k
    have kn : k.n ≤ 9 := by cases k <;> decide
    have hx : x.v < k.n := x.isLt
    have hy : y.v < k.n := y.isLt
    cases hc : carI k with
    | none =>
      have e : (carriesD.lookup (k.n : Int)).isSome = false := by revert hc; cases k <;> decide
      refine sd_seq (sd_ifD (bd_test (ed_notInI (ed_var rfl))) (fun _ => sd_retD (ed_mod (ed_mul (ed_var rfl) (ed_var rfl) (cmul_l (a := (x.v : Int)) (by omega) (by omega))) (ed_var rfl) (show (0 : Int) < (k.n : Int) by omega)) (congrArg (fun z => D.py (.int z)) (prod_mod hc x y))) fun h => ?_)
      rw [e] at h; cases h
    | some car =>
      have e : carriesD.lookup (k.n : Int) = some (.tuple (car.map .int)) := by
        revert hc
        cases k <;> intro hc <;> first | (cases hc; done) | (cases hc; rfl)
      have cb : ∀ d, d ∈ car → 0 ≤ d ∧ d ≤ 2 := by
        revert hc
        cases k <;> intro hc <;> first | (cases hc; done) | (cases hc; decide)
      have db : ∀ z : El k, ∀ d, d ∈ digI k z → 0 ≤ d ∧ d ≤ 7 := fun z d h => by
        obtain ⟨i, _, q⟩ := List.mem_map.mp h
        have := Nat.mod_lt (z.v / k.p ^ i) (show 0 < k.p by omega)
        omega
      refine sd_seq (sd_ifD (bd_test (ed_notInI (ed_var rfl))) (fun h => ?_) fun _ => sd_nx ?_)
      · rw [e] at h; cases h
      refine sd_seq (sd_parD (ed_call (C := c_digits_of K) ⟨k, x⟩ (ad_cons (ed_var rfl) (ad_cons (ed_var rfl) ap_nil)) trivial fun _ h => h) (ed_call (C := c_digits_of K) ⟨k, y⟩ (ad_cons (ed_var rfl) (ad_cons (ed_var rfl) ap_nil)) trivial fun _ h => h) ?_)
      refine sd_seq (sd_asgD (ed_en (en_map (as := digI k x) (wi_listM (ed_var rfl)) (fun _ => .int 0) (by rw [dig_len]; omega) fun _ _ => ed_int)) ?_)
      refine sd_seq (sd_forN (wi_listM (as := (digI k y).reverse) (f := .int) ((ed_en (en_rev (el_fz (ed_var rfl)))).to (by rw [List.map_reverse]))) (fun i ρ1 => ∃ u v z, ρ1 = [.fz (I (k.n : Int)), .fz (.py (inP x)), .fz (.py (inP y)), .fz (.py (.list ((prAt k car x y i).map .int))), u, .fz (.py (.list ((digI k x).map .int))), .fz (.py (.list ((digI k y).map .int))), v, z, .no, .no, .no]) ⟨.no, .no, .no, ?_⟩ ?_ ?_)
      · have z : (digI k x).map (fun _ => PyData.int 0) = (prAt k car x y 0).map .int := by
          rw [List.map_const', dig_len]
          exact (List.map_replicate).symm
        show [_, _, _, _, _, _, _, _, _, _, _, _] = _
        rw [z]
      · rintro i d ρ1 hd ⟨u, v, z, rfl⟩
        rw [List.getElem?_map] at hd
        cases q : (digI k y).reverse[i]? with
        | none => rw [q] at hd; cases hd
        | some w =>
          rw [q] at hd
          cases hd
          have hw := db y w (List.mem_reverse.mp (List.mem_of_getElem? q))
          have hl := prAt_len hc x y i
          refine sd_seq (sd_asgD (ed_en (en_map (as := car) (e := fun d => .py (.int d)) (wi_tupM (ed_ixI (ed_var rfl) e)) (fun d => .int (lastI (prAt k car x y i) * d)) (by rw [car_len k car hc]; omega) fun d hd =>
            ed_mul (ed_ixL (el_fz (ed_var rfl)) (ed_neg ed_int) ?_) (ed_var rfl) (cmul_r (by have := cb d hd; omega) (by have := cb d hd; omega)))) ?_)
          · rw [at_last (v := lastI (prAt k car x y i))]
            unfold lastI
            rw [List.getD_eq_getElem?_getD, List.getElem?_eq_getElem (by omega)]; rfl
          refine sd_seq (sd_asgD (ed_en (en_lst (ds := (0 :: (prAt k car x y i).dropLast).map .int) (ad_one ed_int (el_en (en_init (f := .int) (l := prAt k car x y i) (el_fz (ed_var rfl)) od_none (od_some (ed_neg ed_int)))) ap_nil) (by rw [List.length_map, List.length_cons, List.length_dropLast]; omega))) ?_)
          refine sd_asgD (ed_en (en_zip3 (as := 0 :: (prAt k car x y i).dropLast) (bs := car.map fun d => lastI (prAt k car x y i) * d) (cs := digI k x) (ea := .int) (eb := .int) (ec := .int)
            (wi_zip3 (ed_var rfl) ((ed_var rfl).to (by rw [List.map_map]; rfl)) (ed_var rfl) ?_ ?_) (fun a b c => .int (a + b + w * c)) ?_ fun a b c hm =>
              ed_add (ed_add (ed_var rfl) (ed_var rfl)) (ed_mul (ed_var rfl) (ed_var rfl) (cmul_l (by omega) (by omega))))) ?_
          · simp [List.length_map, car_len k car hc]; omega
          · simp [car_len k car hc, dig_len]
          · simp; omega
          · have z1 : (((0 :: (prAt k car x y i).dropLast).zip ((car.map fun d => lastI (prAt k car x y i) * d).zip (digI k x))).map fun p => PyData.int (p.1 + p.2.1 + w * p.2.2)) = (prAt k car x y (i + 1)).map .int := by
              rw [prAt_succ q]
              unfold prStep
              rw [List.map_map]; rfl
            refine ⟨.fz (I w), .fz (.py (.list (car.map fun d => .int (lastI (prAt k car x y i) * d)))), .fz (.py (.list ((0 :: (prAt k car x y i).dropLast).map .int))), ?_⟩
            show [_, _, _, _, _, _, _, _, _, _, _, _] = _
            rw [z1]
      · rintro ρ1 ⟨u, v, z, rfl⟩
        refine sd_retD (ed_call (C := c_element_of K) ⟨k, prDig k car x y⟩ (ad_cons (ed_var rfl) (ad_cons ((ed_var rfl).to ?_) ap_nil)) trivial fun _ h => h) (congrArg (fun z => D.py (.int z)) (prod_car hc x y))
        rw [List.length_map, List.length_reverse, dig_len, prAt_end]⟩
end
end Dl
set_option Elab.async false
set_option linter.all false
set_option maxRecDepth 100000
set_option maxHeartbeats 4000000
namespace Dl
open PySem PySem.Spec PyProof.Rows L2 SlX Rm
section
variable {P : Program} {w : World} {K : PySem.W.Frag} {mg : Str → Option Value} {base : Heap}
def c_Field___contains__ (K : PySem.W.Frag) : Con := { α := (k : Fq) × El k, ok := fun _ => True, args := fun a => [fieldD K a.1, .py (inP a.2)], R := fun _ d => d = Bo true }
abbrev s_Field___contains__ : Stmt := L2.inClass (tp 43) 14
theorem sc_Field___contains__ : FnScope ["self", "value"] ["self", "value"] (defScope s_Field___contains__) := ⟨rfl, rfl, rfl, by decide +kernel, rfl, by decide +kernel, by decide +kernel⟩
theorem fo_Field___contains__ {f : Addr} {fd : FuncData} (F : MD K "Field" "__contains__" "Field.__contains__" s_Field___contains__ f fd) (T : Tk K mg) (G_is_from : FO P w K mg base 2 "is_from" (c_is_from K)) : MO P w K mg base 3 "Field" "__contains__" (c_Field___contains__ K) :=
  mo_mk F sc_Field___contains__ (F.fn.bindsN fun _ _ _ _ _ _ us hl => match us, hl with | [_, _], _ => rfl) (fun a _ => by first | rfl | (cases a; rfl)) fun cdv A outer s H E hr => ⟨_,
    (pss_one (ps_ret (pe_fo G_is_from hr (by decide) (by rfl) (pa_cons (pv 1) (pa_cons pe_int (pa_cons (pe_op op_sub (pe_sl (pv 0)) pe_int) pa_nil)))))),
  fun δ F0 (a : (k : Fq) × El k) _ => by
    obtain ⟨k, x⟩ := a
    have h1 := inI_nn x
    have h2 := inI_lt x
    have h3 := inI_9 x
    exact sd_retD (ed_call (C := c_is_from K) (inI x, 0, (k.n : Int) - 1) (ad_cons (ed_var rfl) (ad_cons ed_int (ad_cons (ed_sub (ed_fSize T (ed_var rfl)) ed_int) ap_nil))) (show -(10 ^ 60) < inI x ∧ inI x < 10 ^ 60 ∧ (0 : Int) ≤ inI x ∧ inI x ≤ (k.n : Int) - 1 from ⟨by omega, by omega, by omega, by omega⟩) fun _ h => h) rfl⟩
def c_Field___eq__ (K : PySem.W.Frag) : Con := { α := Fq, ok := fun _ => True, args := fun k => [fieldD K k, fieldD K k], R := fun _ d => d = Bo true }
abbrev s_Field___eq__ : Stmt := L2.inClass (tp 43) 17
theorem sc_Field___eq__ : FnScope ["self", "other"] ["self", "other"] (defScope s_Field___eq__) := ⟨rfl, rfl, rfl, by decide +kernel, rfl, by decide +kernel, by decide +kernel⟩
theorem fo_Field___eq__ {f : Addr} {fd : FuncData} (F : MD K "Field" "__eq__" "Field.__eq__" s_Field___eq__ f fd) (T : Tk K mg) : MO P w K mg base 1 "Field" "__eq__" (c_Field___eq__ K) :=
  mo_mk F sc_Field___eq__ (F.fn.bindsN fun _ _ _ _ _ _ us hl => match us, hl with | [_, _], _ => rfl) (fun a _ => by first | rfl | (cases a; rfl)) fun cdv A outer s H E hr => ⟨_,
    (pss_one (ps_ret (pe_and (pe_callB (call_isiSl (.ref (He.ga K "Field"))) (by rfl) T.isinstance_ (by decide +kernel) (pa_cons (pv 1) (pa_cons (pe_cls T.cField (by rfl)) pa_nil))) (pe_one (pe_cmpR op_eq (pe_sl (pv 0)) (pe_sl (pv 1)) (nomark _)))))),
  fun δ F0 (k : Fq) _ => by
    refine sd_retD (ed_andV (ed_isiC (ed_var rfl) T.cField) fun _ => ed_eq (ed_fSize T (k := k) (ed_var rfl)) (ed_fSize T (k := k) (ed_var rfl))) ?_
    show D.py _ = D.py _
    simp⟩
def c_require_field (K : PySem.W.Frag) : Con := { α := Fq, ok := fun _ => True, args := fun k => [fieldD K k], R := fun _ d => d = .py .none }
abbrev s_require_field : Stmt := tp 44
theorem sc_require_field : FnScope ["value"] ["value"] (defScope s_require_field) := ⟨rfl, rfl, rfl, by decide +kernel, rfl, by decide +kernel, by decide +kernel⟩
theorem fo_require_field {f : Addr} {fd : FuncData} (F : FD K "require_field" s_require_field f fd) (g : mg "require_field" = some (.ref f)) (T : Tk K mg) : FO P w K mg base 1 "require_field" (c_require_field K) :=
  fo_mk F g sc_require_field (F.bindsN fun _ _ _ _ _ _ us hl => match us, hl with | [_], _ => rfl) (fun a _ => by first | rfl | (cases a; rfl)) fun cdv A outer s H E hr => ⟨_,
    (pss_one (ps_if (pt_not (pt_val (pe_callB (call_isiSl (.ref (He.ga K "Field"))) (by rfl) T.isinstance_ (by decide +kernel) (pa_cons (pv 0) (pa_cons (pe_cls T.cField (by rfl)) pa_nil))))) (pss_one ps_never) pss_nil)),
  fun δ F0 (k : Fq) _ => sd_ifD (bd_not (bd_test (ed_isiC (ed_var rfl) T.cField))) (fun e => by cases e) fun _ => sd_nx rfl⟩
def c_require_elements (K : PySem.W.Frag) : Con := { α := (k : Fq) × List (El k), ok := fun _ => True, args := fun a => [fieldD K a.1, .py (rP a.2)], R := fun _ d => d = .py .none }
abbrev s_require_elements : Stmt := tp 45
theorem sc_require_elements : FnScope ["field", "values", "value"] ["field", "values"] (defScope s_require_elements) := ⟨rfl, rfl, rfl, by decide +kernel, rfl, by decide +kernel, by decide +kernel⟩
theorem fo_require_elements {f : Addr} {fd : FuncData} (F : FD K "require_elements" s_require_elements f fd) (g : mg "require_elements" = some (.ref f)) (T : Tk K mg) (G_Field___contains__ : MO P w K mg base 3 "Field" "__contains__" (c_Field___contains__ K)) : FO P w K mg base 4 "require_elements" (c_require_elements K) :=
  fo_mk F g sc_require_elements (F.bindsN fun _ _ _ _ _ _ us hl => match us, hl with | [_, _], _ => rfl) (fun a _ => by first | rfl | (cases a; rfl)) fun cdv A outer s H E hr => ⟨_,
    (pss_one (ps_for PassesOwn.never rfl (pi_tup (pv 1)) (pg_name (i := 2) sc_require_elements.nd rfl (Or.inl rfl)) (pss_one (ps_if (pt_cmpR (op_notInO G_Field___contains__ hr (by decide)) (pv 2) (pv 0) rfl) (pss_one ps_never) pss_nil)))),
  fun δ F0 (a : (k : Fq) × List (El k)) _ => by
    obtain ⟨k, r⟩ := a
    refine sd_forM (as := r) (e := fun a => .py (inP a)) (wi_row (ed_var rfl)) (fun i ρ1 => ∃ z, ρ1 = [.fz (fieldD K k), .fz (.py (rP r)), z]) ⟨_, rfl⟩ ?_ (fun _ _ => rfl)
    rintro i a ρ1 q ⟨z, rfl⟩
    exact sd_ifD (bd_test (ed_inO (C := c_Field___contains__ K) (neg := true) ⟨k, a⟩ (ed_var rfl) (ed_var rfl) rfl trivial fun _ h => h)) (fun e => by cases e) fun _ => sd_nx ⟨_, rfl⟩⟩
def c_Field_plus (K : PySem.W.Frag) : Con := { α := (k : Fq) × El k × El k, ok := fun _ => True, args := fun a => [fieldD K a.1, .py (inP a.2.1), .py (inP a.2.2)], R := fun a d => d = .py (inP (a.2.1 + a.2.2)) }
abbrev s_Field_plus : Stmt := L2.inClass (tp 43) 6
theorem sc_Field_plus : FnScope ["self", "x", "y"] ["self", "x", "y"] (defScope s_Field_plus) := ⟨rfl, rfl, rfl, by decide +kernel, rfl, by decide +kernel, by decide +kernel⟩
theorem fo_Field_plus {f : Addr} {fd : FuncData} (F : MD K "Field" "plus" "Field.plus" s_Field_plus f fd) (T : Tk K mg) (G_require_elements : FO P w K mg base 4 "require_elements" (c_require_elements K)) : MO P w K mg base 5 "Field" "plus" (c_Field_plus K) :=
  mo_mk F sc_Field_plus (F.fn.bindsN fun _ _ _ _ _ _ us hl => match us, hl with | [_, _, _], _ => rfl) (fun a _ => by first | rfl | (cases a; rfl)) fun cdv A outer s H E hr => ⟨_,
    (pss_cons (ps_expr (pe_fo G_require_elements hr (by decide) (by rfl) (pa_cons (pv 0) (pa_cons (pe_tup (pa_cons (pv 1) (pa_cons (pv 2) pa_nil))) pa_nil))))
    (pss_one (ps_ret (pe_ix ix_seq (pe_ix ix_seq (pe_sl (pv 0)) (pv 1) (fun _ _ => rfl)) (pv 2) (fun _ _ => rfl))))),
  fun δ F0 (a : (k : Fq) × El k × El k) _ => by
    obtain ⟨k, x, y⟩ := a
    refine sd_seq (sd_drop (P := fun _ => True) ((ed_call (C := c_require_elements K) ⟨k, [x, y]⟩ (ad_cons (ed_var rfl) (ad_cons (ed_tup (ds := [inP x, inP y]) (ad_cons (ed_var rfl) (ad_cons (ed_var rfl) ap_nil)) (by decide : 2 ≤ 100000)) ap_nil)) trivial fun _ h => h).ep trivial) ?_)
    exact sd_retD (ed_plus (ed_fPlus T (ed_var rfl)) (ed_var rfl) (ed_var rfl)) rfl⟩
def c_Field_times (K : PySem.W.Frag) : Con := { α := (k : Fq) × El k × El k, ok := fun _ => True, args := fun a => [fieldD K a.1, .py (inP a.2.1), .py (inP a.2.2)], R := fun a d => d = .py (inP (a.2.1 * a.2.2)) }
abbrev s_Field_times : Stmt := L2.inClass (tp 43) 8
theorem sc_Field_times : FnScope ["self", "x", "y"] ["self", "x", "y"] (defScope s_Field_times) := ⟨rfl, rfl, rfl, by decide +kernel, rfl, by decide +kernel, by decide +kernel⟩
theorem fo_Field_times {f : Addr} {fd : FuncData} (F : MD K "Field" "times" "Field.times" s_Field_times f fd) (T : Tk K mg) (G_require_elements : FO P w K mg base 4 "require_elements" (c_require_elements K)) : MO P w K mg base 5 "Field" "times" (c_Field_times K) :=
  mo_mk F sc_Field_times (F.fn.bindsN fun _ _ _ _ _ _ us hl => match us, hl with | [_, _, _], _ => rfl) (fun a _ => by first | rfl | (cases a; rfl)) fun cdv A outer s H E hr => ⟨_,
    (pss_cons (ps_expr (pe_fo G_require_elements hr (by decide) (by rfl) (pa_cons (pv 0) (pa_cons (pe_tup (pa_cons (pv 1) (pa_cons (pv 2) pa_nil))) pa_nil))))
    (pss_one (ps_ret (pe_ix ix_seq (pe_ix ix_seq (pe_sl (pv 0)) (pv 1) (fun _ _ => rfl)) (pv 2) (fun _ _ => rfl))))),
  fun δ F0 (a : (k : Fq) × El k × El k) _ => by
    obtain ⟨k, x, y⟩ := a
    refine sd_seq (sd_drop (P := fun _ => True) ((ed_call (C := c_require_elements K) ⟨k, [x, y]⟩ (ad_cons (ed_var rfl) (ad_cons (ed_tup (ds := [inP x, inP y]) (ad_cons (ed_var rfl) (ad_cons (ed_var rfl) ap_nil)) (by decide : 2 ≤ 100000)) ap_nil)) trivial fun _ h => h).ep trivial) ?_)
    exact sd_retD (ed_times (ed_fTimes T (ed_var rfl)) (ed_var rfl) (ed_var rfl)) rfl⟩
def c_is_row_of (K : PySem.W.Frag) : Con := { α := (k : Fq) × Nat × List (El k), ok := fun a => a.2.2.length = a.2.1 ∧ a.2.1 ≤ 1000, args := fun a => [fieldD K a.1, I (a.2.1 : Int), .py (rP a.2.2)], R := fun _ d => d = Bo true }
abbrev s_is_row_of : Stmt := tp 48
theorem sc_is_row_of : FnScope ["field", "length", "value", "one"] ["field", "length", "value"] (defScope s_is_row_of) := ⟨rfl, rfl, rfl, by decide +kernel, rfl, by decide +kernel, by decide +kernel⟩
theorem fo_is_row_of {f : Addr} {fd : FuncData} (F : FD K "is_row_of" s_is_row_of f fd) (g : mg "is_row_of" = some (.ref f)) (T : Tk K mg) (G_Field___contains__ : MO P w K mg base 3 "Field" "__contains__" (c_Field___contains__ K)) : FO P w K mg base 4 "is_row_of" (c_is_row_of K) :=
  fo_mk F g sc_is_row_of (F.bindsN fun _ _ _ _ _ _ us hl => match us, hl with | [_, _, _], _ => rfl) (fun a _ => by first | rfl | (cases a; rfl)) fun cdv A outer s H E hr => ⟨_,
    (pss_one (ps_ret (pe_and (pe_callB (call_isi) (by rfl) T.isinstance_ (by decide +kernel) (pa_cons (pv 2) (pa_cons (pe_ty (n := "tuple") (by rfl) T.tuple_ (by decide +kernel)) pa_nil))) (pe_and (pe_cmpR op_eq (pe_callB ((call_len_seq)) (by rfl) T.len_ (by decide +kernel) (pa_cons (pv 2) pa_nil)) (pv 1) (nomark _)) (pe_one (pe_callB ((cr_all rfl)) (by rfl) T.all_ (by decide +kernel) (pa_cons (pe_lc rfl sc_is_row_of.nd (pi_tup (pv 2)) (blkOk_by (N := ["field", "length", "value", "one"]) (own := [("one", 3)]) (sc := defScope s_is_row_of) (by decide +kernel)) (g := gName 3) (tt := tYes) (fun _ _ _ _ _ => (pg_name (i := 3) sc_is_row_of.nd rfl (Or.inl rfl))) (fun _ _ _ _ _ => pts_nil) (fun _ _ _ _ _ => (pe_cmpR (op_inOK (K := K) G_Field___contains__ hr (by decide)) (pv 3) (pv 0) rfl))) pa_nil))))))),
  fun δ F0 (a : (k : Fq) × Nat × List (El k)) ok => by
    obtain ⟨k, n, r⟩ := a
    obtain ⟨o1, o2⟩ := (show r.length = n ∧ n ≤ 1000 from ok)
    subst o1
    refine sd_retD (ed_andV (ed_isiT (b := true) (ed_var rfl) (by decide +kernel)) fun _ => ed_andV (ed_eq (ed_lenRow (ed_var rfl)) (ed_var rfl)) fun _ => ed_allM (as := r) (g := fun _ => true) (en_map (wi_row (ed_var rfl)) _ (by omega) fun x _ => ed_inO (C := c_Field___contains__ K) (neg := false) ⟨k, x⟩ (ed_var rfl) (ed_var rfl) rfl trivial fun _ h => h)) ?_
    show D.py _ = D.py _
    simp⟩
def c_are_rows_of (K : PySem.W.Frag) : Con := { α := (k : Fq) × Nat × List (List (El k)), ok := fun a => (∀ x, x ∈ a.2.2 → x.length = a.2.1) ∧ a.2.2.length ≤ 60 ∧ a.2.1 ≤ 1000, args := fun a => [fieldD K a.1, I (a.2.1 : Int), .py (rsP a.2.2)], R := fun _ d => d = Bo true }
abbrev s_are_rows_of : Stmt := tp 49
theorem sc_are_rows_of : FnScope ["field", "length", "value", "row"] ["field", "length", "value"] (defScope s_are_rows_of) := ⟨rfl, rfl, rfl, by decide +kernel, rfl, by decide +kernel, by decide +kernel⟩
theorem fo_are_rows_of {f : Addr} {fd : FuncData} (F : FD K "are_rows_of" s_are_rows_of f fd) (g : mg "are_rows_of" = some (.ref f)) (T : Tk K mg) (G_is_row_of : FO P w K mg base 4 "is_row_of" (c_is_row_of K)) : FO P w K mg base 5 "are_rows_of" (c_are_rows_of K) :=
  fo_mk F g sc_are_rows_of (F.bindsN fun _ _ _ _ _ _ us hl => match us, hl with | [_, _, _], _ => rfl) (fun a _ => by first | rfl | (cases a; rfl)) fun cdv A outer s H E hr => ⟨_,
    (pss_cons (ps_if (PW.pt (pw_or (pt_not (pt_val (pe_callB (call_isi) (by rfl) T.isinstance_ (by decide +kernel) (pa_cons (pv 2) (pa_cons (pe_ty (n := "tuple") (by rfl) T.tuple_ (by decide +kernel)) pa_nil))))) (pw_or1 (pt_cmpR op_gt (pe_callB ((call_len_seq)) (by rfl) T.len_ (by decide +kernel) (pa_cons (pv 2) pa_nil)) (pe_gd T.MAX_ROWS (by rfl)) (nomark _))))) (pss_one (ps_ret pe_bl)) pss_nil)
    (pss_one (ps_ret (pe_callB ((cr_all rfl)) (by rfl) T.all_ (by decide +kernel) (pa_cons (pe_lc rfl sc_are_rows_of.nd (pi_tup (pv 2)) (blkOk_by (N := ["field", "length", "value", "row"]) (own := [("row", 3)]) (sc := defScope s_are_rows_of) (by decide +kernel)) (g := gName 3) (tt := tYes) (fun _ _ _ _ _ => (pg_name (i := 3) sc_are_rows_of.nd rfl (Or.inl rfl))) (fun _ _ _ _ _ => pts_nil) (fun _ _ _ _ _ => (pe_foK (K := K) G_is_row_of hr (by decide) (by rfl) (pa_cons (pv 0) (pa_cons (pv 1) (pa_cons (pv 3) pa_nil)))))) pa_nil))))),
  fun δ F0 (a : (k : Fq) × Nat × List (List (El k))) ok => by
    obtain ⟨k, n, P⟩ := a
    obtain ⟨o1, o2, o3⟩ := (show (∀ x, x ∈ P → x.length = n) ∧ P.length ≤ 60 ∧ n ≤ 1000 from ok)
    refine sd_seq (sd_ifD (bd_or (bd_not (bd_test (ed_isiT (b := true) (ed_var rfl) (by decide +kernel)))) fun _ => bd_B (ed_gt (ed_lenRs (ed_var rfl)) (ed_gd T.MAX_ROWS))) (fun e => ?_) fun _ => sd_nx ?_)
    · simp at e; omega
    refine sd_retD (ed_allM (as := P) (g := fun _ => true) (en_map (wi_rows (ed_var rfl)) _ (by omega) fun x hx => ed_call (C := c_is_row_of K) ⟨k, n, x⟩ (ad_cons (ed_var rfl) (ad_cons (ed_var rfl) (ad_cons (ed_var rfl) ap_nil))) ⟨o1 x hx, o3⟩ fun _ h => h)) ?_
    show D.py _ = D.py _
    simp⟩
def c_order_of_row (K : PySem.W.Frag) : Con := { α := (k : Fq) × List (El k), ok := fun _ => True, args := fun a => [.py (rP a.2)], R := fun a d => d = ordD (ord a.2) }
abbrev s_order_of_row : Stmt := tp 50
theorem sc_order_of_row : FnScope ["row", "index", "element"] ["row"] (defScope s_order_of_row) := ⟨rfl, rfl, rfl, by decide +kernel, rfl, by decide +kernel, by decide +kernel⟩
theorem fo_order_of_row {f : Addr} {fd : FuncData} (F : FD K "order_of_row" s_order_of_row f fd) (g : mg "order_of_row" = some (.ref f)) (T : Tk K mg) : FO P w K mg base 1 "order_of_row" (c_order_of_row K) :=
  fo_mk F g sc_order_of_row (F.bindsN fun _ _ _ _ _ _ us hl => match us, hl with | [_], _ => rfl) (fun a _ => by first | rfl | (cases a; rfl)) fun cdv A outer s H E hr => ⟨_,
    (pss_cons (ps_for PassesOwn.never rfl (pi_enumT (by rfl) T.enumerate_ (pa_cons (pv 0) pa_nil)) (pg_tup rfl (pgs_cons (pg_name (i := 1) sc_order_of_row.nd rfl (Or.inl rfl)) (pgs_cons (pg_name (i := 2) sc_order_of_row.nd rfl (Or.inl rfl)) pgs_nil))) (pss_one (ps_if (pt_cmpR op_ne (pv 2) pe_int (nomark _)) (pss_one (ps_ret (pv 1))) pss_nil)))
    (pss_one (ps_ret pe_non))),
  fun δ F0 (a : (k : Fq) × List (El k)) _ => by
    obtain ⟨k, r⟩ := a
    refine sd_seq (sd_forE (as := r) (f := inP) (wi_enumRow (ed_var rfl)) (fun i ρ1 => (∃ u v, ρ1 = [.fz (.py (rP r)), u, v]) ∧ ∀ j, j < i → co r j = 0) ⟨⟨_, _, rfl⟩, fun j h => absurd h (Nat.not_lt_zero _)⟩ ?_ ?_)
    · rintro i x ρ1 q ⟨⟨u, v, rfl⟩, hz⟩
      have ex : co r i = x := co_q q
      refine sd_ifD (bd_B (ed_ne (ed_var rfl) ed_int)) (fun e => ?_) fun e => sd_nx ⟨⟨_, _, rfl⟩, fun j hj => ?_⟩
      · have nz : x ≠ 0 := fun h => by simp [h, inI_0] at e
        exact sd_retD (ed_var rfl) (by show I (i : Int) = ordD (ord r); rw [ord_of (by rw [ex]; exact nz) hz]; rfl)
      · have xz : x = 0 := inI_zero.mp (by simpa using e)
        rcases Nat.lt_or_ge j i with h | h
        · exact hz j h
        · have e2 : j = i := by omega
          rw [e2, ex, xz]
    · rintro ρ1 ⟨⟨u, v, rfl⟩, hz⟩
      refine sd_retD ed_non ?_
      show D.py .none = ordD (ord r)
      rw [ord_none_iff.mpr (funext fun j => (Nat.lt_or_ge j r.length).elim (hz j) co_ge)]; rfl⟩
def c_added_times (K : PySem.W.Frag) : Con := { α := (k : Fq) × List (El k) × List (El k) × El k, ok := fun a => a.2.1.length ≤ 1000, args := fun a => [fieldD K a.1, .py (rP a.2.1), .py (rP a.2.2.1), .py (inP a.2.2.2)], R := fun a d => d = .py (rP (addT a.2.1 a.2.2.1 a.2.2.2)) }
abbrev s_added_times : Stmt := tp 51
theorem sc_added_times : FnScope ["field", "row", "other", "factor", "sums", "products", "x", "y"] ["field", "row", "other", "factor"] (defScope s_added_times) := ⟨rfl, rfl, rfl, by decide +kernel, rfl, by decide +kernel, by decide +kernel⟩
theorem fo_added_times {f : Addr} {fd : FuncData} (F : FD K "added_times" s_added_times f fd) (g : mg "added_times" = some (.ref f)) (T : Tk K mg) : FO P w K mg base 1 "added_times" (c_added_times K) :=
  fo_mk F g sc_added_times (F.bindsN fun _ _ _ _ _ _ us hl => match us, hl with | [_, _, _, _], _ => rfl) (fun a _ => by first | rfl | (cases a; rfl)) fun cdv A outer s H E hr => ⟨_,
    (pss_cons (ps_asg (pe_tup (pa_cons (pe_sl (pv 0)) (pa_cons (pe_ix ix_seq (pe_sl (pv 0)) (pv 3) (fun _ _ => rfl)) pa_nil))) (pg_tup rfl (pgs_cons (pg_name (i := 4) sc_added_times.nd rfl (Or.inr rfl)) (pgs_cons (pg_name (i := 5) sc_added_times.nd rfl (Or.inr rfl)) pgs_nil))))
    (pss_one (ps_ret (pe_callTy call_tuple_of (by rfl) T.tuple_ (by decide +kernel) (pa_cons (pe_lc rfl sc_added_times.nd (RZ.pi_zipA (by rfl) T.zip_ (pa_cons (pv 1) (pa_cons (pv 2) pa_nil))) (blkOk_by (N := ["field", "row", "other", "factor", "sums", "products", "x", "y"]) (own := [("x", 6), ("y", 7)]) (sc := defScope s_added_times) (by decide +kernel)) (g := gTup K 2 (gCons (gName 6) (gCons (gName 7) gNil))) (tt := tYes) (fun _ _ _ _ _ => (pg_tup rfl (pgs_cons (pg_name (i := 6) sc_added_times.nd rfl (Or.inl rfl)) (pgs_cons (pg_name (i := 7) sc_added_times.nd rfl (Or.inl rfl)) pgs_nil)))) (fun _ _ _ _ _ => pts_nil) (fun _ _ _ _ _ => (pe_ix (ix_seqK (K := K)) (pe_ix (ix_seqK (K := K)) (pv 4) (pv 6) (fun _ _ => rfl)) (pe_ix (ix_seqK (K := K)) (pv 5) (pv 7) (fun _ _ => rfl)) (fun _ _ => rfl)))) pa_nil))))),
  fun δ F0 (a : (k : Fq) × List (El k) × List (El k) × El k) ok => by
    obtain ⟨k, x, y, c⟩ := a
    have o1 : x.length ≤ 1000 := ok
    refine sd_seq (sd_tup2 (x := tabP (plusI k)) (y := prodRow c) (ed_tup (ds := [tabP (plusI k), prodRow c]) (ad_cons (ed_tab (ed_fPlus T (ed_var rfl))) (ad_cons (ed_prodRow (k := k) (c := c) (ed_fTimes T (ed_var rfl)) (ed_var rfl)) ap_nil)) (by decide : 2 ≤ 100000)) ?_)
    refine sd_retD (ed_tupRow (r := addT x y c) ((en_zip (as := x) (bs := y) (ea := inP) (eb := inP) (wi_zipRow (ed_var rfl) (ed_var rfl)) (fun a b => inP (a + c * b)) (by omega) fun a b _ => ed_plusP (ed_var rfl) (ed_var rfl) (ed_prodAt (ed_var rfl) (ed_var rfl))).to ?_)) rfl
    unfold addT
    rw [← zw_map, List.map_map]; rfl⟩
def c_row_less (K : PySem.W.Frag) : Con := { α := (k : Fq) × List (El k) × List (El k) × El k, ok := fun a => a.2.1.length ≤ 1000, args := fun a => [fieldD K a.1, .py (rP a.2.1), .py (inP a.2.2.2), .py (rP a.2.2.1)], R := fun a d => d = .py (rP (addT a.2.1 a.2.2.1 (-a.2.2.2))) }
abbrev s_row_less : Stmt := tp 52
theorem sc_row_less : FnScope ["field", "row", "factor", "other"] ["field", "row", "factor", "other"] (defScope s_row_less) := ⟨rfl, rfl, rfl, by decide +kernel, rfl, by decide +kernel, by decide +kernel⟩
theorem fo_row_less {f : Addr} {fd : FuncData} (F : FD K "row_less" s_row_less f fd) (g : mg "row_less" = some (.ref f)) (T : Tk K mg) (G_added_times : FO P w K mg base 1 "added_times" (c_added_times K)) : FO P w K mg base 2 "row_less" (c_row_less K) :=
  fo_mk F g sc_row_less (F.bindsN fun _ _ _ _ _ _ us hl => match us, hl with | [_, _, _, _], _ => rfl) (fun a _ => by first | rfl | (cases a; rfl)) fun cdv A outer s H E hr => ⟨_,
    (pss_one (ps_ret (pe_fo G_added_times hr (by decide) (by rfl) (pa_cons (pv 0) (pa_cons (pv 1) (pa_cons (pv 3) (pa_cons (pe_ix ix_seq (pe_sl (pv 0)) (pv 2) (fun _ _ => rfl)) pa_nil))))))),
  fun δ F0 (a : (k : Fq) × List (El k) × List (El k) × El k) ok => by
    obtain ⟨k, x, y, c⟩ := a
    exact sd_retD (ed_call (C := c_added_times K) ⟨k, x, y, -c⟩ (ad_cons (ed_var rfl) (ad_cons (ed_var rfl) (ad_cons (ed_var rfl) (ad_cons (ed_negAt (ed_fNeg T (ed_var rfl)) (ed_var rfl)) ap_nil)))) ok fun _ h => h) rfl⟩
def c_scaled (K : PySem.W.Frag) : Con := { α := (k : Fq) × List (El k) × El k, ok := fun a => a.2.1.length ≤ 1000, args := fun a => [fieldD K a.1, .py (rP a.2.1), .py (inP a.2.2)], R := fun a d => d = .py (rP (scl a.2.1 a.2.2)) }
abbrev s_scaled : Stmt := tp 53
theorem sc_scaled : FnScope ["field", "row", "factor", "products", "x"] ["field", "row", "factor"] (defScope s_scaled) := ⟨rfl, rfl, rfl, by decide +kernel, rfl, by decide +kernel, by decide +kernel⟩
theorem fo_scaled {f : Addr} {fd : FuncData} (F : FD K "scaled" s_scaled f fd) (g : mg "scaled" = some (.ref f)) (T : Tk K mg) : FO P w K mg base 1 "scaled" (c_scaled K) :=
  fo_mk F g sc_scaled (F.bindsN fun _ _ _ _ _ _ us hl => match us, hl with | [_, _, _], _ => rfl) (fun a _ => by first | rfl | (cases a; rfl)) fun cdv A outer s H E hr => ⟨_,
    (pss_cons (ps_set (i := 3) sc_scaled.nd rfl (Or.inr rfl) (pe_ix ix_seq (pe_sl (pv 0)) (pv 2) (fun _ _ => rfl)))
    (pss_one (ps_ret (pe_callTy call_tuple_of (by rfl) T.tuple_ (by decide +kernel) (pa_cons (pe_lc rfl sc_scaled.nd (pi_tup (pv 1)) (blkOk_by (N := ["field", "row", "factor", "products", "x"]) (own := [("x", 4)]) (sc := defScope s_scaled) (by decide +kernel)) (g := gName 4) (tt := tYes) (fun _ _ _ _ _ => (pg_name (i := 4) sc_scaled.nd rfl (Or.inl rfl))) (fun _ _ _ _ _ => pts_nil) (fun _ _ _ _ _ => (pe_ix (ix_seqK (K := K)) (pv 3) (pv 4) (fun _ _ => rfl)))) pa_nil))))),
  fun δ F0 (a : (k : Fq) × List (El k) × El k) ok => by
    obtain ⟨k, x, c⟩ := a
    have o1 : x.length ≤ 1000 := ok
    refine sd_seq (sd_asgD (ed_prodRow (k := k) (c := c) (ed_fTimes T (ed_var rfl)) (ed_var rfl)) ?_)
    refine sd_retD (ed_tupRow (r := scl x c) ((en_map (as := x) (wi_row (ed_var rfl)) (fun a => inP (c * a)) (by omega) fun a _ => ed_prodAt (ed_var rfl) (ed_var rfl)).to ?_)) rfl
    unfold scl
    rw [List.map_map]; rfl⟩
end
end Dl
set_option Elab.async false
set_option linter.all false
set_option maxRecDepth 100000
set_option maxHeartbeats 4000000
namespace Dl
open PySem PySem.Spec PyProof.Rows L2 SlX Rm
section
variable {P : Program} {w : World} {K : PySem.W.Frag} {mg : Str → Option Value} {base : Heap}
theorem WI.to {δ : Option Addr} {H0 : Hp} {wi : TI} {ρ : List Sl} {items items' : List D} (h : WI K δ H0 wi ρ items) (e : items = items') : WI K δ H0 wi ρ items' := e ▸ h
def c__law_field_shape (K : PySem.W.Frag) : Con := { α := Fq, ok := fun _ => True, args := fun k => [I (k.n : Int)], R := fun k d => d = .py (.list [.int (k.p : Int), .int (k.t : Int)]) }
abbrev s__law_field_shape : Stmt := tp 89
theorem sc__law_field_shape : FnScope ["_law_size", "_law_prime", "_law_wide"] ["_law_size"] (defScope s__law_field_shape) := ⟨rfl, rfl, rfl, by decide +kernel, rfl, by decide +kernel, by decide +kernel⟩
theorem fo__law_field_shape {f : Addr} {fd : FuncData} (F : FD K "_law_field_shape" s__law_field_shape f fd) (g : mg "_law_field_shape" = some (.ref f)) (T : Tk K mg) : FO P w K mg base 1 "_law_field_shape" (c__law_field_shape K) :=
  fo_mk F g sc__law_field_shape (F.bindsN fun _ _ _ _ _ _ us hl => match us, hl with | [_], _ => rfl) (fun a _ => by first | rfl | (cases a; rfl)) fun cdv A outer s H E hr => ⟨_,
    (pss_cons (ps_for PassesOwn.never rfl (pi_tup (pe_tup (pa_cons pe_int (pa_cons pe_int (pa_cons pe_int (pa_cons pe_int pa_nil)))))) (pg_name (i := 1) sc__law_field_shape.nd rfl (Or.inl rfl)) (pss_one (ps_for PassesOwn.never rfl (pi_range2 (by rfl) T.range_ (pa_cons pe_int (pa_cons pe_int pa_nil))) (pg_name (i := 2) sc__law_field_shape.nd rfl (Or.inl rfl)) (pss_one (ps_if (pt_cmpR op_eq (pv 0) (pe_op op_mul (pe_op op_mul (pv 1) (pe_ifExp (pt_cmpR op_gt (pv 2) pe_int (nomark _)) (pv 1) pe_int)) (pe_ifExp (pt_cmpR op_gt (pv 2) pe_int (nomark _)) (pv 1) pe_int)) (nomark _)) (pss_one (ps_ret (pe_lst (pa_cons (pv 1) (pa_cons (pv 2) pa_nil))))) pss_nil)))))
    (pss_one (ps_ret (pe_lst (pa_cons (pv 0) (pa_cons pe_int pa_nil)))))),
  fun δ F0 (k : Fq) _ => by
    obtain ⟨p1, p2, p3, p4, p5⟩ := pt_n k
    refine sd_seq (sd_forM (as := ([2, 3, 5, 7] : List Nat)) (e := fun (p : Nat) => I (p : Int)) (wi_tupM (as := ([2, 3, 5, 7] : List Nat)) (f := fun (p : Nat) => .int (p : Int)) (ed_tup (ds := [.int 2, .int 3, .int 5, .int 7]) (ad_cons ed_int (ad_cons ed_int (ad_cons ed_int (ad_cons ed_int ap_nil)))) (by decide : 4 ≤ 100000))) (fun i ρ1 => (∃ u v, ρ1 = [.fz (I (k.n : Int)), u, v]) ∧ ∀ j, j < i → ([2, 3, 5, 7] : List Nat)[j]? ≠ some k.p) ⟨⟨_, _, rfl⟩, fun j h => absurd h (Nat.not_lt_zero _)⟩ ?_ ?_)
    · rintro i p ρ1 q ⟨⟨u, v, rfl⟩, hj⟩
      have hp7 : p ≤ 7 := by
        have := List.mem_of_getElem? q
        simp at this; omega
      have hi4 : i < 4 := (List.getElem?_eq_some_iff.mp q).1
      have hpi : ([2, 3, 5, 7] : List Nat).getD i 0 = p := by rw [List.getD_eq_getElem?_getD, q]; rfl
      refine sd_forRL (lo := 1) (n := 4) (ad_cons ed_int (ad_cons ed_int ap_nil)) (by decide) (by decide) (fun m ρ1 => (∃ v, ρ1 = [.fz (I (k.n : Int)), .fz (I (p : Int)), v]) ∧ (p = k.p → m < k.t)) ⟨⟨_, rfl⟩, fun _ => by omega⟩ ?_ ?_
      · rintro m ρ1 hm ⟨⟨v, rfl⟩, hmt⟩
        have hs := shp k i hi4 m hm
        rw [hpi] at hs
        have ea : ∀ b : Bool, b = decide ((1 : Int) < ((1 + m : Nat) : Int)) → (b = true → ¬ m = 0) ∧ (b = false → m = 0) := fun b hb => ⟨fun e => by
          have := of_decide_eq_true (hb.symm.trans e)
          omega, fun e => by
          have := of_decide_eq_false (hb.symm.trans e)
          omega⟩
        have eb : ∀ b : Bool, b = decide ((2 : Int) < ((1 + m : Nat) : Int)) → (b = true → ¬ m ≤ 1) ∧ (b = false → m ≤ 1) := fun b hb => ⟨fun e => by
          have := of_decide_eq_true (hb.symm.trans e)
          omega, fun e => by
          have := of_decide_eq_false (hb.symm.trans e)
          omega⟩
        have A7 : (if m = 0 then 1 else p) ≤ 7 := by split <;> omega
        have B7 : (if m ≤ 1 then 1 else p) ≤ 7 := by split <;> omega
        refine sd_ifD (bd_B (ed_eq (ed_var rfl) (ed_mul (ed_mul (ed_var rfl) (ed_if (d := I (((if m = 0 then 1 else p : Nat)) : Int)) (bd_B (ed_gt (ed_var rfl) ed_int)) (fun e => (ed_var rfl).to (by rw [if_neg ((ea _ rfl).1 e)])) (fun e => ed_int.to (by rw [if_pos ((ea _ rfl).2 e)]; rfl))) (cmul_l (by omega) (by omega))) (ed_if (d := I (((if m ≤ 1 then 1 else p : Nat)) : Int)) (bd_B (ed_gt (ed_var rfl) ed_int)) (fun e => (ed_var rfl).to (by rw [if_neg ((eb _ rfl).1 e)])) (fun e => ed_int.to (by rw [if_pos ((eb _ rfl).2 e)]; rfl))) (cmul_r (by omega) (by omega))))) (fun e => ?_) fun e => sd_nx ⟨⟨_, rfl⟩, fun hp => ?_⟩
        · have e1 : (k.n : Int) = (p : Int) * (((if m = 0 then 1 else p : Nat)) : Int) * (((if m ≤ 1 then 1 else p : Nat)) : Int) := of_decide_eq_true e
          have e2 : k.n = p * (if m = 0 then 1 else p) * (if m ≤ 1 then 1 else p) := by
            rw [← Int.natCast_mul, ← Int.natCast_mul] at e1
            exact Int.ofNat_inj.mp e1
          obtain ⟨h1, h2⟩ := hs.mp e2
          refine sd_retD (ed_en (en_lst (ds := [.int (p : Int), .int ((1 + m : Nat) : Int)]) (ad_cons (ed_var rfl) (ad_cons (ed_var rfl) ap_nil)) (by decide : 2 ≤ 100000))) ?_
          show D.py (.list [.int (p : Int), .int ((1 + m : Nat) : Int)]) = D.py (.list [.int (k.p : Int), .int (k.t : Int)])
          rw [h1, show 1 + m = k.t by omega]
        · have nt : m + 1 ≠ k.t := fun h2 => of_decide_eq_false e (by
            have e2 := hs.mpr ⟨hp, h2⟩
            have e3 : ((k.n : Nat) : Int) = ((p * (if m = 0 then 1 else p) * (if m ≤ 1 then 1 else p) : Nat) : Int) := by rw [← e2]
            rw [Int.natCast_mul, Int.natCast_mul] at e3
            exact e3)
          have := hmt hp
          omega
      · rintro ρ1 ⟨⟨v, rfl⟩, hmt⟩
        refine ⟨⟨_, _, rfl⟩, fun j hj2 => ?_⟩
        rcases Nat.lt_or_ge j i with h | h
        · exact hj j h
        · have e2 : j = i := by omega
          rw [e2, q]
          intro h2
          have := hmt (Option.some.inj h2)
          omega
    · rintro ρ1 ⟨_, hj⟩
      obtain ⟨j, h1, h2⟩ := shp_p k
      exact absurd h2 (hj j h1)⟩
def c__law_field_digits (K : PySem.W.Frag) : Con := { α := (k : Fq) × El k, ok := fun _ => True, args := fun a => [I (a.1.n : Int), .py (inP a.2)], R := fun a d => d = .py (.list ((digI a.1 a.2).map .int)) }
abbrev s__law_field_digits : Stmt := tp 90
theorem sc__law_field_digits : FnScope ["_law_size", "_law_element", "_law_turn", "_law_found", "_law_left", "_law_shape"] ["_law_size", "_law_element"] (defScope s__law_field_digits) := ⟨rfl, rfl, rfl, by decide +kernel, rfl, by decide +kernel, by decide +kernel⟩
theorem fo__law_field_digits {f : Addr} {fd : FuncData} (F : FD K "_law_field_digits" s__law_field_digits f fd) (g : mg "_law_field_digits" = some (.ref f)) (T : Tk K mg) (G__law_field_shape : FO P w K mg base 1 "_law_field_shape" (c__law_field_shape K)) : FO P w K mg base 2 "_law_field_digits" (c__law_field_digits K) :=
  fo_mk F g sc__law_field_digits (F.bindsN fun _ _ _ _ _ _ us hl => match us, hl with | [_, _], _ => rfl) (fun a _ => by first | rfl | (cases a; rfl)) fun cdv A outer s H E hr => ⟨_,
    (pss_cons (ps_par3 (i := 3) (j := 4) (l := 5) rfl sc__law_field_digits.nd rfl rfl rfl (by decide) (by decide) (by decide) rfl rfl rfl (pa_cons (pe_lst pa_nil) (pa_cons (pv 1) (pa_cons (pe_fo G__law_field_shape hr (by decide) (by rfl) (pa_cons (pv 0) pa_nil)) pa_nil))) (by rfl))
    (pss_cons (ps_for PassesOwn.never rfl (pi_range1 (by rfl) T.range_ (pa_cons (pe_ix ix_seq (pv 5) pe_int (fun _ _ => rfl)) pa_nil)) (pg_name (i := 2) sc__law_field_digits.nd rfl (Or.inl rfl)) (pss_cons (ps_expr (pe_bm PySem.F.plainAttrs_list PySem.F.slot_list_append PySem.F.type_list_append mt_append (pv 3) (pa_cons (pe_op op_mod (pe_callTy call_int1 (by rfl) T.int_ (by decide +kernel) (pa_cons (pv 4) pa_nil)) (pe_ix ix_seq (pv 5) pe_int (fun _ _ => rfl))) pa_nil)))
    (pss_one (ps_set (i := 4) sc__law_field_digits.nd rfl (Or.inl rfl) (pe_op op_fdiv (pv 4) (pe_ix ix_seq (pv 5) pe_int (fun _ _ => rfl)))))))
    (pss_one (ps_ret (pv 3))))),
  fun δ F0 (a : (k : Fq) × El k) _ => by
    obtain ⟨k, x⟩ := a
    obtain ⟨p1, p2, p3, p4, p5⟩ := pt_n k
    refine sd_seq (sd_par3N (xs := []) (y := .py (inP x)) (z := .py (.list [.int (k.p : Int), .int (k.t : Int)])) (en_lst ap_nil (by decide)) (ed_var rfl) (ed_call (C := c__law_field_shape K) k (ad_cons (ed_var rfl) ap_nil) trivial fun _ h => h) (by decide) (by decide) ?_)
    refine sd_seq (sd_forR (n := k.t) (ad_cons (ed_shIx (i := 1) (ed_var rfl) ed_int rfl) ap_nil) (by omega) (fun i ρ1 => ∃ X z u, ρ1 = [.fz (I (k.n : Int)), .fz (.py (inP x)), u, .ow (X.map .int), .fz (I z), .fz (.py (.list [.int (k.p : Int), .int (k.t : Int)]))] ∧ X = ((List.range i).map fun j => ((x.v / k.p ^ j % k.p : Nat) : Int)) ∧ z = ((x.v / k.p ^ i : Nat) : Int)) ⟨[], _, _, rfl, rfl, by rw [Nat.pow_zero, Nat.div_one]; rfl⟩ ?_ ?_)
    · rintro i ρ1 hi ⟨X, z, u, rfl, hX, hz⟩
      have e1 : z % (k.p : Int) = ((x.v / k.p ^ i % k.p : Nat) : Int) := by rw [hz]; exact (Int.natCast_emod _ _).symm
      have e2 : z / (k.p : Int) = ((x.v / k.p ^ (i + 1) : Nat) : Int) := by rw [hz, Nat.pow_succ, ← Nat.div_div_eq_div_mul]; exact (Int.natCast_ediv _ _).symm
      refine sd_seq (sd_appM (f := .int) (xs := X) (x := z % (k.p : Int)) rfl (ed_mod (ed_intI (ed_var rfl)) (ed_shIx (i := 0) (ed_var rfl) ed_int rfl) (by omega)) (by rw [hX]; simp; omega) ?_)
      refine sd_asgD (ed_fdiv (i := z) (j := (k.p : Int)) (ed_var rfl) (ed_shIx (i := 0) (ed_var rfl) ed_int rfl) (⟨by omega, by omega⟩ : CDiv _ _)) ⟨_, _, _, rfl, ?_, e2⟩
      rw [List.range_succ, List.map_append, ← hX, e1]; rfl
    · rintro ρ1 ⟨X, z, u, rfl, hX, hz⟩
      refine sd_freeze (i := 3) rfl (sd_retD (ed_var rfl) ?_)
      rw [hX]; rfl⟩
def c__law_field_element (K : PySem.W.Frag) : Con := { α := (_ : Fq) × List Int, ok := fun _ => True, args := fun a => [I (a.1.n : Int), .py (.list (a.2.map .int))], R := fun a d => d = I (elemI a.1 a.2) }
abbrev s__law_field_element : Stmt := tp 91
theorem sc__law_field_element : FnScope ["_law_size", "_law_digits", "_law_digit", "_law_found", "_law_prime"] ["_law_size", "_law_digits"] (defScope s__law_field_element) := ⟨rfl, rfl, rfl, by decide +kernel, rfl, by decide +kernel, by decide +kernel⟩
theorem fo__law_field_element {f : Addr} {fd : FuncData} (F : FD K "_law_field_element" s__law_field_element f fd) (g : mg "_law_field_element" = some (.ref f)) (T : Tk K mg) (G__law_field_shape : FO P w K mg base 1 "_law_field_shape" (c__law_field_shape K)) : FO P w K mg base 2 "_law_field_element" (c__law_field_element K) :=
  fo_mk F g sc__law_field_element (F.bindsN fun _ _ _ _ _ _ us hl => match us, hl with | [_, _], _ => rfl) (fun a _ => by first | rfl | (cases a; rfl)) fun cdv A outer s H E hr => ⟨_,
    (pss_cons (ps_par (i := 3) (j := 4) rfl sc__law_field_element.nd rfl rfl (by decide) rfl rfl (pa_cons pe_int (pa_cons (pe_ix ix_seq (pe_fo G__law_field_shape hr (by decide) (by rfl) (pa_cons (pv 0) pa_nil)) pe_int (fun _ _ => rfl)) pa_nil)) (by rfl))
    (pss_cons (ps_for PassesOwn.never rfl (pi_list (pe_revL (pv 1))) (pg_name (i := 2) sc__law_field_element.nd rfl (Or.inl rfl)) (pss_one (ps_set (i := 3) sc__law_field_element.nd rfl (Or.inl rfl) (pe_op op_add (pe_op op_mul (pv 3) (pv 4)) (pe_op op_mod (pe_callTy call_int1 (by rfl) T.int_ (by decide +kernel) (pa_cons (pv 2) pa_nil)) (pv 4))))))
    (pss_one (ps_ret (pv 3))))),
  fun δ F0 (a : (_ : Fq) × List Int) _ => by
    obtain ⟨k, ds⟩ := a
    obtain ⟨p1, p2, p3, p4, p5⟩ := pt_n k
    refine sd_seq (sd_parD (x := I 0) (y := I (k.p : Int)) ed_int (ed_shIx (i := 0) (ed_call (C := c__law_field_shape K) k (ad_cons (ed_var rfl) ap_nil) trivial fun _ h => h) ed_int rfl) ?_)
    refine sd_seq (sd_forM (as := ds.reverse) (e := fun d => I d) (wi_listM (as := ds.reverse) (f := .int) ((ed_en (en_rev (el_fz (ed_var rfl)))).to (by rw [List.map_reverse]))) (fun i ρ1 => ∃ X z, ρ1 = [.fz (I (k.n : Int)), .fz (.py (.list (ds.map .int))), z, .fz (I X), .fz (I (k.p : Int))] ∧ X = (ds.reverse.take i).foldl (fun f d => f * (k.p : Int) + d % (k.p : Int)) 0) ⟨_, _, rfl, rfl⟩ ?_ ?_)
    · rintro i v ρ1 q ⟨X, z, rfl, hX⟩
      refine sd_asgD (ed_add (ed_mul (ed_var rfl) (ed_var rfl) (cmul_r (by omega) (by omega))) (ed_mod (ed_intI (ed_var rfl)) (ed_var rfl) (by omega))) ⟨_, _, rfl, ?_⟩
      rw [take_snoc q, List.foldl_append, ← hX]; rfl
    · rintro ρ1 ⟨X, z, rfl, hX⟩
      refine sd_retD (ed_var rfl) ?_
      rw [List.take_length] at hX
      rw [hX]; rfl⟩
def c__law_field_product (K : PySem.W.Frag) : Con := { α := (k : Fq) × El k × El k, ok := fun _ => True, args := fun a => [I (a.1.n : Int), .py (inP a.2.1), .py (inP a.2.2)], R := fun a d => d = .py (inP (a.2.1 * a.2.2)) }
abbrev s__law_field_product : Stmt := tp 92
theorem sc__law_field_product : FnScope ["_law_size", "_law_x", "_law_y", "_law_found", "_law_high", "_law_one", "_law_other", "_law_at", "_law_first", "_law_spot", "_law_second", "_law_turn"] ["_law_size", "_law_x", "_law_y"] (defScope s__law_field_product) := ⟨rfl, rfl, rfl, by decide +kernel, rfl, by decide +kernel, by decide +kernel⟩
theorem fo__law_field_product {f : Addr} {fd : FuncData} (F : FD K "_law_field_product" s__law_field_product f fd) (g : mg "_law_field_product" = some (.ref f)) (T : Tk K mg) (G__law_field_element : FO P w K mg base 2 "_law_field_element" (c__law_field_element K)) (G__law_field_digits : FO P w K mg base 2 "_law_field_digits" (c__law_field_digits K)) : FO P w K mg base 3 "_law_field_product" (c__law_field_product K) :=
  fo_mk F g sc__law_field_product (F.bindsN fun _ _ _ _ _ _ us hl => match us, hl with | [_, _, _], _ => rfl) (fun a _ => by first | rfl | (cases a; rfl)) fun cdv A outer s H E hr => ⟨_,
    (pss_cons (ps_par (i := 5) (j := 6) rfl sc__law_field_product.nd rfl rfl (by decide) rfl rfl (pa_cons (pe_fo G__law_field_digits hr (by decide) (by rfl) (pa_cons (pv 0) (pa_cons (pv 1) pa_nil))) (pa_cons (pe_fo G__law_field_digits hr (by decide) (by rfl) (pa_cons (pv 0) (pa_cons (pv 2) pa_nil))) pa_nil)) (by rfl))
    (pss_cons (ps_setLc (i := 3) rfl sc__law_field_product.nd rfl rfl (sw_true rfl rfl rfl (by decide +kernel)) (pi_range1 (by rfl) T.range_ (pa_cons (pe_op op_sub (pe_op op_mul pe_int (pe_callB ((call_len_seq)) (by rfl) T.len_ (by decide +kernel) (pa_cons (pv 5) pa_nil))) pe_int) pa_nil)) (blkOk_by (N := ["_law_size", "_law_x", "_law_y", "_law_found", "_law_high", "_law_one", "_law_other", "_law_at", "_law_first", "_law_spot", "_law_second", "_law_turn"]) (own := [("_law_turn", 11)]) (sc := defScope s__law_field_product) (by decide +kernel)) (g := gName 11) (tt := tYes) (fun _ _ _ _ _ => (pg_name (i := 11) sc__law_field_product.nd rfl (Or.inl rfl))) (fun _ _ _ _ _ => pts_nil) (fun _ _ _ _ _ => pe_int))
    (pss_cons (ps_for PassesOwn.never rfl (pi_enum (by rfl) T.enumerate_ (pa_cons (pv 5) pa_nil)) (pg_tup rfl (pgs_cons (pg_name (i := 7) sc__law_field_product.nd rfl (Or.inl rfl)) (pgs_cons (pg_name (i := 8) sc__law_field_product.nd rfl (Or.inl rfl)) pgs_nil))) (pss_one (ps_for PassesOwn.never rfl (pi_enum (by rfl) T.enumerate_ (pa_cons (pv 6) pa_nil)) (pg_tup rfl (pgs_cons (pg_name (i := 9) sc__law_field_product.nd rfl (Or.inl rfl)) (pgs_cons (pg_name (i := 10) sc__law_field_product.nd rfl (Or.inl rfl)) pgs_nil))) (pss_one (ps_asg (pe_op op_add (pe_ix ix_seq (pv 3) (pe_op op_add (pv 7) (pv 9)) (fun _ _ => rfl)) (pe_op op_mul (pv 8) (pv 10))) (pg_sub (pv 3) (pe_op op_add (pv 7) (pv 9)) set_list))))))
    (pss_cons (ps_for PassesOwn.never rfl (pi_range3 (by rfl) T.range_ (pa_cons (pe_op op_sub (pe_op op_mul pe_int (pe_callB ((call_len_seq)) (by rfl) T.len_ (by decide +kernel) (pa_cons (pv 5) pa_nil))) pe_int) (pa_cons (pe_op op_sub (pe_callB ((call_len_seq)) (by rfl) T.len_ (by decide +kernel) (pa_cons (pv 5) pa_nil)) pe_int) (pa_cons (pe_un un_neg pe_int) pa_nil)))) (pg_name (i := 4) sc__law_field_product.nd rfl (Or.inl rfl)) (pss_cons (ps_if (pt_cmpR op_eq (pv 0) pe_int (nomark _)) (pss_one (ps_asg (pe_op op_add (pe_ix ix_seq (pv 3) (pe_op op_sub (pv 4) pe_int) (fun _ _ => rfl)) (pe_ix ix_seq (pv 3) (pv 4) (fun _ _ => rfl))) (pg_sub (pv 3) (pe_op op_sub (pv 4) pe_int) set_list))) pss_nil)
    (pss_cons (ps_if (pt_cmpR op_in_seq (pv 0) (pe_tup (pa_cons pe_int (pa_cons pe_int pa_nil))) rfl) (pss_one (ps_asg (pe_op op_add (pe_ix ix_seq (pv 3) (pe_op op_sub (pv 4) pe_int) (fun _ _ => rfl)) (pe_ifExp (pt_cmpR op_eq (pv 0) pe_int (nomark _)) (pe_ix ix_seq (pv 3) (pv 4) (fun _ _ => rfl)) (pe_op op_mul pe_int (pe_ix ix_seq (pv 3) (pv 4) (fun _ _ => rfl))))) (pg_sub (pv 3) (pe_op op_sub (pv 4) pe_int) set_list))) pss_nil)
    (pss_one (ps_if (pt_cmpR op_in_seq (pv 0) (pe_tup (pa_cons pe_int (pa_cons pe_int pa_nil))) rfl) (pss_one (ps_asg (pe_op op_add (pe_ix ix_seq (pv 3) (pe_op op_sub (pv 4) (pe_op op_fdiv (pv 0) pe_int)) (fun _ _ => rfl)) (pe_ix ix_seq (pv 3) (pv 4) (fun _ _ => rfl))) (pg_sub (pv 3) (pe_op op_sub (pv 4) (pe_op op_fdiv (pv 0) pe_int)) set_list))) pss_nil)))))
    (pss_one (ps_ret (pe_fo G__law_field_element hr (by decide) (by rfl) (pa_cons (pv 0) (pa_cons (pe_slice sl_list (pv 3) po_none (po_some (pe_callB ((call_len_seq)) (by rfl) T.len_ (by decide +kernel) (pa_cons (pv 5) pa_nil)))) pa_nil))))))))),
  fun δ F0 (a : (k : Fq) × El k × El k) _ => by
    obtain ⟨k, x, y⟩ := a
    obtain ⟨p1, p2, p3, p4, p5⟩ := pt_n k
    have k9 := k.le9
    have lx := dig_len k x
    have ly := dig_len k y
    refine sd_seq (sd_parD (ed_call (C := c__law_field_digits K) ⟨k, x⟩ (ad_cons (ed_var rfl) (ad_cons (ed_var rfl) ap_nil)) trivial fun _ h => h) (ed_call (C := c__law_field_digits K) ⟨k, y⟩ (ad_cons (ed_var rfl) (ad_cons (ed_var rfl) ap_nil)) trivial fun _ h => h) ?_)
    refine sd_seq (sd_asgEN (xs := (List.replicate (2 * k.t - 1) (0 : Int)).map .int) ((en_map (as := List.range (2 * k.t - 1)) (e := fun (j : Nat) => I (j : Int)) (wi_rngN (n := 2 * k.t - 1) (ad_cons ((ed_sub (ed_mul ed_int (ed_lenL (el_fz (ed_var rfl))) (cmul_l (by decide) (by decide))) ed_int).to (d' := I ((2 * k.t - 1 : Nat) : Int)) (by rw [List.length_map, lx, show (2 : Int) * (k.t : Int) - 1 = ((2 * k.t - 1 : Nat) : Int) by omega])) ap_nil) (by omega)) (fun _ => .int 0) (by rw [List.length_range]; omega) fun _ _ => ed_int).to (by rw [List.map_const', List.map_replicate, List.length_range])) ?_)
    refine sd_mid (fun ρ1 => ∃ X u1 u2 u3 u4 u5, ρ1 = [.fz (I (k.n : Int)), .fz (.py (inP x)), .fz (.py (inP y)), .ow (X.map .int), u1, .fz (.py (.list ((digI k x).map .int))), .fz (.py (.list ((digI k y).map .int))), u2, u3, u4, u5, .no] ∧ X = lpMul (digI k x) (digI k y) ∧ X.length = 2 * k.t - 1) (sd_forE (as := digI k x) (f := .int) (wi_enumL (ed_var rfl)) (fun i ρ1 => ∃ X u1 u2 u3 u4 u5, ρ1 = [.fz (I (k.n : Int)), .fz (.py (inP x)), .fz (.py (inP y)), .ow (X.map .int), u1, .fz (.py (.list ((digI k x).map .int))), .fz (.py (.list ((digI k y).map .int))), u2, u3, u4, u5, .no] ∧ X = ((digI k x).zipIdx.take i).foldl (fun f p => lpRow (digI k y) p.2 p.1 f) (List.replicate (2 * (digI k x).length - 1) 0) ∧ X.length = 2 * k.t - 1) ⟨_, _, _, _, _, _, rfl, by rw [lx]; rfl, by rw [List.length_replicate]⟩ ?_ ?_) ?_
    · rintro i dx ρ1 q ⟨X0, u1, u2, u3, u4, u5, rfl, hX0, lX0⟩
      have hi : i < k.t := by rw [← lx]; exact (List.getElem?_eq_some_iff.mp q).1
      have hdx := dig_le (List.mem_of_getElem? q)
      refine sd_forE (as := digI k y) (f := .int) (wi_enumL (ed_var rfl)) (fun j ρ1 => ∃ X u1 u4 u5, ρ1 = [.fz (I (k.n : Int)), .fz (.py (inP x)), .fz (.py (inP y)), .ow (X.map .int), u1, .fz (.py (.list ((digI k x).map .int))), .fz (.py (.list ((digI k y).map .int))), .fz (I (i : Int)), .fz (I dx), u4, u5, .no] ∧ X = ((digI k y).zipIdx.take j).foldl (fun f p => lpAdd f (i + p.2) (dx * p.1)) X0 ∧ X.length = 2 * k.t - 1) ⟨_, _, _, _, rfl, rfl, lX0⟩ ?_ ?_
      · rintro j dy ρ1 q2 ⟨X, u1, u4, u5, rfl, hX, lX⟩
        have hj : j < k.t := by rw [← ly]; exact (List.getElem?_eq_some_iff.mp q2).1
        refine sd_setM (j := i + j) (z := X.getD (i + j) 0 + dx * dy) rfl (ed_add (ed_ownAt rfl (ed_add (ed_var rfl) (ed_var rfl)) (by omega : (i : Int) + (j : Int) = ((i + j : Nat) : Int)) (by omega)) (ed_mul (ed_var rfl) (ed_var rfl) (cmul_l (by omega) (by omega)))) (ed_add (ed_var rfl) (ed_var rfl)) (by omega : (i : Int) + (j : Int) = ((i + j : Nat) : Int)) (by omega) ⟨_, _, _, _, rfl, ?_, by rw [List.length_set]; exact lX⟩
        rw [take_snoc (zipIdx_q q2), List.foldl_append, ← hX]; rfl
      · rintro ρ1 ⟨X, u1, u4, u5, rfl, hX, lX⟩
        refine ⟨X, _, _, _, _, _, rfl, ?_, lX⟩
        rw [take_snoc (zipIdx_q q), List.foldl_append, ← hX0]
        have e3 : (digI k y).zipIdx.take (digI k y).length = (digI k y).zipIdx := List.take_of_length_le (by rw [List.length_zipIdx]; exact Nat.le_refl _)
        rw [e3] at hX
        rw [hX]; rfl
    · rintro ρ1 ⟨X, u1, u2, u3, u4, u5, rfl, hX, lX⟩
      refine ⟨X, _, _, _, _, _, rfl, ?_, lX⟩
      have e3 : (digI k x).zipIdx.take (digI k x).length = (digI k x).zipIdx := List.take_of_length_le (by rw [List.length_zipIdx]; exact Nat.le_refl _)
      rw [e3] at hX
      exact hX
    · rintro ρ1 ⟨X0, u1, u2, u3, u4, u5, rfl, hX0, lX0⟩
      have hrg : RgC (2 * (k.t : Int) - 2) ((k.t : Int) - 1) (-1) (k.t - 1) := by
        have z := RgC.neg (i := 2 * (k.t : Int) - 2) (j := (k.t : Int) - 1) (by omega) (by omega) (by omega) (by omega)
        have e4 : (2 * (k.t : Int) - 2 - ((k.t : Int) - 1)).toNat = k.t - 1 := by omega
        rw [e4] at z
        exact z
      have er : rngD (2 * (k.t : Int) - 2) (-1) (k.t - 1) = (List.range (k.t - 1)).map fun (i : Nat) => I ((2 * k.t - 2 - i : Nat) : Int) := by
        unfold rngD
        refine List.map_congr_left fun i hi => ?_
        have := List.mem_range.mp hi
        show D.py (.int (2 * (k.t : Int) - 2 + (i : Int) * -1)) = D.py (.int ((2 * k.t - 2 - i : Nat) : Int))
        rw [show 2 * (k.t : Int) - 2 + (i : Int) * -1 = ((2 * k.t - 2 - i : Nat) : Int) by omega]
      refine sd_seq (sd_forM (as := List.range (k.t - 1)) (e := fun (i : Nat) => I ((2 * k.t - 2 - i : Nat) : Int)) (WI.to (wi_rng3 (lo := 2 * (k.t : Int) - 2) (hi := (k.t : Int) - 1) (c := -1) (n := k.t - 1) (ad_cons ((ed_sub (ed_mul ed_int (ed_lenL (el_fz (ed_var rfl))) (cmul_l (a := 2) (by decide) (by decide))) ed_int).to (d' := I (2 * (k.t : Int) - 2)) (by rw [List.length_map, lx])) (ad_cons ((ed_sub (ed_lenL (el_fz (ed_var rfl))) ed_int).to (d' := I ((k.t : Int) - 1)) (by rw [List.length_map, lx])) (ad_cons (ed_neg1 ed_int) ap_nil))) hrg) er) (fun i ρ1 => ∃ X u1, ρ1 = [.fz (I (k.n : Int)), .fz (.py (inP x)), .fz (.py (inP y)), .ow (X.map .int), u1, .fz (.py (.list ((digI k x).map .int))), .fz (.py (.list ((digI k y).map .int))), u2, u3, u4, u5, .no] ∧ X = (List.range i).foldl (lpRed k.n k.t) X0 ∧ X.length = 2 * k.t - 1) ⟨_, _, rfl, rfl, lX0⟩ ?_ ?_)
      · rintro i a ρ1 q ⟨X, u1, rfl, hX, lX⟩
        obtain ⟨hi, rfl⟩ := rng_get q
        have hh : 2 * k.t - 2 - a < 2 * k.t - 1 := by omega
        have h2 : 2 ≤ 2 * k.t - 2 - a := by omega
        have n48 : k.n = 4 ∨ k.n = 8 ∨ k.n = 9 := by
          have : 2 ≤ k.t := by omega
          revert this
          cases k <;> decide
        have n8t : k.n = 8 → k.t = 3 := by cases k <;> decide
        refine sd_mid (fun ρ1 => ∃ Y, ρ1 = [.fz (I (k.n : Int)), .fz (.py (inP x)), .fz (.py (inP y)), .ow (Y.map .int), .fz (I ((2 * k.t - 2 - a : Nat) : Int)), .fz (.py (.list ((digI k x).map .int))), .fz (.py (.list ((digI k y).map .int))), u2, u3, u4, u5, .no] ∧ Y = lpR8 k.n X (2 * k.t - 2 - a) ∧ Y.length = 2 * k.t - 1) (sd_ifD (bd_B (ed_eq (ed_var rfl) ed_int)) (fun e => ?_) fun e => sd_nx ⟨_, rfl, ?_, lX⟩) ?_
        · have e8 : k.n = 8 := Int.ofNat_inj.mp (of_decide_eq_true e)
          have t3 := n8t e8
          refine sd_setM (j := 2 * k.t - 2 - a - 3) (z := X.getD (2 * k.t - 2 - a - 3) 0 + X.getD (2 * k.t - 2 - a) 0) rfl (ed_add (ed_ownAt rfl (ed_sub (ed_var rfl) ed_int) (by omega) (by omega)) (ed_ownAt rfl (ed_var rfl) rfl (by omega))) (ed_sub (ed_var rfl) ed_int) (by omega) (by omega) ⟨_, rfl, ?_, by rw [List.length_set]; exact lX⟩
          unfold lpR8
          rw [if_pos e8]
        · have e8 : ¬ k.n = 8 := fun z => of_decide_eq_false e (by show (k.n : Int) = 8; rw [z]; rfl)
          unfold lpR8
          rw [if_neg e8]
        rintro ρ1 ⟨X1, rfl, hX1, lX1⟩
        refine sd_mid (fun ρ1 => ∃ X, ρ1 = [.fz (I (k.n : Int)), .fz (.py (inP x)), .fz (.py (inP y)), .ow (X.map .int), .fz (I ((2 * k.t - 2 - a : Nat) : Int)), .fz (.py (.list ((digI k x).map .int))), .fz (.py (.list ((digI k y).map .int))), u2, u3, u4, u5, .no] ∧ X = lpR49 k.n X1 (2 * k.t - 2 - a) ∧ X.length = 2 * k.t - 1) (sd_ifD (bd_test (ed_inTI (ns := [4, 9]) (ed_var rfl) (ed_tup (ds := [.int 4, .int 9]) (ad_cons ed_int (ad_cons ed_int ap_nil)) (by decide : 2 ≤ 100000)))) (fun e => ?_) fun e => sd_nx ⟨_, rfl, ?_, lX1⟩) ?_
        · have e49 : k.n = 4 ∨ k.n = 9 := by
            have z := of_decide_eq_true e
            simp at z; omega
          refine sd_setM (j := 2 * k.t - 2 - a - 2) (z := X1.getD (2 * k.t - 2 - a - 2) 0 + (if k.n = 4 then X1.getD (2 * k.t - 2 - a) 0 else 2 * X1.getD (2 * k.t - 2 - a) 0)) rfl (ed_add (ed_ownAt rfl (ed_sub (ed_var rfl) ed_int) (by omega) (by omega)) (ed_if (d := I (if k.n = 4 then X1.getD (2 * k.t - 2 - a) 0 else 2 * X1.getD (2 * k.t - 2 - a) 0)) (bd_B (ed_eq (ed_var rfl) ed_int)) (fun e => (ed_ownAt rfl (ed_var rfl) rfl (by omega)).to (by rw [if_pos (Int.ofNat_inj.mp (of_decide_eq_true e))])) (fun e => (ed_mul ed_int (ed_ownAt (xs := X1) (j := 2 * k.t - 2 - a) rfl (ed_var rfl) rfl (by omega)) (cmul_l (by decide) (by decide))).to (by rw [if_neg (fun z => of_decide_eq_false e (by show (k.n : Int) = 4; rw [z]; rfl))])))) (ed_sub (ed_var rfl) ed_int) (by omega) (by omega) ⟨_, rfl, ?_, by rw [List.length_set]; exact lX1⟩
          unfold lpR49
          rw [if_pos e49]
        · have e49 : ¬ (k.n = 4 ∨ k.n = 9) := fun z => of_decide_eq_false e (by simp; omega)
          unfold lpR49
          rw [if_neg e49]
        rintro ρ1 ⟨X2, rfl, hX2, lX2⟩
        refine sd_ifD (bd_test (ed_inTI (ns := [4, 8]) (ed_var rfl) (ed_tup (ds := [.int 4, .int 8]) (ad_cons ed_int (ad_cons ed_int ap_nil)) (by decide : 2 ≤ 100000)))) (fun e => ?_) fun e => sd_nx ⟨_, _, rfl, ?_, lX2⟩
        · have e48 : k.n = 4 ∨ k.n = 8 := by
            have z := of_decide_eq_true e
            simp at z; omega
          have ed4 : (k.n : Int) / 4 = ((k.n / 4 : Nat) : Int) := (Int.natCast_ediv k.n 4).symm
          have d4 : k.n / 4 ≤ 2 ∧ 1 ≤ k.n / 4 := by omega
          have hjz : ((2 * k.t - 2 - a : Nat) : Int) - (k.n : Int) / 4 = ((2 * k.t - 2 - a - k.n / 4 : Nat) : Int) := by rw [ed4]; omega
          refine sd_setM (j := 2 * k.t - 2 - a - k.n / 4) (z := X2.getD (2 * k.t - 2 - a - k.n / 4) 0 + X2.getD (2 * k.t - 2 - a) 0) rfl (ed_add (ed_ownAt rfl (ed_sub (ed_var rfl) (ed_fdiv (ed_var rfl) ed_int (⟨by decide, by decide⟩ : CDiv _ _))) hjz (by omega)) (ed_ownAt rfl (ed_var rfl) rfl (by omega))) (ed_sub (ed_var rfl) (ed_fdiv (ed_var rfl) ed_int (⟨by decide, by decide⟩ : CDiv _ _))) hjz (by omega) ⟨_, _, rfl, ?_, by rw [List.length_set]; exact lX2⟩
          rw [List.range_succ, List.foldl_append, ← hX]
          show _ = lpRed k.n k.t X a
          unfold lpRed
          rw [← hX1, ← hX2]
          unfold lpR48
          rw [if_pos e48]
        · have e48 : ¬ (k.n = 4 ∨ k.n = 8) := fun z => of_decide_eq_false e (by simp; omega)
          rw [List.range_succ, List.foldl_append, ← hX]
          show _ = lpRed k.n k.t X a
          unfold lpRed
          rw [← hX1, ← hX2]
          unfold lpR48
          rw [if_neg e48]
      · rintro ρ1 ⟨X, u1, rfl, hX, lX⟩
        rw [List.length_range] at hX
        refine sd_retD (ed_call (C := c__law_field_element K) ⟨k, X.take k.t⟩ (ad_cons (ed_var rfl) (ad_cons ((ed_en (en_slL (el_own (xs := X.map .int) rfl) od_none (od_some (i := ((digI k x).length : Int)) ((ed_lenL (el_fz (ed_var rfl))).to (by rw [List.length_map]))))).to (by rw [cutP_take, lx, List.map_take])) ap_nil)) trivial fun _ h => h) ?_
        rw [hX, hX0]
        exact congrArg (fun z => D.py (.int z)) (lp_ok k x y)⟩
end
end Dl
set_option Elab.async false
set_option linter.all false
set_option maxRecDepth 100000
set_option maxHeartbeats 4000000
namespace Dl
open PySem PySem.Spec PyProof.Rows L2 SlX Rm
section
variable {P : Program} {w : World} {K : PySem.W.Frag} {mg : Str → Option Value} {base : Heap}
def rowF (rows : List (List Int)) : D → List Int
  | .py (.int i) => rows.getD i.toNat []
  | _ => []
theorem rows_all {n : Nat} (rows : List (List Int)) (h : rows.length = n) : (List.range n).map (fun i => rows.getD i []) = rows := by
  subst h
  refine List.ext_getElem? fun i => ?_
  rw [List.getElem?_map]
  by_cases hi : i < rows.length
  · rw [List.getElem?_range hi, List.getElem?_eq_getElem hi]
    show some (rows.getD i []) = _
    rw [List.getD_eq_getElem?_getD, List.getElem?_eq_getElem hi]; rfl
  · rw [List.getElem?_eq_none (by rw [List.length_range]; omega), List.getElem?_eq_none (by omega)]; rfl
theorem tabs_len (k : Fq) : (plusI k).length = k.n ∧ (timesI k).length = k.n := by
  unfold plusI timesI
  rw [List.length_map, List.length_map]
  exact ⟨(tabs_ok k).1.1, (tabs_ok k).2.1.1⟩
theorem inP_ofN {k : Fq} {i : Nat} (h : i < k.n) : inP (ofN k i) = .int (i : Int) := by
  show PyData.int ((ofN k i).v : Int) = _
  rw [v_ofN h]
theorem plus_row : ∀ (k : Fq) (i : Nat), i < k.n → (List.range k.n).map (fun j => inI (ofN k i + ofN k j)) = (plusI k).getD i [] := by intro k; cases k <;> decide +kernel
theorem times_row : ∀ (k : Fq) (i : Nat), i < k.n → (List.range k.n).map (fun j => inI (ofN k i * ofN k j)) = (timesI k).getD i [] := by intro k; cases k <;> decide +kernel
theorem ix_plus : ∀ (k : Fq) (ns : List Int), ns ∈ plusI k → ns[ns.findIdx (· == 0)]? = some 0 ∧ ∀ m, m < ns.findIdx (· == 0) → ns[m]? ≠ some 0 := by intro k; cases k <;> decide +kernel
theorem ix_times : ∀ (k : Fq) (ns : List Int), ns ∈ (timesI k).drop 1 → ns[ns.findIdx (· == 1)]? = some 1 ∧ ∀ m, m < ns.findIdx (· == 1) → ns[m]? ≠ some 1 := by intro k; cases k <;> decide +kernel
theorem neg_all : ∀ k : Fq, (plusI k).map (fun ns => ((ns.findIdx (· == 0) : Nat) : Int)) = nats (negT k) := by intro k; cases k <;> decide +kernel
theorem inv_all : ∀ k : Fq, (0 : Int) :: ((timesI k).drop 1).map (fun ns => ((ns.findIdx (· == 1) : Nat) : Int)) = nats (invT7 k) := by intro k; cases k <;> decide +kernel
theorem memP_eq (k : Fq) : memP k = .tuple ((List.range k.n).map fun (i : Nat) => .int (i : Int)) := by
  show PyData.tuple ((nats _).map _) = _
  unfold nats
  rw [List.map_map]; rfl
theorem rowsF_all {n : Nat} (rows : List (List Int)) (h : rows.length = n) : ((List.range n).map fun (i : Nat) => I (i : Int)).map (rowF rows) = rows := by
  rw [List.map_map]
  exact rows_all rows h
theorem negP_eq (k : Fq) : negP k = .tuple ((plusI k).map fun ns => .int ((ns.findIdx (· == 0) : Nat) : Int)) := by
  show PyData.tuple ((nats (negT k)).map .int) = _
  rw [← neg_all k, List.map_map]; rfl
theorem invP_eq (k : Fq) : invP k = .tuple (.int 0 :: ((timesI k).drop 1).map fun ns => .int ((ns.findIdx (· == 1) : Nat) : Int)) := by
  show PyData.tuple ((nats (invT7 k)).map .int) = _
  rw [← inv_all k, List.map_cons, List.map_map]; rfl
def c_Field___init__ (K : PySem.W.Frag) : Con := { α := Fq, ok := fun _ => True, args := fun k => [I (k.n : Int)], R := fun k d => d = fieldD K k }
abbrev s_Field___init__ : Stmt := L2.inClass (tp 43) 1
theorem sc_Field___init__ : FnScope ["self", "size", "members", "x", "row", "y"] ["self", "size"] (defScope s_Field___init__) := ⟨rfl, rfl, rfl, by decide +kernel, rfl, by decide +kernel, by decide +kernel⟩
theorem fo_Field___init__ {f : Addr} {fd : FuncData} {dvs : List V} (M : Mk K (He.ga K "Field") f) (F : FunD K "__init__" "Field.__init__" (defArgs s_Field___init__) (defBody s_Field___init__) (defScope s_Field___init__) dvs [] f fd) (b : L2.Binds K fd ["self", "size"] []) (T : Tk K mg) (G_product_in : FO P w K mg base 2 "product_in" (c_product_in K)) (G_sum_in : FO P w K mg base 2 "sum_in" (c_sum_in K)) (G_is_integer : FO P w K mg base 1 "is_integer" (c_is_integer K)) : CO P w K mg base 3 "Field" (c_Field___init__ K) :=
  co_mk (n := 6) M T.cField.mg_ F sc_Field___init__ b (fun a _ => by first | rfl | (cases a; rfl)) fun cdv A outer s H E hr => ⟨_,
    (pss_cons (ps_if (PW.pt (pw_or (pt_not (pt_val (pe_fo G_is_integer hr (by decide) (by rfl) (pa_cons (pv 1) pa_nil)))) (pw_or1 (pt_cmpR op_notIn_seq (pv 1) (pe_gd T.SIZES (by rfl)) rfl)))) (pss_one ps_never) pss_nil)
    (pss_cons (ps_set (i := 2) sc_Field___init__.nd rfl (Or.inr rfl) (pe_tupRg rfl (by rfl) T.tuple_ (prg_1 (by rfl) T.range_ (pv 1))))
    (pss_cons (ps_sl (pv 0) (pv 1))
    (pss_cons (ps_sl (pv 0) (pv 2))
    (pss_cons (ps_sl (pv 0) (pe_callTy call_tuple_of (by rfl) T.tuple_ (by decide +kernel) (pa_cons (pe_lc rfl sc_Field___init__.nd (pi_tup (pv 2)) (blkOk_by (N := ["self", "size", "members", "x", "row", "y"]) (own := [("x", 3)]) (sc := defScope s_Field___init__) (by decide +kernel)) (g := gName 3) (tt := tYes) (fun _ _ _ _ _ => (pg_name (i := 3) sc_Field___init__.nd rfl (Or.inr rfl))) (fun _ _ _ _ _ => pts_nil) (fun _ _ _ _ _ => (pe_callTy (callK (K := K) rTupE call_tupE) (by rfl) T.tuple_ (by decide +kernel) (pa_cons (pe_lc rfl sc_Field___init__.nd (pi_tupK (K := K) (pv 2)) (blkOk_by (N := ["self", "size", "members", "x", "row", "y"]) (own := [("y", 5)]) (sc := _) (by rfl)) (g := gName 5) (tt := tYes) (fun _ _ _ _ _ => (pg_name (i := 5) sc_Field___init__.nd rfl (Or.inl rfl))) (fun _ _ _ _ _ => pts_nil) (fun _ _ _ _ _ => (pe_foK (K := K) G_sum_in hr (by decide) (by rfl) (pa_cons (pv 1) (pa_cons (pv 3) (pa_cons (pv 5) pa_nil)))))) pa_nil)))) pa_nil)))
    (pss_cons (ps_sl (pv 0) (pe_callTy call_tuple_of (by rfl) T.tuple_ (by decide +kernel) (pa_cons (pe_lc rfl sc_Field___init__.nd (pi_tup (pv 2)) (blkOk_by (N := ["self", "size", "members", "x", "row", "y"]) (own := [("x", 3)]) (sc := defScope s_Field___init__) (by decide +kernel)) (g := gName 3) (tt := tYes) (fun _ _ _ _ _ => (pg_name (i := 3) sc_Field___init__.nd rfl (Or.inr rfl))) (fun _ _ _ _ _ => pts_nil) (fun _ _ _ _ _ => (pe_callTy (callK (K := K) rTupE call_tupE) (by rfl) T.tuple_ (by decide +kernel) (pa_cons (pe_lc rfl sc_Field___init__.nd (pi_tupK (K := K) (pv 2)) (blkOk_by (N := ["self", "size", "members", "x", "row", "y"]) (own := [("y", 5)]) (sc := _) (by rfl)) (g := gName 5) (tt := tYes) (fun _ _ _ _ _ => (pg_name (i := 5) sc_Field___init__.nd rfl (Or.inl rfl))) (fun _ _ _ _ _ => pts_nil) (fun _ _ _ _ _ => (pe_foK (K := K) G_product_in hr (by decide) (by rfl) (pa_cons (pv 1) (pa_cons (pv 3) (pa_cons (pv 5) pa_nil)))))) pa_nil)))) pa_nil)))
    (pss_cons (ps_sl (pv 0) (pe_callTy call_tuple_of (by rfl) T.tuple_ (by decide +kernel) (pa_cons (pe_lc rfl sc_Field___init__.nd (pi_tup (pe_sl (pv 0))) (blkOk_by (N := ["self", "size", "members", "x", "row", "y"]) (own := [("row", 4)]) (sc := defScope s_Field___init__) (by decide +kernel)) (g := gName 4) (tt := tYes) (fun _ _ _ _ _ => (pg_name (i := 4) sc_Field___init__.nd rfl (Or.inl rfl))) (fun _ _ _ _ _ => pts_nil) (fun _ _ _ _ _ => (pe_tmK (K := K) PySem.F.plainAttrs_tuple PySem.F.slot_tuple_index PySem.F.type_tuple_index (mtK (K := K) rIxTI mt_indexTI) (pv 4) (pa_cons pe_int pa_nil)))) pa_nil)))
    (pss_one (ps_sl (pv 0) (pe_tup (pa_cons pe_int (StX.pa_star (pe_lc rfl sc_Field___init__.nd (pi_tup (pe_slice sl_tupA (pe_sl (pv 0)) (po_some pe_int) po_none)) (blkOk_by (N := ["self", "size", "members", "x", "row", "y"]) (own := [("row", 4)]) (sc := defScope s_Field___init__) (by decide +kernel)) (g := gName 4) (tt := tYes) (fun _ _ _ _ _ => (pg_name (i := 4) sc_Field___init__.nd rfl (Or.inl rfl))) (fun _ _ _ _ _ => pts_nil) (fun _ _ _ _ _ => (pe_tmK (K := K) PySem.F.plainAttrs_tuple PySem.F.slot_tuple_index PySem.F.type_tuple_index (mtK (K := K) rIxTI mt_indexTI) (pv 4) (pa_cons pe_int pa_nil)))) pa_nil)))))))))))),
  fun δ F0 H0 o (k : Fq) _ => by
    have k9 := k.le9
    have k2 := k.two
    refine sd_seq (sd_ifD (b := false) (BD.to (bd_or (bd_not (bd_test (ed_call (C := c_is_integer K) (k.n : Int) (ad_cons (ed_var rfl) ap_nil) (show -(10 ^ 60) < (k.n : Int) ∧ (k.n : Int) < 10 ^ 60 from ⟨by omega, by omega⟩) fun _ h => h))) fun _ => bd_test (ed_notInTI (ns := [2, 3, 4, 5, 7, 8, 9]) (ed_var rfl) (ed_gd T.SIZES))) (by cases k <;> rfl)) (fun e => by cases e) fun _ => sd_nx ?_)
    refine sd_seq (sd_asgD (d := .py (memP k)) ((ed_tupRg1 (ed_var rfl) (by omega) (by omega)).to (by rw [Int.toNat_natCast, memP_eq])) ?_)
    refine sd_seq (sd_at (ed_var rfl) rfl T.cField T.field_size (by simp) ?_)
    refine sd_seq (sd_at (ed_var rfl) rfl T.cField T.field_members (by simp) ?_)
    refine sd_seq (sd_at (d := .tab (plusI k)) (ED.to ((ed_tabOf (items := (List.range k.n).map fun (i : Nat) => I (i : Int)) (f := rowF (plusI k)) (env_lc (fun _ _ _ _ e h => Rep.mono e h) (wi_tupM (as := List.range k.n) (f := fun (i : Nat) => .int (i : Int)) ((ed_var rfl).to (by rw [memP_eq]))) (fun d => (wipeS _ [3]).set 3 (.fz d)) (fun d _ => gd_name) (fun j hj => hj) (by rw [List.length_map, List.length_range]; omega) fun d hd => ?_))) ?_) rfl T.cField T.field_plus (by simp) ?_)
    · obtain ⟨i, hi, e⟩ := List.mem_map.mp hd
      have hi2 : i < k.n := List.mem_range.mp hi
      subst e
      exact ed_tupE (ns := (plusI k).getD i []) ((el_en (en_map (as := List.range k.n) (e := fun (j : Nat) => I (j : Int)) (wi_tupM (as := List.range k.n) (f := fun (j : Nat) => .int (j : Int)) ((ed_var rfl).to (by rw [memP_eq]))) (fun j => inP (ofN k i + ofN k j)) (by rw [List.length_range]; omega) fun j hj => ed_call (C := c_sum_in K) ⟨k, ofN k i, ofN k j⟩ (ad_cons (ed_var rfl) (ad_cons ((ed_var rfl).to (by rw [inP_ofN hi2])) (ad_cons ((ed_var rfl).to (by rw [inP_ofN (List.mem_range.mp hj)])) ap_nil))) trivial fun _ h => h)).to (by rw [← plus_row k i hi2, List.map_map]; rfl))
    · rw [rowsF_all (plusI k) (tabs_len k).1]
    refine sd_seq (sd_at (d := .tab (timesI k)) (ED.to ((ed_tabOf (items := (List.range k.n).map fun (i : Nat) => I (i : Int)) (f := rowF (timesI k)) (env_lc (fun _ _ _ _ e h => Rep.mono e h) (wi_tupM (as := List.range k.n) (f := fun (i : Nat) => .int (i : Int)) ((ed_var rfl).to (by rw [memP_eq]))) (fun d => (wipeS _ [3]).set 3 (.fz d)) (fun d _ => gd_name) (fun j hj => hj) (by rw [List.length_map, List.length_range]; omega) fun d hd => ?_))) ?_) rfl T.cField T.field_times (by simp) ?_)
    · obtain ⟨i, hi, e⟩ := List.mem_map.mp hd
      have hi2 : i < k.n := List.mem_range.mp hi
      subst e
      exact ed_tupE (ns := (timesI k).getD i []) ((el_en (en_map (as := List.range k.n) (e := fun (j : Nat) => I (j : Int)) (wi_tupM (as := List.range k.n) (f := fun (j : Nat) => .int (j : Int)) ((ed_var rfl).to (by rw [memP_eq]))) (fun j => inP (ofN k i * ofN k j)) (by rw [List.length_range]; omega) fun j hj => ed_call (C := c_product_in K) ⟨k, ofN k i, ofN k j⟩ (ad_cons (ed_var rfl) (ad_cons ((ed_var rfl).to (by rw [inP_ofN hi2])) (ad_cons ((ed_var rfl).to (by rw [inP_ofN (List.mem_range.mp hj)])) ap_nil))) trivial fun _ h => h)).to (by rw [← times_row k i hi2, List.map_map]; rfl))
    · rw [rowsF_all (timesI k) (tabs_len k).2]
    refine sd_seq (sd_at (d := .py (negP k)) (ED.to (ed_tupL (el_en (en_map (as := plusI k) (e := .tupN) (wi_tab (ed_atM rfl T.cField T.field_plus rfl)) (fun ns => .int ((ns.findIdx (· == 0) : Nat) : Int)) (by rw [(tabs_len k).1]; omega) fun ns hn => ed_indexN (ed_var rfl) ed_int (ix_plus k ns hn).1 (ix_plus k ns hn).2))) ?_) rfl T.cField T.field_negatives (by simp) ?_)
    · rw [negP_eq]
    refine sd_at (d := .py (invP k)) (ED.to (ed_tup (ds := .int 0 :: (((timesI k).drop 1).map fun ns => .int ((ns.findIdx (· == 1) : Nat) : Int))) (ad_one ed_int (el_en (en_map (as := (timesI k).drop 1) (e := .tupN) (wi_tab (ed_tabTail (ed_atM rfl T.cField T.field_times rfl) (by rw [(tabs_len k).2]; exact k2) (od_some ed_int) od_none)) (fun ns => .int ((ns.findIdx (· == 1) : Nat) : Int)) (by rw [List.length_drop, (tabs_len k).2]; omega) fun ns hn => ed_indexN (ed_var rfl) ed_int (ix_times k ns hn).1 (ix_times k ns hn).2)) ap_nil) (by rw [List.length_cons, List.length_map, List.length_drop, (tabs_len k).2]; omega)) ?_) rfl T.cField T.field_inverses (by simp) ⟨_, rfl, rfl⟩
    rw [invP_eq]⟩
end
end Dl
set_option Elab.async false
set_option linter.all false
set_option maxRecDepth 100000
set_option maxHeartbeats 4000000
namespace Dl
open PySem PySem.Spec PyProof.Rows L2 SlX Rm
section
variable {P : Program} {w : World} {K : PySem.W.Frag} {mg : Str → Option Value} {base : Heap}
abbrev rowL (ns : List Int) : PyData := .list (ns.map .int)
theorem lpL_len {k : Fq} (P : List (List (El k))) : ∀ i, ((List.range i).foldl lpStep (P, [])).1.length = P.length
  | 0 => rfl
  | i + 1 => by
    rw [List.range_succ, List.foldl_append]
    have ih := lpL_len P i
    show (lpStep ((List.range i).foldl lpStep (P, [])) i).1.length = P.length
    unfold lpStep
    split
    · exact ih
    · show (List.map _ _).length = _
      rw [List.length_map]; exact ih
def c__law_field (K : PySem.W.Frag) : Con := { α := Fq, ok := fun _ => True, args := fun k => [I (k.n : Int)], R := fun k d => d = .py (lawF k) }
abbrev s__law_field : Stmt := tp 93
theorem sc__law_field : FnScope ["_law_size", "_law_sums", "_law_x", "_law_one", "_law_row", "_law_y", "_law_a", "_law_b"] ["_law_size"] (defScope s__law_field) := ⟨rfl, rfl, rfl, by decide +kernel, rfl, by decide +kernel, by decide +kernel⟩
theorem fo__law_field {f : Addr} {fd : FuncData} (F : FD K "_law_field" s__law_field f fd) (g : mg "_law_field" = some (.ref f)) (T : Tk K mg) (G__law_field_product : FO P w K mg base 3 "_law_field_product" (c__law_field_product K)) (G__law_field_element : FO P w K mg base 2 "_law_field_element" (c__law_field_element K)) (G__law_field_digits : FO P w K mg base 2 "_law_field_digits" (c__law_field_digits K)) : FO P w K mg base 4 "_law_field" (c__law_field K) :=
  fo_mk F g sc__law_field (F.bindsN fun _ _ _ _ _ _ us hl => match us, hl with | [_], _ => rfl) (fun a _ => by first | rfl | (cases a; rfl)) fun cdv A outer s H E hr => ⟨_,
    (pss_cons (ps_set (i := 1) sc__law_field.nd rfl (Or.inl rfl) (pe_lst pa_nil))
    (pss_cons (ps_for PassesOwn.never rfl (pi_range1 (by rfl) T.range_ (pa_cons (pv 0) pa_nil)) (pg_name (i := 2) sc__law_field.nd rfl (Or.inl rfl)) (pss_cons (ps_set (i := 3) sc__law_field.nd rfl (Or.inl rfl) (pe_fo G__law_field_digits hr (by decide) (by rfl) (pa_cons (pv 0) (pa_cons (pv 2) pa_nil))))
    (pss_cons (ps_set (i := 4) sc__law_field.nd rfl (Or.inl rfl) (pe_lst pa_nil))
    (pss_cons (ps_for PassesOwn.never rfl (pi_range1 (by rfl) T.range_ (pa_cons (pv 0) pa_nil)) (pg_name (i := 5) sc__law_field.nd rfl (Or.inl rfl)) (pss_one (ps_expr (pe_bm PySem.F.plainAttrs_list PySem.F.slot_list_append PySem.F.type_list_append mt_append (pv 4) (pa_cons (pe_fo G__law_field_element hr (by decide) (by rfl) (pa_cons (pv 0) (pa_cons (pe_lc rfl sc__law_field.nd (RZ.pi_zipA (by rfl) T.zip_ (pa_cons (pv 3) (pa_cons (pe_fo G__law_field_digits hr (by decide) (by rfl) (pa_cons (pv 0) (pa_cons (pv 5) pa_nil))) pa_nil))) (blkOk_by (N := ["_law_size", "_law_sums", "_law_x", "_law_one", "_law_row", "_law_y", "_law_a", "_law_b"]) (own := [("_law_a", 6), ("_law_b", 7)]) (sc := defScope s__law_field) (by decide +kernel)) (g := gTup K 2 (gCons (gName 6) (gCons (gName 7) gNil))) (tt := tYes) (fun _ _ _ _ _ => (pg_tup rfl (pgs_cons (pg_name (i := 6) sc__law_field.nd rfl (Or.inl rfl)) (pgs_cons (pg_name (i := 7) sc__law_field.nd rfl (Or.inl rfl)) pgs_nil)))) (fun _ _ _ _ _ => pts_nil) (fun _ _ _ _ _ => (pe_op op_add (pv 6) (pv 7)))) pa_nil))) pa_nil)))))
    (pss_one (ps_expr (pe_bm PySem.F.plainAttrs_list PySem.F.slot_list_append PySem.F.type_list_append mt_append (pv 1) (pa_cons (pv 4) pa_nil))))))))
    (pss_one (ps_ret (pe_lst (pa_cons (pv 0) (pa_cons (pv 1) (pa_cons (pe_lc rfl sc__law_field.nd (pi_range1 (by rfl) T.range_ (pa_cons (pv 0) pa_nil)) (blkOk_by (N := ["_law_size", "_law_sums", "_law_x", "_law_one", "_law_row", "_law_y", "_law_a", "_law_b"]) (own := [("_law_x", 2)]) (sc := defScope s__law_field) (by decide +kernel)) (g := gName 2) (tt := tYes) (fun _ _ _ _ _ => (pg_name (i := 2) sc__law_field.nd rfl (Or.inr rfl))) (fun _ _ _ _ _ => pts_nil) (fun _ _ _ _ _ => (pe_lc rfl sc__law_field.nd (pi_range1 (by rfl) T.range_ (pa_cons (pv 0) pa_nil)) (blkOk_by (N := ["_law_size", "_law_sums", "_law_x", "_law_one", "_law_row", "_law_y", "_law_a", "_law_b"]) (own := [("_law_y", 5)]) (sc := _) (by rfl)) (g := gName 5) (tt := tYes) (fun _ _ _ _ _ => (pg_name (i := 5) sc__law_field.nd rfl (Or.inl rfl))) (fun _ _ _ _ _ => pts_nil) (fun _ _ _ _ _ => (pe_foK (K := K) G__law_field_product hr (by decide) (by rfl) (pa_cons (pv 0) (pa_cons (pv 2) (pa_cons (pv 5) pa_nil)))))))) pa_nil)))))))),
  fun δ F0 (k : Fq) _ => by
    have k9 := k.le9
    obtain ⟨tl1, tl2⟩ := tabs_len k
    have rl : ∀ i, i < k.n → ((plusI k).getD i []).length = k.n := fun i hi => by rw [← plus_row k i hi, List.length_map, List.length_range]
    refine sd_seq (sd_asgNil ?_)
    refine sd_seq (sd_forR (n := k.n) (ad_cons (ed_var rfl) ap_nil) (by omega) (fun i ρ1 => ∃ X u1 u2 u3 u4, ρ1 = [.fz (I (k.n : Int)), .ow (X.map rowL), u1, u2, u3, u4, .no, .no] ∧ X = (plusI k).take i) ⟨[], _, _, _, _, rfl, rfl⟩ ?_ ?_)
    · rintro i ρ1 hi ⟨X, u1, u2, u3, u4, rfl, hX⟩
      refine sd_seq (sd_asgD (ed_call (C := c__law_field_digits K) ⟨k, ofN k i⟩ (ad_cons (ed_var rfl) (ad_cons ((ed_var rfl).to (by rw [inP_ofN hi])) ap_nil)) trivial fun _ h => h) ?_)
      refine sd_seq (sd_asgNil ?_)
      refine sd_mid (fun ρ1 => ∃ Y u4, ρ1 = [.fz (I (k.n : Int)), .ow (X.map rowL), .fz (I (i : Int)), .fz (.py (.list ((digI k (ofN k i)).map .int))), .ow (Y.map .int), u4, .no, .no] ∧ Y = (plusI k).getD i []) (sd_forR (n := k.n) (ad_cons (ed_var rfl) ap_nil) (by omega) (fun j ρ1 => ∃ Y u4, ρ1 = [.fz (I (k.n : Int)), .ow (X.map rowL), .fz (I (i : Int)), .fz (.py (.list ((digI k (ofN k i)).map .int))), .ow (Y.map .int), u4, .no, .no] ∧ Y = ((plusI k).getD i []).take j) ⟨[], _, rfl, rfl⟩ ?_ ?_) ?_
      · rintro j ρ1 hj ⟨Y, u4, rfl, hY⟩
        have gj : ((plusI k).getD i [])[j]? = some (inI (ofN k i + ofN k j)) := by
          rw [← plus_row k i hi, List.getElem?_map, List.getElem?_range hj]; rfl
        refine sd_appM (f := .int) (xs := Y) (x := inI (ofN k i + ofN k j)) rfl (ed_call (C := c__law_field_element K) ⟨k, ((digI k (ofN k i)).zip (digI k (ofN k j))).map fun p => p.1 + p.2⟩ (ad_cons (ed_var rfl) (ad_cons ((ed_en (en_zip (as := digI k (ofN k i)) (bs := digI k (ofN k j)) (ea := .int) (eb := .int) (wi_zipL (ed_var rfl) (ed_call (C := c__law_field_digits K) ⟨k, ofN k j⟩ (ad_cons (ed_var rfl) (ad_cons ((ed_var rfl).to (by rw [inP_ofN hj])) ap_nil)) trivial fun _ h => h)) (fun u v => .int (u + v)) (by rw [dig_len]; have := (pt_n k).2.2.2.1; omega) fun u v _ => ed_add (ed_var rfl) (ed_var rfl))).to (by rw [List.map_map]; rfl)) ap_nil)) trivial fun _ h => h.trans (congrArg (fun z => D.py (.int z)) (sum_ok k _ _))) (by rw [hY, List.length_take]; omega) ⟨_, _, rfl, ?_⟩
        rw [take_snoc gj, ← hY]
      · rintro ρ1 ⟨Y, u4, rfl, hY⟩
        exact ⟨Y, _, rfl, by rw [hY, List.take_of_length_le (by rw [rl i hi]; exact Nat.le_refl _)]⟩
      · rintro ρ1 ⟨Y, u4, rfl, hY⟩
        have gi : (plusI k)[i]? = some Y := by rw [hY, List.getD_eq_getElem?_getD, List.getElem?_eq_getElem (by omega)]; rfl
        refine sd_freeze (i := 4) rfl (sd_appM (f := rowL) (xs := X) (x := Y) rfl (ed_var rfl) (by rw [hX, List.length_take]; omega) ⟨_, _, _, _, _, rfl, ?_⟩)
        rw [take_snoc gi, ← hX]
    · rintro ρ1 ⟨X, u1, u2, u3, u4, rfl, hX⟩
      have eX : X = plusI k := by rw [hX, List.take_of_length_le (by omega)]
      subst eX
      refine sd_freeze (i := 1) rfl (sd_retD (ed_en (en_lst (ds := [.int (k.n : Int), tabL (plusI k), tabL (timesI k)]) (ad_cons (ed_var rfl) (ad_cons (ed_var rfl) (ad_cons ((ed_en (en_map (as := List.range k.n) (e := fun (x : Nat) => I (x : Int)) (wi_rngN (ad_cons (ed_var rfl) ap_nil) (by omega)) (fun x => rowL ((timesI k).getD x [])) (by rw [List.length_range]; omega) fun x hx => (ed_en (en_map (as := List.range k.n) (e := fun (y : Nat) => I (y : Int)) (wi_rngN (ad_cons (ed_var rfl) ap_nil) (by omega)) (fun y => inP (ofN k x * ofN k y)) (by rw [List.length_range]; omega) fun y hy => ed_call (C := c__law_field_product K) ⟨k, ofN k x, ofN k y⟩ (ad_cons (ed_var rfl) (ad_cons ((ed_var rfl).to (by rw [inP_ofN (List.mem_range.mp hx)])) (ad_cons ((ed_var rfl).to (by rw [inP_ofN (List.mem_range.mp hy)])) ap_nil))) trivial fun _ h => h)).to (by rw [← times_row k x (List.mem_range.mp hx)]; show D.py (.list _) = D.py (.list _); rw [List.map_map]; rfl))).to (by
        show D.py (.list _) = D.py (.list _)
        have z := rows_all (timesI k) tl2
        have z2 := congrArg (fun l => l.map rowL) z
        rw [List.map_map] at z2
        exact congrArg (fun l => D.py (.list l)) z2)) ap_nil))) (by decide : 3 ≤ 100000))) rfl)⟩
def c__law_row_plus (K : PySem.W.Frag) : Con := { α := (k : Fq) × List (El k) × List (El k) × El k, ok := fun a => a.2.1.length ≤ 1000, args := fun a => [.py (lawF a.1), .py (rP a.2.1), .py (rP a.2.2.1), .py (inP a.2.2.2)], R := fun a d => d = .py (rP (addT a.2.1 a.2.2.1 a.2.2.2)) }
abbrev s__law_row_plus : Stmt := tp 94
theorem sc__law_row_plus : FnScope ["_law_field_here", "_law_one", "_law_other", "_law_part", "_law_x", "_law_y"] ["_law_field_here", "_law_one", "_law_other", "_law_part"] (defScope s__law_row_plus) := ⟨rfl, rfl, rfl, by decide +kernel, rfl, by decide +kernel, by decide +kernel⟩
theorem fo__law_row_plus {f : Addr} {fd : FuncData} (F : FD K "_law_row_plus" s__law_row_plus f fd) (g : mg "_law_row_plus" = some (.ref f)) (T : Tk K mg) : FO P w K mg base 1 "_law_row_plus" (c__law_row_plus K) :=
  fo_mk F g sc__law_row_plus (F.bindsN fun _ _ _ _ _ _ us hl => match us, hl with | [_, _, _, _], _ => rfl) (fun a _ => by first | rfl | (cases a; rfl)) fun cdv A outer s H E hr => ⟨_,
    (pss_one (ps_ret (pe_callTy call_tuple_of (by rfl) T.tuple_ (by decide +kernel) (pa_cons (pe_lc rfl sc__law_row_plus.nd (RZ.pi_zipA (by rfl) T.zip_ (pa_cons (pv 1) (pa_cons (pv 2) pa_nil))) (blkOk_by (N := ["_law_field_here", "_law_one", "_law_other", "_law_part", "_law_x", "_law_y"]) (own := [("_law_x", 4), ("_law_y", 5)]) (sc := defScope s__law_row_plus) (by decide +kernel)) (g := gTup K 2 (gCons (gName 4) (gCons (gName 5) gNil))) (tt := tYes) (fun _ _ _ _ _ => (pg_tup rfl (pgs_cons (pg_name (i := 4) sc__law_row_plus.nd rfl (Or.inl rfl)) (pgs_cons (pg_name (i := 5) sc__law_row_plus.nd rfl (Or.inl rfl)) pgs_nil)))) (fun _ _ _ _ _ => pts_nil) (fun _ _ _ _ _ => (pe_ix (ix_seqK (K := K)) (pe_ix (ix_seqK (K := K)) (pe_ix (ix_seqK (K := K)) (pv 0) pe_int (fun _ _ => rfl)) (pv 4) (fun _ _ => rfl)) (pe_ix (ix_seqK (K := K)) (pe_ix (ix_seqK (K := K)) (pe_ix (ix_seqK (K := K)) (pv 0) pe_int (fun _ _ => rfl)) (pv 3) (fun _ _ => rfl)) (pv 5) (fun _ _ => rfl)) (fun _ _ => rfl)))) pa_nil)))),
  fun δ F0 (a : (k : Fq) × List (El k) × List (El k) × El k) ok => by
    obtain ⟨k, x, y, c⟩ := a
    have o1 : x.length ≤ 1000 := ok
    refine sd_retD (ed_tupRow (r := addT x y c) ((en_zip (as := x) (bs := y) (ea := inP) (eb := inP) (wi_zipRow (ed_var rfl) (ed_var rfl)) (fun a b => inP (a + c * b)) (by omega) fun a b _ => ed_lawPlus (ed_var rfl) (ed_var rfl) (ed_lawTimes (ed_var rfl) (ed_var rfl) (ed_var rfl))).to ?_)) rfl
    unfold addT
    rw [← zw_map, List.map_map]; rfl⟩
def c__law_row_moved (K : PySem.W.Frag) : Con := { α := (k : Fq) × List (El k) × Nat, ok := fun a => a.2.1.length ≤ 60, args := fun a => [.py (rP a.2.1), I (a.2.2 : Int)], R := fun a d => d = .py (rP (mvR a.2.1 a.2.2)) }
abbrev s__law_row_moved : Stmt := tp 96
theorem sc__law_row_moved : FnScope ["_law_row", "_law_many", "_law_size"] ["_law_row", "_law_many"] (defScope s__law_row_moved) := ⟨rfl, rfl, rfl, by decide +kernel, rfl, by decide +kernel, by decide +kernel⟩
theorem fo__law_row_moved {f : Addr} {fd : FuncData} (F : FD K "_law_row_moved" s__law_row_moved f fd) (g : mg "_law_row_moved" = some (.ref f)) (T : Tk K mg) : FO P w K mg base 1 "_law_row_moved" (c__law_row_moved K) :=
  fo_mk F g sc__law_row_moved (F.bindsN fun _ _ _ _ _ _ us hl => match us, hl with | [_, _], _ => rfl) (fun a _ => by first | rfl | (cases a; rfl)) fun cdv A outer s H E hr => ⟨_,
    (pss_cons (ps_set (i := 2) sc__law_row_moved.nd rfl (Or.inl rfl) (pe_callB (call_min2 rfl) (by rfl) T.min_ (by decide +kernel) (pa_cons (pe_callB (call_abs) (by rfl) T.abs_ (by decide +kernel) (pa_cons (pv 1) pa_nil)) (pa_cons (pe_callB ((call_len_seq)) (by rfl) T.len_ (by decide +kernel) (pa_cons (pv 0) pa_nil)) pa_nil))))
    (pss_one (ps_ret (pe_ifExp (pt_cmpR op_ge (pv 1) pe_int (nomark _)) (pe_op op_catA (pe_op op_repA (pe_tup (pa_cons pe_int pa_nil)) (pv 2)) (pe_slice sl_tupA (pv 0) po_none (po_some (pe_op op_sub (pe_callB ((call_len_seq)) (by rfl) T.len_ (by decide +kernel) (pa_cons (pv 0) pa_nil)) (pv 2))))) (pe_op op_catA (pe_slice sl_tupA (pv 0) (po_some (pv 2)) po_none) (pe_op op_repA (pe_tup (pa_cons pe_int pa_nil)) (pv 2))))))),
  fun δ F0 (a : (k : Fq) × List (El k) × Nat) ok => by
    obtain ⟨k, r, m⟩ := a
    have hr : r.length ≤ 60 := ok
    refine sd_seq (sd_asgD ((ed_min2 ((ed_abs (ed_var rfl)).to (d' := I (m : Int)) (by rw [if_neg (by omega)])) (ed_lenRow (ed_var rfl))).to (d' := I ((min m r.length : Nat) : Int)) (by rw [min_eq])) ?_)
    refine sd_retD (d := .py (rP (mvR r m))) (ed_if (bd_B (ed_ge (ed_var rfl) ed_int)) (fun _ => (ed_catRow (x := zr (min m r.length)) (y := r.take (r.length - min m r.length)) (ed_zeros (ed_var rfl) (by omega)) ((ed_slRow (r := r) (ed_var rfl) od_none (od_some (i := (r.length : Int) - ((min m r.length : Nat) : Int)) (ed_sub (ed_lenRow (ed_var rfl)) (ed_var rfl)))).to (by rw [cutP_0 (n := r.length - min m r.length) _ (by omega)])) (by unfold zr; simp; omega)).to (by unfold mvR zr; rfl)) (fun e => ?_)) rfl
    have := of_decide_eq_false e
    omega⟩
def c__law_row_product (K : PySem.W.Frag) : Con := { α := (k : Fq) × Nat × List (El k) × List (El k), ok := fun a => a.2.2.1.length = a.2.1 ∧ a.2.2.2.length = a.2.1 ∧ a.2.1 ≤ 60, args := fun a => [.py (lawF a.1), .py (rP a.2.2.1), .py (rP a.2.2.2)], R := fun a d => d = .py (rP (prodL a.2.2.1 a.2.2.2)) }
abbrev s__law_row_product : Stmt := tp 97
theorem sc__law_row_product : FnScope ["_law_field_here", "_law_one", "_law_other", "_law_found", "_law_k", "_law_total", "_law_at"] ["_law_field_here", "_law_one", "_law_other"] (defScope s__law_row_product) := ⟨rfl, rfl, rfl, by decide +kernel, rfl, by decide +kernel, by decide +kernel⟩
theorem fo__law_row_product {f : Addr} {fd : FuncData} (F : FD K "_law_row_product" s__law_row_product f fd) (g : mg "_law_row_product" = some (.ref f)) (T : Tk K mg) : FO P w K mg base 1 "_law_row_product" (c__law_row_product K) :=
  fo_mk F g sc__law_row_product (F.bindsN fun _ _ _ _ _ _ us hl => match us, hl with | [_, _, _], _ => rfl) (fun a _ => by first | rfl | (cases a; rfl)) fun cdv A outer s H E hr => ⟨_,
    (pss_cons (ps_set (i := 3) sc__law_row_product.nd rfl (Or.inl rfl) (pe_lst pa_nil))
    (pss_cons (ps_for PassesOwn.never rfl (pi_range1 (by rfl) T.range_ (pa_cons (pe_callB ((call_len_seq)) (by rfl) T.len_ (by decide +kernel) (pa_cons (pv 1) pa_nil)) pa_nil)) (pg_name (i := 4) sc__law_row_product.nd rfl (Or.inl rfl)) (pss_cons (ps_set (i := 5) sc__law_row_product.nd rfl (Or.inl rfl) pe_int)
    (pss_cons (ps_for PassesOwn.never rfl (pi_range1 (by rfl) T.range_ (pa_cons (pe_op op_add (pv 4) pe_int) pa_nil)) (pg_name (i := 6) sc__law_row_product.nd rfl (Or.inl rfl)) (pss_one (ps_set (i := 5) sc__law_row_product.nd rfl (Or.inl rfl) (pe_ix ix_seq (pe_ix ix_seq (pe_ix ix_seq (pv 0) pe_int (fun _ _ => rfl)) (pv 5) (fun _ _ => rfl)) (pe_ix ix_seq (pe_ix ix_seq (pe_ix ix_seq (pv 0) pe_int (fun _ _ => rfl)) (pe_ix ix_seq (pv 1) (pv 6) (fun _ _ => rfl)) (fun _ _ => rfl)) (pe_ix ix_seq (pv 2) (pe_op op_sub (pv 4) (pv 6)) (fun _ _ => rfl)) (fun _ _ => rfl)) (fun _ _ => rfl)))))
    (pss_one (ps_expr (pe_bm PySem.F.plainAttrs_list PySem.F.slot_list_append PySem.F.type_list_append mt_append (pv 3) (pa_cons (pv 5) pa_nil)))))))
    (pss_one (ps_ret (pe_callTy call_tuple_of (by rfl) T.tuple_ (by decide +kernel) (pa_cons (pv 3) pa_nil)))))),
  fun δ F0 (a : (k : Fq) × Nat × List (El k) × List (El k)) ok => by
    obtain ⟨k, n, x, y⟩ := a
    obtain ⟨hx, hy, hn⟩ := (show x.length = n ∧ y.length = n ∧ n ≤ 60 from ok)
    refine sd_seq (sd_asgNil ?_)
    refine sd_seq (sd_forR (n := x.length) (ad_cons (ed_lenRow (ed_var rfl)) ap_nil) (by omega) (fun i ρ1 => ∃ X u1 u2 u3, ρ1 = [.fz (.py (lawF k)), .fz (.py (rP x)), .fz (.py (rP y)), .ow (X.map inP), u1, u2, u3] ∧ X = (List.range i).map fun m => (List.range (m + 1)).foldl (fun t j => t + co x j * co y (m - j)) (0 : El k)) ⟨[], _, _, _, rfl, rfl⟩ ?_ ?_)
    · rintro i ρ1 hi ⟨X, u1, u2, u3, rfl, hX⟩
      refine sd_seq (sd_asgD (d := .py (inP (0 : El k))) (ed_int.to (by show I 0 = I (inI 0); rw [inI_0])) ?_)
      refine sd_mid (fun ρ1 => ∃ t u3, ρ1 = [.fz (.py (lawF k)), .fz (.py (rP x)), .fz (.py (rP y)), .ow (X.map inP), .fz (I (i : Int)), .fz (.py (inP t)), u3] ∧ t = (List.range (i + 1)).foldl (fun t j => t + co x j * co y (i - j)) (0 : El k)) (sd_forR (n := i + 1) (ad_cons ((ed_add (ed_var rfl) ed_int).to (by rw [show (i : Int) + 1 = ((i + 1 : Nat) : Int) by omega])) ap_nil) (by omega) (fun m ρ1 => ∃ t u3, ρ1 = [.fz (.py (lawF k)), .fz (.py (rP x)), .fz (.py (rP y)), .ow (X.map inP), .fz (I (i : Int)), .fz (.py (inP t)), u3] ∧ t = (List.range m).foldl (fun t j => t + co x j * co y (i - j)) (0 : El k)) ⟨_, _, rfl, rfl⟩ ?_ fun _ h => h) ?_
      · rintro m ρ1 hm ⟨t, u3, rfl, ht⟩
        refine sd_asgD (ed_lawPlus (x := t) (ed_var rfl) (ed_var rfl) (ed_lawTimes (ed_var rfl) (ed_rowAt (r := x) (i := m) (ed_var rfl) (ed_var rfl) (by omega)) (ed_rowAt (r := y) (i := i - m) (ed_var rfl) ((ed_sub (ed_var rfl) (ed_var rfl)).to (by rw [show (i : Int) - (m : Int) = ((i - m : Nat) : Int) by omega])) (by omega)))) ⟨_, _, rfl, ?_⟩
        rw [List.range_succ, List.foldl_append, ← ht]; rfl
      · rintro ρ1 ⟨t, u3, rfl, ht⟩
        refine sd_appM (f := inP) (xs := X) (x := t) rfl (ed_var rfl) (by rw [hX, List.length_map, List.length_range]; omega) ⟨_, _, _, _, rfl, ?_⟩
        rw [List.range_succ, List.map_append, ← hX, ht]; rfl
    · rintro ρ1 ⟨X, u1, u2, u3, rfl, hX⟩
      refine sd_retD (ed_tupL (el_own rfl)) ?_
      show D.py (.tuple (X.map inP)) = D.py (rP (prodL x y))
      rw [rP_eq, hX]; rfl⟩
def c__law_row_inverse (K : PySem.W.Frag) : Con := { α := (k : Fq) × List (El k), ok := fun a => 0 < a.2.length ∧ a.2.length ≤ 60 ∧ co a.2 0 ≠ 0, args := fun a => [.py (lawF a.1), .py (rP a.2)], R := fun a d => d = .py (rP (invL a.2)) }
abbrev s__law_row_inverse : Stmt := tp 98
theorem sc__law_row_inverse : FnScope ["_law_field_here", "_law_row", "_law_k", "_law_first", "_law_found", "_law_total", "_law_at"] ["_law_field_here", "_law_row"] (defScope s__law_row_inverse) := ⟨rfl, rfl, rfl, by decide +kernel, rfl, by decide +kernel, by decide +kernel⟩
theorem fo__law_row_inverse {f : Addr} {fd : FuncData} (F : FD K "_law_row_inverse" s__law_row_inverse f fd) (g : mg "_law_row_inverse" = some (.ref f)) (T : Tk K mg) : FO P w K mg base 1 "_law_row_inverse" (c__law_row_inverse K) :=
  fo_mk F g sc__law_row_inverse (F.bindsN fun _ _ _ _ _ _ us hl => match us, hl with | [_, _], _ => rfl) (fun a _ => by first | rfl | (cases a; rfl)) fun cdv A outer s H E hr => ⟨_,
    (pss_cons (ps_par (i := 3) (j := 4) rfl sc__law_row_inverse.nd rfl rfl (by decide) rfl rfl (pa_cons (pe_bm PySem.F.plainAttrs_list PySem.F.slot_list_index PySem.F.type_list_index mt_index (pe_ix ix_seq (pe_ix ix_seq (pv 0) pe_int (fun _ _ => rfl)) (pe_ix ix_seq (pv 1) pe_int (fun _ _ => rfl)) (fun _ _ => rfl)) (pa_cons pe_int pa_nil)) (pa_cons (pe_lst pa_nil) pa_nil)) (by rfl))
    (pss_cons (ps_for PassesOwn.never rfl (pi_range1 (by rfl) T.range_ (pa_cons (pe_callB ((call_len_seq)) (by rfl) T.len_ (by decide +kernel) (pa_cons (pv 1) pa_nil)) pa_nil)) (pg_name (i := 2) sc__law_row_inverse.nd rfl (Or.inl rfl)) (pss_cons (ps_set (i := 5) sc__law_row_inverse.nd rfl (Or.inl rfl) (pe_callTy call_int1 (by rfl) T.int_ (by decide +kernel) (pa_cons (pe_cmpR op_eq (pv 2) pe_int (nomark _)) pa_nil)))
    (pss_cons (ps_for PassesOwn.never rfl (pi_range1 (by rfl) T.range_ (pa_cons (pv 2) pa_nil)) (pg_name (i := 6) sc__law_row_inverse.nd rfl (Or.inl rfl)) (pss_one (ps_set (i := 5) sc__law_row_inverse.nd rfl (Or.inl rfl) (pe_ix ix_seq (pe_ix ix_seq (pe_ix ix_seq (pv 0) pe_int (fun _ _ => rfl)) (pv 5) (fun _ _ => rfl)) (pe_bm PySem.F.plainAttrs_list PySem.F.slot_list_index PySem.F.type_list_index mt_index (pe_ix ix_seq (pe_ix ix_seq (pv 0) pe_int (fun _ _ => rfl)) (pe_ix ix_seq (pe_ix ix_seq (pe_ix ix_seq (pv 0) pe_int (fun _ _ => rfl)) (pe_ix ix_seq (pv 4) (pv 6) (fun _ _ => rfl)) (fun _ _ => rfl)) (pe_ix ix_seq (pv 1) (pe_op op_sub (pv 2) (pv 6)) (fun _ _ => rfl)) (fun _ _ => rfl)) (fun _ _ => rfl)) (pa_cons pe_int pa_nil)) (fun _ _ => rfl)))))
    (pss_one (ps_expr (pe_bm PySem.F.plainAttrs_list PySem.F.slot_list_append PySem.F.type_list_append mt_append (pv 4) (pa_cons (pe_ix ix_seq (pe_ix ix_seq (pe_ix ix_seq (pv 0) pe_int (fun _ _ => rfl)) (pv 3) (fun _ _ => rfl)) (pv 5) (fun _ _ => rfl)) pa_nil)))))))
    (pss_one (ps_ret (pe_callTy call_tuple_of (by rfl) T.tuple_ (by decide +kernel) (pa_cons (pv 4) pa_nil)))))),
  fun δ F0 (a : (k : Fq) × List (El k)) ok => by
    obtain ⟨k, r⟩ := a
    obtain ⟨h0, hn, r0⟩ := (show 0 < r.length ∧ r.length ≤ 60 ∧ co r 0 ≠ 0 from ok)
    refine sd_seq (sd_parN (x := .py (inP (Fl.inv (co r 0)))) (xs := []) (ed_lawInv (ed_var rfl) (ed_rowAt (r := r) (i := 0) (ed_var rfl) ed_int h0) r0) (en_lst ap_nil (by decide)) (by decide) ?_)
    refine sd_seq (sd_forR (n := r.length) (ad_cons (ed_lenRow (ed_var rfl)) ap_nil) (by omega) (fun i ρ1 => ∃ X u1 u2 u3, ρ1 = [.fz (.py (lawF k)), .fz (.py (rP r)), u1, .fz (.py (inP (Fl.inv (co r 0)))), .ow (X.map inP), u2, u3] ∧ X = (List.range i).foldl (fun found k => found ++ [Fl.inv (co r 0) * invT r found k]) ([] : List (El k))) ⟨[], _, _, _, rfl, rfl⟩ ?_ ?_)
    · rintro i ρ1 hi ⟨X, u1, u2, u3, rfl, hX⟩
      have lX : X.length = i := by rw [hX]; exact (invL_go r i).1
      refine sd_seq (sd_asgD (d := .py (inP (if i = 0 then (1 : El k) else 0))) ((ed_intB (ed_eq (ed_var rfl) ed_int)).to (by
        by_cases e : i = 0
        · rw [if_pos e, e]; show I _ = I (inI 1); rw [inI_1]; rfl
        · rw [if_neg e, decide_eq_false (by omega)]; show I _ = I (inI 0); rw [inI_0]; rfl)) ?_)
      refine sd_mid (fun ρ1 => ∃ t u3, ρ1 = [.fz (.py (lawF k)), .fz (.py (rP r)), .fz (I (i : Int)), .fz (.py (inP (Fl.inv (co r 0)))), .ow (X.map inP), .fz (.py (inP t)), u3] ∧ t = invT r X i) (sd_forR (n := i) (ad_cons (ed_var rfl) ap_nil) (by omega) (fun m ρ1 => ∃ t u3, ρ1 = [.fz (.py (lawF k)), .fz (.py (rP r)), .fz (I (i : Int)), .fz (.py (inP (Fl.inv (co r 0)))), .ow (X.map inP), .fz (.py (inP t)), u3] ∧ t = (List.range m).foldl (fun t j => t + -(co X j * co r (i - j))) (if i = 0 then (1 : El k) else 0)) ⟨_, _, rfl, rfl⟩ ?_ fun _ h => h) ?_
      · rintro m ρ1 hm ⟨t, u3, rfl, ht⟩
        refine sd_asgD (ed_lawPlus (x := t) (ed_var rfl) (ed_var rfl) (ed_lawNeg (ed_var rfl) (ed_lawTimes (x := co X m) (ed_var rfl) (ed_ixL (el_own rfl) (ed_var rfl) (at_nat (map_at (co_get (by omega))))) (ed_rowAt (r := r) (i := i - m) (ed_var rfl) ((ed_sub (ed_var rfl) (ed_var rfl)).to (by rw [show (i : Int) - (m : Int) = ((i - m : Nat) : Int) by omega])) (by omega))))) ⟨_, _, rfl, ?_⟩
        rw [List.range_succ, List.foldl_append, ← ht]; rfl
      · rintro ρ1 ⟨t, u3, rfl, ht⟩
        refine sd_appM (f := inP) (xs := X) (x := Fl.inv (co r 0) * t) rfl (ed_lawTimes (ed_var rfl) (ed_var rfl) (ed_var rfl)) (by omega) ⟨_, _, _, _, rfl, ?_⟩
        rw [List.range_succ, List.foldl_append, ← hX, ht]; rfl
    · rintro ρ1 ⟨X, u1, u2, u3, rfl, hX⟩
      refine sd_retD (ed_tupL (el_own rfl)) ?_
      show D.py (.tuple (X.map inP)) = D.py (rP (invL r))
      rw [rP_eq, hX]; rfl⟩
def c__law_plain (K : PySem.W.Frag) : Con := { α := (k : Fq) × Nat × List (List (El k)), ok := fun a => (∀ x, x ∈ a.2.2 → x.length = a.2.1) ∧ a.2.1 ≤ 60 ∧ a.2.2.length ≤ 1000, args := fun a => [.py (lawF a.1), I (a.2.1 : Int), .py (.list (a.2.2.map rP))], R := fun a d => d = .py (rsP (lpl a.2.1 a.2.2)) }
abbrev s__law_plain : Stmt := tp 99
theorem sc__law_plain : FnScope ["_law_field_here", "_law_length", "_law_rows", "_law_at", "_law_left", "_law_found", "_law_heads", "_law_part", "_law_head", "_law_row", "_law_x"] ["_law_field_here", "_law_length", "_law_rows"] (defScope s__law_plain) := ⟨rfl, rfl, rfl, by decide +kernel, rfl, by decide +kernel, by decide +kernel⟩
theorem fo__law_plain {f : Addr} {fd : FuncData} (F : FD K "_law_plain" s__law_plain f fd) (g : mg "_law_plain" = some (.ref f)) (T : Tk K mg) (G__law_row_plus : FO P w K mg base 1 "_law_row_plus" (c__law_row_plus K)) : FO P w K mg base 2 "_law_plain" (c__law_plain K) :=
  fo_mk F g sc__law_plain (F.bindsN fun _ _ _ _ _ _ us hl => match us, hl with | [_, _, _], _ => rfl) (fun a _ => by first | rfl | (cases a; rfl)) fun cdv A outer s H E hr => ⟨_,
    (pss_cons (ps_par (i := 4) (j := 5) rfl sc__law_plain.nd rfl rfl (by decide) rfl rfl (pa_cons (pe_callTy call_list_of (by rfl) T.list_ (by decide +kernel) (pa_cons (pv 2) pa_nil)) (pa_cons (pe_lst pa_nil) pa_nil)) (by rfl))
    (pss_cons (ps_for PassesOwn.never rfl (pi_range1 (by rfl) T.range_ (pa_cons (pv 1) pa_nil)) (pg_name (i := 3) sc__law_plain.nd rfl (Or.inr rfl)) (pss_cons (ps_setLc (i := 6) rfl sc__law_plain.nd rfl rfl (sw_true rfl rfl rfl (by decide +kernel)) (pi_list (pv 4)) (blkOk_by (N := ["_law_field_here", "_law_length", "_law_rows", "_law_at", "_law_left", "_law_found", "_law_heads", "_law_part", "_law_head", "_law_row", "_law_x"]) (own := [("_law_row", 9)]) (sc := defScope s__law_plain) (by decide +kernel)) (g := gName 9) (fun _ _ _ _ _ => (pg_name (i := 9) sc__law_plain.nd rfl (Or.inl rfl))) (fun _ _ _ _ _ => (pts_one (pt_cmpR op_ne (pe_ix (ix_seqK (K := K)) (pv 9) (pv 3) (fun _ _ => rfl)) pe_int (nomark _)))) (fun _ _ _ _ _ => (pv 9)))
    (pss_one (ps_if (pt_cmpR (op_neD hr.units) (pv 6) (pe_lst pa_nil) (nomark _)) (pss_cons (ps_set (i := 7) sc__law_plain.nd rfl (Or.inr rfl) (pe_bm PySem.F.plainAttrs_list PySem.F.slot_list_index PySem.F.type_list_index mt_index (pe_ix ix_seq (pe_ix ix_seq (pv 0) pe_int (fun _ _ => rfl)) (pe_ix ix_seq (pe_ix ix_seq (pv 6) pe_int (fun _ _ => rfl)) (pv 3) (fun _ _ => rfl)) (fun _ _ => rfl)) (pa_cons pe_int pa_nil)))
    (pss_cons (ps_set (i := 8) sc__law_plain.nd rfl (Or.inr rfl) (pe_callTy call_tuple_of (by rfl) T.tuple_ (by decide +kernel) (pa_cons (pe_lc rfl sc__law_plain.nd (pi_tup (pe_ix ix_seq (pv 6) pe_int (fun _ _ => rfl))) (blkOk_by (N := ["_law_field_here", "_law_length", "_law_rows", "_law_at", "_law_left", "_law_found", "_law_heads", "_law_part", "_law_head", "_law_row", "_law_x"]) (own := [("_law_x", 10)]) (sc := defScope s__law_plain) (by decide +kernel)) (g := gName 10) (tt := tYes) (fun _ _ _ _ _ => (pg_name (i := 10) sc__law_plain.nd rfl (Or.inl rfl))) (fun _ _ _ _ _ => pts_nil) (fun _ _ _ _ _ => (pe_ix (ix_seqK (K := K)) (pe_ix (ix_seqK (K := K)) (pe_ix (ix_seqK (K := K)) (pv 0) pe_int (fun _ _ => rfl)) (pv 7) (fun _ _ => rfl)) (pv 10) (fun _ _ => rfl)))) pa_nil)))
    (pss_cons (ps_setLc (i := 4) rfl sc__law_plain.nd rfl rfl (sw_true rfl rfl rfl (by decide +kernel)) (pi_list (pv 4)) (blkOk_by (N := ["_law_field_here", "_law_length", "_law_rows", "_law_at", "_law_left", "_law_found", "_law_heads", "_law_part", "_law_head", "_law_row", "_law_x"]) (own := [("_law_row", 9)]) (sc := defScope s__law_plain) (by decide +kernel)) (g := gName 9) (tt := tYes) (fun _ _ _ _ _ => (pg_name (i := 9) sc__law_plain.nd rfl (Or.inl rfl))) (fun _ _ _ _ _ => pts_nil) (fun _ _ _ _ _ => (pe_foK (K := K) G__law_row_plus hr (by decide) (by rfl) (pa_cons (pv 0) (pa_cons (pv 9) (pa_cons (pv 8) (pa_cons (pe_bmK (K := K) PySem.F.plainAttrs_list PySem.F.slot_list_index PySem.F.type_list_index (mtK (K := K) rIndex mt_index) (pe_ix (ix_seqK (K := K)) (pe_ix (ix_seqK (K := K)) (pv 0) pe_int (fun _ _ => rfl)) (pe_ix (ix_seqK (K := K)) (pv 9) (pv 3) (fun _ _ => rfl)) (fun _ _ => rfl)) (pa_cons pe_int pa_nil)) pa_nil)))))))
    (pss_cons (ps_setLc (i := 5) rfl sc__law_plain.nd rfl rfl (sw_true rfl rfl rfl (by decide +kernel)) (pi_list (pv 5)) (blkOk_by (N := ["_law_field_here", "_law_length", "_law_rows", "_law_at", "_law_left", "_law_found", "_law_heads", "_law_part", "_law_head", "_law_row", "_law_x"]) (own := [("_law_row", 9)]) (sc := defScope s__law_plain) (by decide +kernel)) (g := gName 9) (tt := tYes) (fun _ _ _ _ _ => (pg_name (i := 9) sc__law_plain.nd rfl (Or.inl rfl))) (fun _ _ _ _ _ => pts_nil) (fun _ _ _ _ _ => (pe_foK (K := K) G__law_row_plus hr (by decide) (by rfl) (pa_cons (pv 0) (pa_cons (pv 9) (pa_cons (pv 8) (pa_cons (pe_bmK (K := K) PySem.F.plainAttrs_list PySem.F.slot_list_index PySem.F.type_list_index (mtK (K := K) rIndex mt_index) (pe_ix (ix_seqK (K := K)) (pe_ix (ix_seqK (K := K)) (pv 0) pe_int (fun _ _ => rfl)) (pe_ix (ix_seqK (K := K)) (pv 9) (pv 3) (fun _ _ => rfl)) (fun _ _ => rfl)) (pa_cons pe_int pa_nil)) pa_nil)))))))
    (pss_one (ps_expr (pe_bm PySem.F.plainAttrs_list PySem.F.slot_list_append PySem.F.type_list_append mt_append (pv 5) (pa_cons (pv 8) pa_nil)))))))) pss_nil))))
    (pss_one (ps_ret (pe_callTy call_tuple_of (by rfl) T.tuple_ (by decide +kernel) (pa_cons (pv 5) pa_nil)))))),
  fun δ F0 (a : (k : Fq) × Nat × List (List (El k))) ok => by
    obtain ⟨k, n, P⟩ := a
    obtain ⟨hl, hn, hP⟩ := (show (∀ x, x ∈ P → x.length = n) ∧ n ≤ 60 ∧ P.length ≤ 1000 from ok)
    refine sd_seq (sd_parN (x := .py (.list (P.map rP))) (xs := []) (ed_en (en_listL (el_fz (ed_var rfl)))) (en_lst ap_nil (by decide)) (by decide) ?_)
    refine sd_seq (sd_forR (n := n) (ad_cons (ed_var rfl) ap_nil) (by omega) (fun i ρ1 => ∃ L Fd u1 u2 u3 u4, ρ1 = [.fz (.py (lawF k)), .fz (I (n : Int)), .fz (.py (.list (P.map rP))), u1, .fz (.py (.list (L.map rP))), .ow (Fd.map rP), u2, u3, u4, .no, .no] ∧ (L, Fd) = (List.range i).foldl lpStep (P, [])) ⟨P, [], _, _, _, _, rfl, rfl⟩ ?_ ?_)
    · rintro i ρ1 hi ⟨L, Fd, u1, u2, u3, u4, rfl, hLF⟩
      have hI := lp_all hl i (by omega)
      have lL : L.length = P.length := by
        have z := lpL_len P i
        rw [← hLF] at z
        exact z
      rw [← hLF] at hI
      have hLl : ∀ x, x ∈ L → x.length = n := hI.len
      obtain ⟨A, hA, eA, _⟩ := hI.ex
      have eA2 : Fd = A.map (·.2) := eA
      have hFl : ∀ x, x ∈ Fd → x.length = n := fun x hx => by
        rw [eA2] at hx
        obtain ⟨p, hp, e⟩ := List.mem_map.mp hx
        rw [← e]; exact hA.len p hp
      have lF : Fd.length ≤ n := by rw [eA2, List.length_map]; exact okd_len hA
      have e1 : (List.range (i + 1)).foldl lpStep (P, []) = lpStep (L, Fd) i := by rw [List.range_succ, List.foldl_append, ← hLF]; rfl
      refine sd_seq (sd_asgD (ed_en (en_mapF (as := L) (wi_listM (f := rP) (ed_var rfl)) (fun r => decide (co r i ≠ 0)) rP (by omega) (fun r hr => (bd_B (ed_ne (ed_rowAt (r := r) (i := i) (ed_var rfl) (ed_var rfl) (by rw [hLl r hr]; exact hi)) ed_int)).to (by simp [inI_zero])) fun r _ _ => ed_var rfl)) ?_)
      cases eH : L.filter fun r => decide (co r i ≠ 0) with
      | nil =>
        refine sd_ifD (bd_test (ed_neLs (rs := ([] : List (List (El k)))) (qs := ([] : List (List (El k)))) (ed_var rfl) (ed_en (en_lst (ds := []) ap_nil (by decide))))) (fun e => by simp at e) fun _ => sd_nx ⟨L, Fd, _, _, _, _, rfl, ?_⟩
        rw [e1]; unfold lpStep; rw [eH]
      | cons h t =>
        have hmem : h ∈ L.filter fun r => decide (co r i ≠ 0) := by rw [eH]; exact List.mem_cons_self
        have hh : h.length = n := hLl h (List.mem_filter.mp hmem).1
        have hnz : co h i ≠ 0 := by have := (List.mem_filter.mp hmem).2; simpa using this
        have lsc : (scl h (Fl.inv (co h i))).length = n := by rw [len_scl]; exact hh
        refine sd_ifD (bd_test (ed_neLs (rs := h :: t) (qs := ([] : List (List (El k)))) (ed_var rfl) (ed_en (en_lst (ds := []) ap_nil (by decide))))) (fun _ => ?_) fun e => by simp at e
        refine sd_seq (sd_asgD (ed_lawInv (ed_var rfl) (ed_rowAt (r := h) (i := i) (ed_ixL (el_fz (ed_var rfl)) ed_int (at_int (by decide) rfl)) (ed_var rfl) (by omega)) hnz) ?_)
        refine sd_seq (sd_asgD (d := .py (rP (scl h (Fl.inv (co h i))))) (ed_tupRow ((en_map (as := h) (wi_row (ed_ixL (el_fz (ed_var rfl)) ed_int (at_int (by decide) rfl))) (fun a => inP (Fl.inv (co h i) * a)) (by omega) fun a _ => ed_lawTimes (ed_var rfl) (ed_var rfl) (ed_var rfl)).to (by unfold scl; rw [List.map_map]; rfl))) ?_)
        refine sd_seq (sd_asgD (d := .py (.list ((L.map (clr (scl h (Fl.inv (co h i))) i)).map rP))) ((ed_en (en_map (as := L) (wi_listM (f := rP) (ed_var rfl)) (fun r => rP (clr (scl h (Fl.inv (co h i))) i r)) (by omega) fun r hr => ed_call (C := c__law_row_plus K) ⟨k, r, scl h (Fl.inv (co h i)), -(co r i)⟩ (ad_cons (ed_var rfl) (ad_cons (ed_var rfl) (ad_cons (ed_var rfl) (ad_cons (ed_lawNeg (ed_var rfl) (ed_rowAt (r := r) (i := i) (ed_var rfl) (ed_var rfl) (by rw [hLl r hr]; exact hi))) ap_nil)))) (show r.length ≤ 1000 by rw [hLl r hr]; omega) fun _ h => h)).to (by rw [List.map_map]; rfl)) ?_)
        refine sd_seq (sd_freeze (i := 5) rfl (sd_asgEN (xs := (Fd.map (clr (scl h (Fl.inv (co h i))) i)).map rP) ((en_map (as := Fd) (wi_listM (f := rP) (ed_var rfl)) (fun r => rP (clr (scl h (Fl.inv (co h i))) i r)) (by omega) fun r hr => ed_call (C := c__law_row_plus K) ⟨k, r, scl h (Fl.inv (co h i)), -(co r i)⟩ (ad_cons (ed_var rfl) (ad_cons (ed_var rfl) (ad_cons (ed_var rfl) (ad_cons (ed_lawNeg (ed_var rfl) (ed_rowAt (r := r) (i := i) (ed_var rfl) (ed_var rfl) (by rw [hFl r hr]; exact hi))) ap_nil)))) (show r.length ≤ 1000 by rw [hFl r hr]; omega) fun _ h => h).to (by rw [List.map_map]; rfl)) ?_))
        refine sd_appM (f := rP) (xs := Fd.map (clr (scl h (Fl.inv (co h i))) i)) (x := scl h (Fl.inv (co h i))) rfl (ed_var rfl) (by rw [List.length_map]; omega) ⟨_, _, _, _, _, _, rfl, ?_⟩
        rw [e1]; unfold lpStep; rw [eH]
    · rintro ρ1 ⟨L, Fd, u1, u2, u3, u4, rfl, hLF⟩
      refine sd_retD (ed_tupL (el_own rfl)) ?_
      show D.py (.tuple (Fd.map rP)) = D.py (rsP (lpl n P))
      unfold lpl
      rw [← hLF]⟩
end
end Dl
set_option Elab.async false
set_option linter.all false
set_option maxRecDepth 100000
set_option maxHeartbeats 4000000
namespace Dl
open PySem PySem.Spec PyProof.Rows L2 SlX Rm
section
variable {P : Program} {w : World} {K : PySem.W.Frag} {mg : Str → Option Value} {base : Heap}
theorem sd_extM {δ : Option Addr} {F0 H0 : Hp} {ρ : List Sl} {te : TE} {E : En} {α : Type} {f : α → PyData} {xs ys : List α} {i : Nat} (h : ρ[i]? = some (.ow (xs.map f))) (he : EN K δ H0 te ρ (ys.map f)) (hz : xs.length + ys.length ≤ 100000) (k : E.N (ρ.set i (.ow ((xs ++ ys).map f)))) :
    SD K δ F0 H0 (tDrop (tBM K "list" rExtend (tVar i) (tCons te tNil))) ρ E := sd_ext h he (by rw [List.length_map, List.length_map]; exact hz) (by rw [List.map_append] at k; exact k)
def c__law_all_rows (K : PySem.W.Frag) : Con := { α := Fq × Nat, ok := fun a => a.1.n ^ a.2 ≤ 256 ∧ a.2 ≤ 60, args := fun a => [.py (lawF a.1), I (a.2 : Int)], R := fun a d => d = .py (.list ((allR a.1 a.2).map rP)) }
abbrev s__law_all_rows : Stmt := tp 100
theorem sc__law_all_rows : FnScope ["_law_field_here", "_law_length", "_law_found", "_law_turn", "_law_longer", "_law_row", "_law_one"] ["_law_field_here", "_law_length"] (defScope s__law_all_rows) := ⟨rfl, rfl, rfl, by decide +kernel, rfl, by decide +kernel, by decide +kernel⟩
theorem fo__law_all_rows {f : Addr} {fd : FuncData} (F : FD K "_law_all_rows" s__law_all_rows f fd) (g : mg "_law_all_rows" = some (.ref f)) (T : Tk K mg) : FO P w K mg base 1 "_law_all_rows" (c__law_all_rows K) :=
  fo_mk F g sc__law_all_rows (F.bindsN fun _ _ _ _ _ _ us hl => match us, hl with | [_, _], _ => rfl) (fun a _ => by first | rfl | (cases a; rfl)) fun cdv A outer s H E hr => ⟨_,
    (pss_cons (ps_set (i := 2) sc__law_all_rows.nd rfl (Or.inl rfl) (pe_lst (pa_cons (pe_tup pa_nil) pa_nil)))
    (pss_cons (ps_for PassesOwn.never rfl (pi_range1 (by rfl) T.range_ (pa_cons (pv 1) pa_nil)) (pg_name (i := 3) sc__law_all_rows.nd rfl (Or.inl rfl)) (pss_cons (ps_set (i := 4) sc__law_all_rows.nd rfl (Or.inl rfl) (pe_lst pa_nil))
    (pss_cons (ps_for PassesOwn.never rfl (pi_list (pv 2)) (pg_name (i := 5) sc__law_all_rows.nd rfl (Or.inr rfl)) (pss_one (ps_expr (pe_bm PySem.F.plainAttrs_list PySem.F.slot_list_extend PySem.F.type_list_extend mt_extend (pv 4) (pa_cons (pe_lc rfl sc__law_all_rows.nd (pi_range1 (by rfl) T.range_ (pa_cons (pe_ix ix_seq (pv 0) pe_int (fun _ _ => rfl)) pa_nil)) (blkOk_by (N := ["_law_field_here", "_law_length", "_law_found", "_law_turn", "_law_longer", "_law_row", "_law_one"]) (own := [("_law_one", 6)]) (sc := defScope s__law_all_rows) (by decide +kernel)) (g := gName 6) (tt := tYes) (fun _ _ _ _ _ => (pg_name (i := 6) sc__law_all_rows.nd rfl (Or.inl rfl))) (fun _ _ _ _ _ => pts_nil) (fun _ _ _ _ _ => (pe_op (opK (K := K) rCatA op_catA) (pv 5) (pe_tup (pa_cons (pv 6) pa_nil))))) pa_nil)))))
    (pss_one (ps_set (i := 2) sc__law_all_rows.nd rfl (Or.inl rfl) (pe_callTy call_list_of (by rfl) T.list_ (by decide +kernel) (pa_cons (pv 4) pa_nil)))))))
    (pss_one (ps_ret (pv 2))))),
  fun δ F0 (a : Fq × Nat) ok => by
    obtain ⟨k, n⟩ := a
    obtain ⟨hq, hn⟩ := (show k.n ^ n ≤ 256 ∧ n ≤ 60 from ok)
    have k9 := k.le9
    have k2 := k.two
    have lq : ∀ i, i ≤ n → (allR k i).length ≤ 256 := fun i hi => by
      rw [allR_cnt]
      exact Nat.le_trans (Nat.pow_le_pow_right (by omega) hi) hq
    refine sd_seq (sd_asgD (d := .py (.list ((allR k 0).map rP))) (ed_en (en_lst (ds := (allR k 0).map rP) (ad_cons (ed_tup (ds := []) ap_nil (by decide)) ap_nil) (by decide : 1 ≤ 100000))) ?_)
    refine sd_seq (sd_forR (n := n) (ad_cons (ed_var rfl) ap_nil) (by omega) (fun i ρ1 => ∃ u1 u2 u3, ρ1 = [.fz (.py (lawF k)), .fz (I (n : Int)), .fz (.py (.list ((allR k i).map rP))), u1, u2, u3, .no]) ⟨_, _, _, rfl⟩ ?_ ?_)
    · rintro i ρ1 hi ⟨u1, u2, u3, rfl⟩
      have li := lq i (by omega)
      refine sd_seq (sd_asgNil ?_)
      refine sd_mid (fun ρ1 => ∃ u3, ρ1 = [.fz (.py (lawF k)), .fz (I (n : Int)), .fz (.py (.list ((allR k i).map rP))), .fz (I (i : Int)), .ow ((allR k (i + 1)).map rP), u3, .no]) (sd_forM (as := allR k i) (e := fun r => .py (rP r)) (wi_listM (f := rP) (ed_var rfl)) (fun m ρ1 => ∃ X u3, ρ1 = [.fz (.py (lawF k)), .fz (I (n : Int)), .fz (.py (.list ((allR k i).map rP))), .fz (I (i : Int)), .ow (X.map rP), u3, .no] ∧ X = ((allR k i).take m).flatMap fun r => (List.range k.n).map fun i => r ++ [ofN k i]) ⟨[], _, rfl, rfl⟩ ?_ ?_) ?_
      · rintro m r ρ1 q ⟨X, u3, rfl, hX⟩
        have hr : r.length = i := allR_len k i r (List.mem_of_getElem? q)
        have lX : X.length ≤ 256 * 9 := by
          rw [hX, flat_len (c := k.n) (fun r => by rw [List.length_map, List.length_range]), List.length_take]
          exact Nat.mul_le_mul (by omega) k9
        refine sd_extM (f := rP) (xs := X) (ys := (List.range k.n).map fun j => r ++ [ofN k j]) rfl ((en_map (as := List.range k.n) (e := fun (j : Nat) => I (j : Int)) (wi_rngN (ad_cons (ed_lawSize (ed_var rfl)) ap_nil) (by omega)) (fun j => rP (r ++ [ofN k j])) (by rw [List.length_range]; omega) fun j hj => ed_catRow (ed_var rfl) ((ed_tup (ds := [.int (j : Int)]) (ad_cons (ed_var rfl) ap_nil) (by decide : 1 ≤ 100000)).to (d' := .py (rP [ofN k j])) (by rw [rP_eq]; show D.py (.tuple [_]) = D.py (.tuple [inP (ofN k j)]); rw [inP_ofN (List.mem_range.mp hj)])) (by simp; omega)).to (by rw [List.map_map]; rfl)) (by rw [List.length_map, List.length_range]; omega) ⟨_, _, rfl, ?_⟩
        rw [take_snoc q, List.flatMap_append, ← hX]
        show X ++ _ = X ++ List.flatMap _ [r]
        rw [List.flatMap_cons, List.flatMap_nil, List.append_nil]
      · rintro ρ1 ⟨X, u3, rfl, hX⟩
        rw [List.take_length] at hX
        have e : X = allR k (i + 1) := hX
        rw [e]
        exact ⟨_, rfl⟩
      · rintro ρ1 ⟨u3, rfl⟩
        exact sd_asgD (ed_en (en_listL (el_own rfl))) ⟨_, _, _, rfl⟩
    · rintro ρ1 ⟨u1, u2, u3, rfl⟩
      exact sd_retD (ed_var rfl) rfl⟩
def c__law_room_closed (K : PySem.W.Frag) : Con := { α := (k : Fq) × Nat × Nat × List (List (El k)), ok := fun a => SlOk a.2.1 a.2.2.1 ∧ (∀ x, x ∈ a.2.2.2 → x.length = wdt a.2.1 a.2.2.1) ∧ a.2.2.2.length ≤ 60, args := fun a => [.py (lawF a.1), I (a.2.1 : Int), I (a.2.2.1 : Int), .py (.list (a.2.2.2.map rP))], R := fun a d => d = .py (rsP (clL (wdt a.2.1 a.2.2.1) a.2.1 a.2.2.1 a.2.2.2)) }
abbrev s__law_room_closed : Stmt := tp 101
theorem sc__law_room_closed : FnScope ["_law_field_here", "_law_rises", "_law_steps", "_law_rows", "_law_width", "_law_found", "_law_turn", "_law_moved", "_law_row"] ["_law_field_here", "_law_rises", "_law_steps", "_law_rows"] (defScope s__law_room_closed) := ⟨rfl, rfl, rfl, by decide +kernel, rfl, by decide +kernel, by decide +kernel⟩
theorem fo__law_room_closed {f : Addr} {fd : FuncData} (F : FD K "_law_room_closed" s__law_room_closed f fd) (g : mg "_law_room_closed" = some (.ref f)) (T : Tk K mg) (G__law_plain : FO P w K mg base 2 "_law_plain" (c__law_plain K)) (G__law_row_moved : FO P w K mg base 1 "_law_row_moved" (c__law_row_moved K)) : FO P w K mg base 3 "_law_room_closed" (c__law_room_closed K) :=
  fo_mk F g sc__law_room_closed (F.bindsN fun _ _ _ _ _ _ us hl => match us, hl with | [_, _, _, _], _ => rfl) (fun a _ => by first | rfl | (cases a; rfl)) fun cdv A outer s H E hr => ⟨_,
    (pss_cons (ps_set (i := 4) sc__law_room_closed.nd rfl (Or.inl rfl) (pe_op op_mul (pe_op op_sub (pv 1) pe_int) (pe_op op_sub (pv 2) pe_int)))
    (pss_cons (ps_set (i := 5) sc__law_room_closed.nd rfl (Or.inl rfl) (pe_fo G__law_plain hr (by decide) (by rfl) (pa_cons (pv 0) (pa_cons (pv 4) (pa_cons (pv 3) pa_nil)))))
    (pss_cons (ps_for PassesOwn.never rfl (pi_range1 (by rfl) T.range_ (pa_cons (pe_op op_add (pv 4) pe_int) pa_nil)) (pg_name (i := 6) sc__law_room_closed.nd rfl (Or.inl rfl)) (pss_cons (ps_set (i := 7) sc__law_room_closed.nd rfl (Or.inl rfl) (pe_op op_cat (pe_lc rfl sc__law_room_closed.nd (pi_tup (pv 5)) (blkOk_by (N := ["_law_field_here", "_law_rises", "_law_steps", "_law_rows", "_law_width", "_law_found", "_law_turn", "_law_moved", "_law_row"]) (own := [("_law_row", 8)]) (sc := defScope s__law_room_closed) (by decide +kernel)) (g := gName 8) (tt := tYes) (fun _ _ _ _ _ => (pg_name (i := 8) sc__law_room_closed.nd rfl (Or.inl rfl))) (fun _ _ _ _ _ => pts_nil) (fun _ _ _ _ _ => (pe_foK (K := K) G__law_row_moved hr (by decide) (by rfl) (pa_cons (pv 8) (pa_cons (pv 1) pa_nil))))) (pe_lc rfl sc__law_room_closed.nd (pi_tup (pv 5)) (blkOk_by (N := ["_law_field_here", "_law_rises", "_law_steps", "_law_rows", "_law_width", "_law_found", "_law_turn", "_law_moved", "_law_row"]) (own := [("_law_row", 8)]) (sc := defScope s__law_room_closed) (by decide +kernel)) (g := gName 8) (tt := tYes) (fun _ _ _ _ _ => (pg_name (i := 8) sc__law_room_closed.nd rfl (Or.inl rfl))) (fun _ _ _ _ _ => pts_nil) (fun _ _ _ _ _ => (pe_foK (K := K) G__law_row_moved hr (by decide) (by rfl) (pa_cons (pv 8) (pa_cons (pv 2) pa_nil)))))))
    (pss_one (ps_set (i := 5) sc__law_room_closed.nd rfl (Or.inl rfl) (pe_fo G__law_plain hr (by decide) (by rfl) (pa_cons (pv 0) (pa_cons (pv 4) (pa_cons (pe_op op_cat (pe_callTy call_list_of (by rfl) T.list_ (by decide +kernel) (pa_cons (pv 5) pa_nil)) (pv 7)) pa_nil))))))))
    (pss_one (ps_ret (pv 5)))))),
  fun δ F0 (a : (k : Fq) × Nat × Nat × List (List (El k))) ok => by
    obtain ⟨k, r, s, P⟩ := a
    obtain ⟨h, hl, hP⟩ := (show SlOk r s ∧ (∀ x, x ∈ P → x.length = wdt r s) ∧ P.length ≤ 60 from ok)
    have hw : wdt r s ≤ 24 := h.w
    have r2 := h.r2
    have hRL : RL (wdt r s) (lpl (wdt r s) P) := by rw [lpl_rref hl]; exact rref_rl hl
    have hit : ∀ i, RL (wdt r s) (it (clT (wdt r s) r s) i (lpl (wdt r s) P)) := fun i => (cl_turn (ra := r) (sb := s) hRL i).1
    refine sd_seq (sd_asgD ((ed_mul (ed_sub (ed_var rfl) ed_int) (ed_sub (ed_var rfl) ed_int) (cmul_l (a := (r : Int) - 1) (by have := h.r1; omega) (by omega))).to (d' := I ((wdt r s : Nat) : Int)) (by rw [← wdt_int h.r1 h.s1])) ?_)
    refine sd_seq (sd_asgD (ed_call (C := c__law_plain K) ⟨k, wdt r s, P⟩ (ad_cons (ed_var rfl) (ad_cons (ed_var rfl) (ad_cons (ed_var rfl) ap_nil))) (show (∀ x, x ∈ P → x.length = wdt r s) ∧ wdt r s ≤ 60 ∧ P.length ≤ 1000 from ⟨hl, by omega, by omega⟩) fun _ h => h) ?_)
    refine sd_seq (sd_forR (n := wdt r s + 1) (ad_cons ((ed_add (ed_var rfl) ed_int).to (by rw [show ((wdt r s : Nat) : Int) + 1 = ((wdt r s + 1 : Nat) : Int) by omega])) ap_nil) (by omega) (fun i ρ1 => ∃ X u v, ρ1 = [.fz (.py (lawF k)), .fz (I (r : Int)), .fz (I (s : Int)), .fz (.py (.list (P.map rP))), .fz (I ((wdt r s : Nat) : Int)), .fz (.py (rsP X)), u, v, .no] ∧ X = it (clT (wdt r s) r s) i (lpl (wdt r s) P)) ⟨_, _, _, rfl, rfl⟩ ?_ ?_)
    · rintro i ρ1 hi ⟨X, u, v, rfl, hX⟩
      have hXR : RL (wdt r s) X := hX ▸ hit i
      have lX := hXR.le
      have hXl := hXR.len
      refine sd_seq (sd_asgEN (xs := (X.map (fun x => mvR x r) ++ X.map fun x => mvR x s).map rP) (EN.to (en_cat (xs := X.map fun x => rP (mvR x r)) (ys := X.map fun x => rP (mvR x s)) (eh_en (en_map (as := X) (wi_rows (ed_var rfl)) (fun x => rP (mvR x r)) (by omega) fun x hx => ed_call (C := c__law_row_moved K) ⟨k, x, r⟩ (ad_cons (ed_var rfl) (ad_cons (ed_var rfl) ap_nil)) (show x.length ≤ 60 by rw [hXl x hx]; omega) fun _ h => h)) (eh_en (en_map (as := X) (wi_rows (ed_var rfl)) (fun x => rP (mvR x s)) (by omega) fun x hx => ed_call (C := c__law_row_moved K) ⟨k, x, s⟩ (ad_cons (ed_var rfl) (ad_cons (ed_var rfl) ap_nil)) (show x.length ≤ 60 by rw [hXl x hx]; omega) fun _ h => h)) (by simp; omega)) (by rw [List.map_append, List.map_map, List.map_map]; rfl)) ?_)
      refine sd_asgD (ed_call (C := c__law_plain K) ⟨k, wdt r s, X ++ (X.map (fun x => mvR x r) ++ X.map fun x => mvR x s)⟩ (ad_cons (ed_var rfl) (ad_cons (ed_var rfl) (ad_cons ((ed_en (en_cat (xs := X.map rP) (eh_en (en_listT (ed_var rfl))) (eh_own rfl) (by simp; omega))).to (by rw [← List.map_append])) ap_nil))) (show (∀ x, x ∈ X ++ (X.map (fun x => mvR x r) ++ X.map fun x => mvR x s) → x.length = wdt r s) ∧ wdt r s ≤ 60 ∧ (X ++ (X.map (fun x => mvR x r) ++ X.map fun x => mvR x s)).length ≤ 1000 from ⟨clT_len hXl, by omega, by simp; omega⟩) fun _ h => h) ⟨_, _, _, rfl, ?_⟩
      show _ = clT (wdt r s) r s (it (clT (wdt r s) r s) i (lpl (wdt r s) P))
      rw [← hX]; rfl
    · rintro ρ1 ⟨X, u, v, rfl, hX⟩
      refine sd_retD (ed_var rfl) ?_
      rw [hX]; rfl⟩
def c__law_product (K : PySem.W.Frag) : Con := { α := (k : Fq) × Nat × List (List (El k)) × List (El k), ok := fun a => (∀ x, x ∈ a.2.2.1 → x.length = a.2.1) ∧ a.2.2.2.length = a.2.1 ∧ a.2.1 ≤ 60 ∧ a.2.2.1.length ≤ 60, args := fun a => [.py (lawF a.1), I (a.2.1 : Int), .py (rsP a.2.2.1), .py (rP a.2.2.2)], R := fun a d => d = .py (rsP (byR a.2.2.1 a.2.2.2)) }
abbrev s__law_product : Stmt := tp 105
theorem sc__law_product : FnScope ["_law_field_here", "_law_width", "_law_basis", "_law_row", "_law_one"] ["_law_field_here", "_law_width", "_law_basis", "_law_row"] (defScope s__law_product) := ⟨rfl, rfl, rfl, by decide +kernel, rfl, by decide +kernel, by decide +kernel⟩
theorem fo__law_product {f : Addr} {fd : FuncData} (F : FD K "_law_product" s__law_product f fd) (g : mg "_law_product" = some (.ref f)) (T : Tk K mg) (G__law_plain : FO P w K mg base 2 "_law_plain" (c__law_plain K)) (G__law_row_product : FO P w K mg base 1 "_law_row_product" (c__law_row_product K)) : FO P w K mg base 3 "_law_product" (c__law_product K) :=
  fo_mk F g sc__law_product (F.bindsN fun _ _ _ _ _ _ us hl => match us, hl with | [_, _, _, _], _ => rfl) (fun a _ => by first | rfl | (cases a; rfl)) fun cdv A outer s H E hr => ⟨_,
    (pss_one (ps_ret (pe_fo G__law_plain hr (by decide) (by rfl) (pa_cons (pv 0) (pa_cons (pv 1) (pa_cons (pe_lc rfl sc__law_product.nd (pi_tup (pv 2)) (blkOk_by (N := ["_law_field_here", "_law_width", "_law_basis", "_law_row", "_law_one"]) (own := [("_law_one", 4)]) (sc := defScope s__law_product) (by decide +kernel)) (g := gName 4) (tt := tYes) (fun _ _ _ _ _ => (pg_name (i := 4) sc__law_product.nd rfl (Or.inl rfl))) (fun _ _ _ _ _ => pts_nil) (fun _ _ _ _ _ => (pe_foK (K := K) G__law_row_product hr (by decide) (by rfl) (pa_cons (pv 0) (pa_cons (pv 4) (pa_cons (pv 3) pa_nil)))))) pa_nil)))))),
  fun δ F0 (a : (k : Fq) × Nat × List (List (El k)) × List (El k)) ok => by
    obtain ⟨k, n, P, g⟩ := a
    obtain ⟨hl, hg, hn, hP⟩ := (show (∀ x, x ∈ P → x.length = n) ∧ g.length = n ∧ n ≤ 60 ∧ P.length ≤ 60 from ok)
    have e : P.map (fun x => prodL x g) = P.map fun x => prodP x g := List.map_congr_left fun x hx => prodL_eq (hl x hx) hg
    have hl2 : ∀ x, x ∈ P.map (fun x => prodL x g) → x.length = n := by rw [e]; exact by_len hl hg
    refine sd_retD (ed_call (C := c__law_plain K) ⟨k, n, P.map fun x => prodL x g⟩ (ad_cons (ed_var rfl) (ad_cons (ed_var rfl) (ad_cons ((ed_en (en_map (as := P) (wi_rows (ed_var rfl)) (fun x => rP (prodL x g)) (by omega) fun x hx => ed_call (C := c__law_row_product K) ⟨k, n, x, g⟩ (ad_cons (ed_var rfl) (ad_cons (ed_var rfl) (ad_cons (ed_var rfl) ap_nil))) ⟨hl x hx, hg, hn⟩ fun _ h => h)).to (by rw [List.map_map]; rfl)) ap_nil))) (show (∀ x, x ∈ P.map (fun x => prodL x g) → x.length = n) ∧ n ≤ 60 ∧ (P.map fun x => prodL x g).length ≤ 1000 from ⟨hl2, hn, by rw [List.length_map]; omega⟩) fun _ h => h) ?_
    show D.py (rsP (lpl n (P.map fun x => prodL x g))) = D.py (rsP (byR P g))
    rw [lpl_rref hl2, e]; rfl⟩
end
end Dl
set_option Elab.async false
set_option linter.all false
set_option maxRecDepth 100000
set_option maxHeartbeats 4000000
namespace Dl
open PySem PySem.Spec PyProof.Rows L2 SlX Rm
section
variable {P : Program} {w : World} {K : PySem.W.Frag} {mg : Str → Option Value} {base : Heap}
theorem one_up {k : Fq} {i j : Int} (e : i = 1) (p : 0 ≤ j ∧ j < (k.n : Int) - 1) : ∃ x : El k, i + j = inI x ∧ x ≠ 0 := by
  have h : (1 + j).toNat < k.n := by omega
  refine ⟨ofN k (1 + j).toNat, ?_, fun z => ?_⟩
  · show _ = ((ofN k (1 + j).toNat).v : Int)
    rw [v_ofN h]; omega
  · have z2 := congrArg El.v z
    rw [v_ofN h, v_zero] at z2
    omega
theorem co_app0 {k : Fq} {x y : List (El k)} (h : 0 < x.length) : co (x ++ y) 0 = co x 0 := by
  unfold co
  rw [List.getD_eq_getElem?_getD, List.getD_eq_getElem?_getD, List.getElem?_append_left h]
theorem rom_nil {k : Fq} {r s : Nat} : Rom 0 r s ([] : List (List (El k))) := ⟨⟨[], okd_nil, by unfold ls keys sortN; simp⟩, fun x hx => (by cases hx), fun x hx => (by cases hx), fun h => absurd h (Nat.not_lt_zero _)⟩
def c__law_roll0 (K : PySem.W.Frag) : Con := { α := Int, ok := fun m => 0 < m ∧ m < 1073741824, args := fun m => [.dice, I m], R := fun m d => ∃ i, d = I i ∧ 0 ≤ i ∧ i < m }
theorem ei_roll {δ : Option Addr} {H0 : Hp} {ρ : List Sl} {ar : TA} {E : XK} {m : Int} (h : AD K δ H0 ar ρ [.dice, I m]) (m0 : 0 < m) (m1 : m < 1073741824) : EI K δ H0 (tCall (spD K (c__law_roll0 K)) [] E ar) ρ fun i => 0 ≤ i ∧ i < m :=
  ep_call h fun ds e => ⟨m, ⟨m0, m1⟩, e.symm, fun d h => h⟩
abbrev c__law_roll (K : PySem.W.Frag) : Con := c__law_roll0 K
abbrev s__law_roll : Stmt := tp 87
theorem sc__law_roll : FnScope ["_law_dice_here", "_law_total", "_law_one", "_law_two", "_law_found"] ["_law_dice_here", "_law_total"] (defScope s__law_roll) := ⟨rfl, rfl, rfl, by decide +kernel, rfl, by decide +kernel, by decide +kernel⟩
theorem fo__law_roll {f : Addr} {fd : FuncData} (F : FD K "_law_roll" s__law_roll f fd) (g : mg "_law_roll" = some (.ref f)) (T : Tk K mg) : FO P w K mg base 1 "_law_roll" (c__law_roll K) :=
  fo_mk F g sc__law_roll (F.bindsN fun _ _ _ _ _ _ us hl => match us, hl with | [_, _], _ => rfl) (fun a _ => by first | rfl | (cases a; rfl)) fun cdv A outer s H E hr => ⟨_,
    (pss_cons (ps_if (pt_cmpR op_gt (pe_ix ix_seq (pv 0) pe_int (fun _ _ => rfl)) pe_int (nomark _)) (pss_cons (ps_set (i := 4) sc__law_roll.nd rfl (Or.inl rfl) (pe_op op_mod (pe_callTy call_int1 (by rfl) T.int_ (by decide +kernel) (pa_cons (pe_ix ix_seq (pv 0) pe_int (fun _ _ => rfl)) pa_nil)) (pv 1)))
    (pss_cons (ps_asg (pe_op op_fdiv (pe_ix ix_seq (pv 0) pe_int (fun _ _ => rfl)) (pv 1)) (pg_sub (pv 0) pe_int set_list))
    (pss_one (ps_ret (pv 4))))) pss_nil)
    (pss_cons (ps_asg (pe_op op_add (pe_ix ix_seq (pv 0) pe_int (fun _ _ => rfl)) pe_int) (pg_sub (pv 0) pe_int set_list))
    (pss_cons (ps_set (i := 2) sc__law_roll.nd rfl (Or.inl rfl) (pe_op op_mod (pe_callTy call_int1 (by rfl) T.int_ (by decide +kernel) (pa_cons (pe_op op_add (pe_ix ix_seq (pv 0) pe_int (fun _ _ => rfl)) (pe_op op_mul pe_int (pe_ix ix_seq (pv 0) pe_int (fun _ _ => rfl)))) pa_nil)) pe_int))
    (pss_cons (ps_set (i := 3) sc__law_roll.nd rfl (Or.inl rfl) (pe_op op_add (pe_op op_mul (pe_op op_mod (pe_callTy call_int1 (by rfl) T.int_ (by decide +kernel) (pa_cons (pe_op op_add (pe_op op_mul (pv 2) (pv 2)) (pe_op op_mul pe_int (pe_ix ix_seq (pv 0) pe_int (fun _ _ => rfl)))) pa_nil)) pe_int) pe_int) (pv 2)))
    (pss_one (ps_ret (pe_op op_mod (pe_callTy call_int1 (by rfl) T.int_ (by decide +kernel) (pa_cons (pe_op op_fdiv (pv 3) pe_int) pa_nil)) (pv 1)))))))),
  fun δ F0 (m : Int) ok => by
    obtain ⟨m0, m1⟩ := (show 0 < m ∧ m < 1073741824 from ok)
    refine sd_seq (sd_if (bp_cmp (ei_dice (i := 0) (ed_var rfl) (by decide)) (ei_of (P1 := fun _ => True) ed_int trivial)) (fun _ => ?_) fun _ => sd_nx ?_)
    · refine sd_seq (sd_asg (ei_op (P3 := fun i => 0 ≤ i ∧ i < m) (ei_int (ei_dice (i := 0) (ed_var rfl) (by decide))) (ei_of (P1 := fun j => j = m) (ed_var rfl) rfl) fun i j _ e => ⟨by omega, by subst e; exact ⟨Int.emod_nonneg _ (by omega), Int.emod_lt_of_pos _ m0⟩⟩) ?_)
      rintro d ⟨i, rfl, p⟩
      refine sd_seq (sd_setDice (i := 0) rfl (ei_op (P3 := fun _ => True) (ei_dice (i := 0) (ed_var rfl) (by decide)) (ei_of (P1 := fun j => j = m) (ed_var rfl) rfl) fun i j _ e => ⟨(⟨by omega, by omega⟩ : CDiv i j), trivial⟩) (by decide) ?_)
      exact sd_retD (ed_var rfl) ⟨i, rfl, p⟩
    refine sd_seq (sd_setDice (i := 2) rfl (ei_op0 (P3 := fun _ => True) (ei_dice (i := 2) (ed_var rfl) (by decide)) (ei_of (P1 := fun _ => True) ed_int trivial) fun _ _ _ _ => trivial) (by decide) ?_)
    refine sd_seq (sd_asg (ei_op (P3 := fun i => 0 ≤ i ∧ i < 2305843009213693613) (ei_int (ei_op0 (P3 := fun _ => True) (ei_dice (i := 1) (ed_var rfl) (by decide)) (ei_op (P3 := fun _ => True) (ei_of (P1 := fun j => j = 104395301) ed_int rfl) (ei_dice (i := 2) (ed_var rfl) (by decide)) fun i j e _ => ⟨.inl ⟨by omega, by omega⟩, trivial⟩) fun _ _ _ _ => trivial)) (ei_of (P1 := fun j => j = 2305843009213693613) ed_int rfl) fun i j _ e => ⟨by omega, by subst e; exact ⟨Int.emod_nonneg _ (by decide), Int.emod_lt_of_pos _ (by decide)⟩⟩) ?_)
    rintro d ⟨one, rfl, p0, p1⟩
    refine sd_seq (sd_asg (ei_op0 (P3 := fun _ => True) (ei_op (P3 := fun _ => True) (ei_op (P3 := fun _ => True) (ei_int (ei_op0 (P3 := fun _ => True) (ei_op (P3 := fun _ => True) (ei_of (P1 := fun j => j = one) (ed_var rfl) rfl) (ei_of (P1 := fun j => j = one) (ed_var rfl) rfl) fun i j e _ => ⟨.inl ⟨by omega, by omega⟩, trivial⟩) (ei_op (P3 := fun _ => True) (ei_of (P1 := fun j => j = 107) ed_int rfl) (ei_dice (i := 2) (ed_var rfl) (by decide)) fun i j e _ => ⟨.inl ⟨by omega, by omega⟩, trivial⟩) fun _ _ _ _ => trivial)) (ei_of (P1 := fun j => j = 2305843009213693519) ed_int rfl) fun i j _ e => ⟨by omega, trivial⟩) (ei_of (P1 := fun j => j = 3021377) ed_int rfl) fun i j _ e => ⟨.inr ⟨by omega, by omega⟩, trivial⟩) (ei_of (P1 := fun _ => True) (ed_var rfl) trivial) fun _ _ _ _ => trivial) ?_)
    rintro d ⟨two, rfl, _⟩
    exact sd_ret (EP.imp (ei_op (P3 := fun i => 0 ≤ i ∧ i < m) (ei_int (ei_op (P3 := fun _ => True) (ei_of (P1 := fun _ => True) (ed_var rfl) trivial) (ei_of (P1 := fun j => j = 65536) ed_int rfl) fun i j _ e => ⟨(⟨by omega, by omega⟩ : CDiv i j), trivial⟩)) (ei_of (P1 := fun j => j = m) (ed_var rfl) rfl) fun i j _ e => ⟨by omega, by subst e; exact ⟨Int.emod_nonneg _ (by omega), Int.emod_lt_of_pos _ m0⟩⟩) fun _ h => h)⟩
def c__law_pick (K : PySem.W.Frag) : Con := { α := List PyData, ok := fun xs => xs ≠ [] ∧ xs.length ≤ 100000, args := fun xs => [.dice, .py (.list xs)], R := fun xs d => ∃ e, e ∈ xs ∧ d = .py e }
abbrev s__law_pick : Stmt := tp 88
theorem sc__law_pick : FnScope ["_law_dice_here", "_law_items"] ["_law_dice_here", "_law_items"] (defScope s__law_pick) := ⟨rfl, rfl, rfl, by decide +kernel, rfl, by decide +kernel, by decide +kernel⟩
theorem fo__law_pick {f : Addr} {fd : FuncData} (F : FD K "_law_pick" s__law_pick f fd) (g : mg "_law_pick" = some (.ref f)) (T : Tk K mg) (G__law_roll : FO P w K mg base 1 "_law_roll" (c__law_roll K)) : FO P w K mg base 2 "_law_pick" (c__law_pick K) :=
  fo_mk F g sc__law_pick (F.bindsN fun _ _ _ _ _ _ us hl => match us, hl with | [_, _], _ => rfl) (fun a _ => by first | rfl | (cases a; rfl)) fun cdv A outer s H E hr => ⟨_,
    (pss_one (ps_ret (pe_ix ix_seq (pv 1) (pe_fo G__law_roll hr (by decide) (by rfl) (pa_cons (pv 0) (pa_cons (pe_callB ((call_len_seq)) (by rfl) T.len_ (by decide +kernel) (pa_cons (pv 1) pa_nil)) pa_nil))) (fun _ _ => rfl)))),
  fun δ F0 (xs : List PyData) ok => by
    obtain ⟨h0, h1⟩ := (show xs ≠ [] ∧ xs.length ≤ 100000 from ok)
    have hp : 0 < xs.length := List.length_pos_iff.mpr h0
    refine sd_ret (EP.imp (ep_ixL (Pe := fun e => e ∈ xs) (el_fz (ed_var rfl)) (ei_roll (m := (xs.length : Int)) (ad_cons (ed_var rfl) (ad_cons (ed_lenL (el_fz (ed_var rfl))) ap_nil)) (by omega) (by omega)) fun i ⟨p0, p1⟩ => ?_) fun d ⟨e, ed, he⟩ => ⟨e, he, ed⟩)
    have hi : i.toNat < xs.length := by omega
    exact ⟨xs[i.toNat], at_int p0 (List.getElem?_eq_getElem hi), List.getElem_mem hi⟩⟩
def c__law_row_drawn (K : PySem.W.Frag) : Con := { α := (_ : Fq) × Nat, ok := fun a => a.2 ≤ 60, args := fun a => [.dice, .py (lawF a.1), I (a.2 : Int)], R := fun a d => ∃ r : List (El a.1), d = .py (rP r) ∧ r.length = a.2 }
abbrev s__law_row_drawn : Stmt := tp 95
theorem sc__law_row_drawn : FnScope ["_law_dice_here", "_law_field_here", "_law_length", "_law_turn"] ["_law_dice_here", "_law_field_here", "_law_length"] (defScope s__law_row_drawn) := ⟨rfl, rfl, rfl, by decide +kernel, rfl, by decide +kernel, by decide +kernel⟩
theorem fo__law_row_drawn {f : Addr} {fd : FuncData} (F : FD K "_law_row_drawn" s__law_row_drawn f fd) (g : mg "_law_row_drawn" = some (.ref f)) (T : Tk K mg) (G__law_roll : FO P w K mg base 1 "_law_roll" (c__law_roll K)) : FO P w K mg base 2 "_law_row_drawn" (c__law_row_drawn K) :=
  fo_mk F g sc__law_row_drawn (F.bindsN fun _ _ _ _ _ _ us hl => match us, hl with | [_, _, _], _ => rfl) (fun a _ => by first | rfl | (cases a; rfl)) fun cdv A outer s H E hr => ⟨_,
    (pss_one (ps_ret (pe_callTy call_tuple_of (by rfl) T.tuple_ (by decide +kernel) (pa_cons (pe_lc rfl sc__law_row_drawn.nd (pi_range1 (by rfl) T.range_ (pa_cons (pv 2) pa_nil)) (blkOk_by (N := ["_law_dice_here", "_law_field_here", "_law_length", "_law_turn"]) (own := [("_law_turn", 3)]) (sc := defScope s__law_row_drawn) (by decide +kernel)) (g := gName 3) (tt := tYes) (fun _ _ _ _ _ => (pg_name (i := 3) sc__law_row_drawn.nd rfl (Or.inl rfl))) (fun _ _ _ _ _ => pts_nil) (fun _ _ _ _ _ => (pe_foK (K := K) G__law_roll hr (by decide) (by rfl) (pa_cons (pv 0) (pa_cons (pe_ix (ix_seqK (K := K)) (pv 1) pe_int (fun _ _ => rfl)) pa_nil))))) pa_nil)))),
  fun δ F0 (a : (_ : Fq) × Nat) ok => by
    obtain ⟨k, n⟩ := a
    have hn : n ≤ 60 := ok
    have k9 := k.le9
    have k2 := k.two
    refine sd_ret (EP.imp (ep_tupL (Pe := fun xs => ∃ r : List (El k), xs = r.map inP ∧ r.length = n) (enp_lc (wi_rngN (n := n) (ad_cons (ed_var rfl) ap_nil) (by omega)) (fun d => (wipeS _ [3]).set 3 (.fz d)) (fun i acc => ∃ r : List (El k), acc = r.map inP ∧ r.length = i) ⟨[], rfl, rfl⟩ (fun d _ => gd_name) (fun j hj => hj) (by rw [List.length_map, List.length_range]; omega) (fun i d acc hd ⟨r, er, lr⟩ => bp_yes ?_) fun acc ⟨r, er, lr⟩ => ⟨r, er, by rw [List.length_map, List.length_range] at lr; exact lr⟩)) fun d ⟨xs, ex, r, er, lr⟩ => ⟨r, by rw [ex, er, rP_eq], lr⟩)
    rw [if_pos rfl]
    refine EP.imp (ei_roll (m := (k.n : Int)) (ad_cons (ed_var rfl) (ad_cons (ed_lawSize (ed_var rfl)) ap_nil)) (by omega) (by omega)) ?_
    rintro d ⟨i, rfl, p0, p1⟩
    refine ⟨.int i, rfl, r ++ [ofN k i.toNat], ?_, by rw [List.length_append, lr]; rfl⟩
    have e2 : inP (ofN k i.toNat) = .int i := by
      rw [inP_ofN (by omega), show ((i.toNat : Nat) : Int) = i by omega]
    rw [er, List.map_append]
    show _ = _ ++ [inP (ofN k i.toNat)]
    rw [e2]⟩
def c__law_first_row (K : PySem.W.Frag) : Con := { α := (_ : Fq) × Nat, ok := fun a => a.2 ≤ 60, args := fun a => [.dice, .py (lawF a.1), I (a.2 : Int)], R := fun a d => ∃ g : List (El a.1), d = .py (rP g) ∧ g.length = a.2 ∧ (0 < a.2 → co g 0 ≠ 0) }
abbrev s__law_first_row : Stmt := tp 104
theorem sc__law_first_row : FnScope ["_law_dice_here", "_law_field_here", "_law_width"] ["_law_dice_here", "_law_field_here", "_law_width"] (defScope s__law_first_row) := ⟨rfl, rfl, rfl, by decide +kernel, rfl, by decide +kernel, by decide +kernel⟩
theorem fo__law_first_row {f : Addr} {fd : FuncData} (F : FD K "_law_first_row" s__law_first_row f fd) (g : mg "_law_first_row" = some (.ref f)) (T : Tk K mg) (G__law_roll : FO P w K mg base 1 "_law_roll" (c__law_roll K)) (G__law_row_drawn : FO P w K mg base 2 "_law_row_drawn" (c__law_row_drawn K)) : FO P w K mg base 3 "_law_first_row" (c__law_first_row K) :=
  fo_mk F g sc__law_first_row (F.bindsN fun _ _ _ _ _ _ us hl => match us, hl with | [_, _, _], _ => rfl) (fun a _ => by first | rfl | (cases a; rfl)) fun cdv A outer s H E hr => ⟨_,
    (pss_one (ps_ret (pe_ifExp (pt_cmpR op_gt (pv 2) pe_int (nomark _)) (pe_op op_catA (pe_tup (pa_cons (pe_op op_add pe_int (pe_fo G__law_roll hr (by decide) (by rfl) (pa_cons (pv 0) (pa_cons (pe_op op_sub (pe_ix ix_seq (pv 1) pe_int (fun _ _ => rfl)) pe_int) pa_nil)))) pa_nil)) (pe_fo G__law_row_drawn hr (by decide) (by rfl) (pa_cons (pv 0) (pa_cons (pv 1) (pa_cons (pe_op op_sub (pv 2) pe_int) pa_nil))))) (pe_tup pa_nil)))),
  fun δ F0 (a : (_ : Fq) × Nat) ok => by
    obtain ⟨k, n⟩ := a
    have hn : n ≤ 60 := ok
    have k9 := k.le9
    have k2 := k.two
    refine sd_ret (ep_if (bd_B (ed_gt (ed_var rfl) ed_int)) (fun e => ?_) fun e => ?_)
    · have h0 : 0 < n := by have z : (0 : Int) < ((n : Nat) : Int) := of_decide_eq_true e.symm; omega
      exact EP.imp (ew_cat (A := fun x => x.length = 1 ∧ co x 0 ≠ 0) (B := fun y => y.length = n - 1) (C := fun g => g.length = n ∧ co g 0 ≠ 0) (ew_one (P := fun x => x ≠ 0) (ei_op0 (P3 := fun i => ∃ x : El k, i = inI x ∧ x ≠ 0) (ei_of (P1 := fun j => j = 1) ed_int rfl) (ei_roll (m := (k.n : Int) - 1) (ad_cons (ed_var rfl) (ad_cons (ed_sub (ed_lawSize (ed_var rfl)) ed_int) ap_nil)) (by omega) (by omega)) fun i j e p => one_up e p) fun x hx => ⟨rfl, hx⟩) (EP.imp (ep_call (C := c__law_row_drawn K) (Ps := fun ds => ds = [.dice, .py (lawF k), I ((n - 1 : Nat) : Int)]) (P := fun d => ∃ r : List (El k), d = .py (rP r) ∧ r.length = n - 1) (ad_cons (ed_var rfl) (ad_cons (ed_var rfl) (ad_cons ((ed_sub (ed_var rfl) ed_int).to (by rw [show ((n : Nat) : Int) - 1 = ((n - 1 : Nat) : Int) by omega])) ap_nil))) fun ds e => ⟨⟨k, n - 1⟩, (show n - 1 ≤ 60 by omega), e.symm, fun d h => h⟩) fun d h => h) (fun x y hx hy => by rw [hx.1, hy]; omega) fun x y hx hy => ⟨by rw [List.length_append, hx.1, hy]; omega, by rw [co_app0 (by omega)]; exact hx.2⟩) fun d ⟨g, e1, e2, e3⟩ => ⟨g, e1, e2, fun _ => e3⟩
    · have h0 : n = 0 := by have z : ¬ (0 : Int) < ((n : Nat) : Int) := of_decide_eq_false e.symm; omega
      subst h0
      exact (ed_tup (ds := []) ap_nil (by decide)).ep ⟨[], rfl, rfl, fun h => absurd h (Nat.not_lt_zero _)⟩⟩
def c__law_room_drawn (K : PySem.W.Frag) : Con := { α := (_ : Fq) × Nat × Nat, ok := fun a => SlOk a.2.1 a.2.2, args := fun a => [.dice, .py (lawF a.1), I (a.2.1 : Int), I (a.2.2 : Int)], R := fun a d => ∃ P : List (List (El a.1)), d = .py (rsP P) ∧ Rom (wdt a.2.1 a.2.2) a.2.1 a.2.2 P }
abbrev s__law_room_drawn : Stmt := tp 103
theorem sc__law_room_drawn : FnScope ["_law_dice_here", "_law_field_here", "_law_rises", "_law_steps", "_law_width", "_law_rows", "_law_turn", "_law_start"] ["_law_dice_here", "_law_field_here", "_law_rises", "_law_steps"] (defScope s__law_room_drawn) := ⟨rfl, rfl, rfl, by decide +kernel, rfl, by decide +kernel, by decide +kernel⟩
theorem fo__law_room_drawn {f : Addr} {fd : FuncData} (F : FD K "_law_room_drawn" s__law_room_drawn f fd) (g : mg "_law_room_drawn" = some (.ref f)) (T : Tk K mg) (G__law_room_closed : FO P w K mg base 3 "_law_room_closed" (c__law_room_closed K)) (G__law_roll : FO P w K mg base 1 "_law_roll" (c__law_roll K)) (G__law_row_drawn : FO P w K mg base 2 "_law_row_drawn" (c__law_row_drawn K)) : FO P w K mg base 4 "_law_room_drawn" (c__law_room_drawn K) :=
  fo_mk F g sc__law_room_drawn (F.bindsN fun _ _ _ _ _ _ us hl => match us, hl with | [_, _, _, _], _ => rfl) (fun a _ => by first | rfl | (cases a; rfl)) fun cdv A outer s H E hr => ⟨_,
    (pss_cons (ps_set (i := 4) sc__law_room_drawn.nd rfl (Or.inl rfl) (pe_op op_mul (pe_op op_sub (pv 2) pe_int) (pe_op op_sub (pv 3) pe_int)))
    (pss_cons (ps_if (pt_cmpR op_eq (pv 4) pe_int (nomark _)) (pss_one (ps_ret (pe_tup pa_nil))) pss_nil)
    (pss_cons (ps_set (i := 5) sc__law_room_drawn.nd rfl (Or.inl rfl) (pe_lst (pa_cons (pe_op op_catA (pe_tup (pa_cons (pe_op op_add pe_int (pe_fo G__law_roll hr (by decide) (by rfl) (pa_cons (pv 0) (pa_cons (pe_op op_sub (pe_ix ix_seq (pv 1) pe_int (fun _ _ => rfl)) pe_int) pa_nil)))) pa_nil)) (pe_fo G__law_row_drawn hr (by decide) (by rfl) (pa_cons (pv 0) (pa_cons (pv 1) (pa_cons (pe_op op_sub (pv 4) pe_int) pa_nil))))) pa_nil)))
    (pss_cons (ps_for PassesOwn.never rfl (pi_range1 (by rfl) T.range_ (pa_cons (pe_fo G__law_roll hr (by decide) (by rfl) (pa_cons (pv 0) (pa_cons pe_int pa_nil))) pa_nil)) (pg_name (i := 6) sc__law_room_drawn.nd rfl (Or.inl rfl)) (pss_cons (ps_set (i := 7) sc__law_room_drawn.nd rfl (Or.inl rfl) (pe_fo G__law_roll hr (by decide) (by rfl) (pa_cons (pv 0) (pa_cons (pv 4) pa_nil))))
    (pss_one (ps_expr (pe_bm PySem.F.plainAttrs_list PySem.F.slot_list_append PySem.F.type_list_append mt_append (pv 5) (pa_cons (pe_op op_catA (pe_op op_repA (pe_tup (pa_cons pe_int pa_nil)) (pv 7)) (pe_fo G__law_row_drawn hr (by decide) (by rfl) (pa_cons (pv 0) (pa_cons (pv 1) (pa_cons (pe_op op_sub (pv 4) (pv 7)) pa_nil))))) pa_nil))))))
    (pss_one (ps_ret (pe_fo G__law_room_closed hr (by decide) (by rfl) (pa_cons (pv 1) (pa_cons (pv 2) (pa_cons (pv 3) (pa_cons (pv 5) pa_nil))))))))))),
  fun δ F0 (a : (_ : Fq) × Nat × Nat) ok => by
    obtain ⟨k, r, s⟩ := a
    have h : SlOk r s := ok
    have hw : wdt r s ≤ 24 := h.w
    have r2 := h.r2
    have k9 := k.le9
    have k2 := k.two
    refine sd_seq (sd_asgD ((ed_mul (ed_sub (ed_var rfl) ed_int) (ed_sub (ed_var rfl) ed_int) (cmul_l (a := (r : Int) - 1) (by have := h.r1; omega) (by omega))).to (d' := I ((wdt r s : Nat) : Int)) (by rw [← wdt_int h.r1 h.s1])) ?_)
    generalize hn : wdt r s = n
    rw [hn] at hw
    refine sd_seq (sd_ifD (bd_B (ed_eq (ed_var rfl) ed_int)) (fun e => ?_) fun e => sd_nx ?_)
    · have h0 : n = 0 := by have z := of_decide_eq_true e; omega
      refine sd_retD (ed_tup (ds := []) ap_nil (by decide)) ⟨[], rfl, ?_⟩
      show Rom (wdt r s) r s []
      rw [hn, h0]
      exact rom_nil
    have h0 : 0 < n := by have z := of_decide_eq_false e; omega
    refine sd_seq (sd_asgN (Pe := fun xs => ∃ g : List (El k), xs = [rP g] ∧ g.length = n ∧ co g 0 ≠ 0) (enp_lst (Ps := fun ds => ∃ g : List (El k), ds = [.py (rP g)] ∧ g.length = n ∧ co g 0 ≠ 0) (ap_cons (P2 := fun _ xs => xs = []) (ew_cat (A := fun x => x.length = 1 ∧ co x 0 ≠ 0) (B := fun y => y.length = n - 1) (C := fun g => g.length = n ∧ co g 0 ≠ 0) (ew_one (P := fun x => x ≠ 0) (ei_op0 (P3 := fun i => ∃ x : El k, i = inI x ∧ x ≠ 0) (ei_of (P1 := fun j => j = 1) ed_int rfl) (ei_roll (m := (k.n : Int) - 1) (ad_cons (ed_var rfl) (ad_cons (ed_sub (ed_lawSize (ed_var rfl)) ed_int) ap_nil)) (by omega) (by omega)) fun i j e p => one_up e p) fun x hx => ⟨rfl, hx⟩) (EP.imp (ep_call (C := c__law_row_drawn K) (Ps := fun ds => ds = [.dice, .py (lawF k), I ((n - 1 : Nat) : Int)]) (P := fun d => ∃ r : List (El k), d = .py (rP r) ∧ r.length = n - 1) (ad_cons (ed_var rfl) (ad_cons (ed_var rfl) (ad_cons ((ed_sub (ed_var rfl) ed_int).to (by rw [show ((n : Nat) : Int) - 1 = ((n - 1 : Nat) : Int) by omega])) ap_nil))) fun ds e => ⟨⟨k, n - 1⟩, (show n - 1 ≤ 60 by omega), e.symm, fun d h => h⟩) fun d h => h) (fun x y hx hy => by rw [hx.1, hy]; omega) fun x y hx hy => ⟨by rw [List.length_append, hx.1, hy]; omega, by rw [co_app0 (by omega)]; exact hx.2⟩) (fun _ _ => ap_nil) (by
      rintro _ _ ⟨g, rfl, p⟩ rfl
      exact ⟨g, rfl, p⟩)) (by
      rintro _ ⟨g, rfl, p⟩
      exact ⟨[rP g], rfl, (by decide : 1 ≤ 100000), g, rfl, p⟩)) ?_)
    rintro xs ⟨g, rfl, lg, g0⟩
    refine sd_seq (sd_forRX (m := 3) (ei_roll (m := 3) (ad_cons (ed_var rfl) (ad_cons ed_int ap_nil)) (by decide) (by decide)) (by decide) (fun i ρ1 => ∃ X u v, ρ1 = [.fz .dice, .fz (.py (lawF k)), .fz (I (r : Int)), .fz (I (s : Int)), .fz (I (n : Int)), .ow (X.map rP), u, v] ∧ X.length = i + 1 ∧ (∀ x, x ∈ X → x.length = n) ∧ g ∈ X) ⟨[g], _, _, rfl, rfl, fun x hx => by rw [List.mem_singleton.mp hx]; exact lg, List.mem_singleton.mpr rfl⟩ ?_ ?_)
    · rintro i ρ1 hi ⟨X, u, v, rfl, lX, hX, gX⟩
      refine sd_seq (sd_asg (ei_roll (m := (n : Int)) (ad_cons (ed_var rfl) (ad_cons (ed_var rfl) ap_nil)) (by omega) (by omega)) ?_)
      rintro d ⟨z, rfl, z0, z1⟩
      have ez : z = ((z.toNat : Nat) : Int) := by omega
      generalize z.toNat = b at ez
      subst ez
      refine sd_app (P := fun d => ∃ r : List (El k), d = .py (rP r) ∧ r.length = n) rfl (ew_cat (A := fun x => x.length = b) (B := fun y => y.length = n - b) (C := fun g => g.length = n) (ew_of (ed_zeros (ed_var rfl) (by omega)) (by unfold zr; rw [List.length_replicate])) (EP.imp (ep_call (C := c__law_row_drawn K) (Ps := fun ds => ds = [.dice, .py (lawF k), I ((n - b : Nat) : Int)]) (P := fun d => ∃ r : List (El k), d = .py (rP r) ∧ r.length = n - b) (ad_cons (ed_var rfl) (ad_cons (ed_var rfl) (ad_cons ((ed_sub (ed_var rfl) (ed_var rfl)).to (by rw [show ((n : Nat) : Int) - ((b : Nat) : Int) = ((n - b : Nat) : Int) by omega])) ap_nil))) fun ds e => ⟨⟨k, n - b⟩, (show n - b ≤ 60 by omega), e.symm, fun d h => h⟩) fun d h => h) (fun x y hx hy => by rw [hx, hy]; omega) fun x y hx hy => by rw [List.length_append, hx, hy]; omega) (by rw [List.length_map]; omega) ?_
      rintro d ⟨q, rfl, lq⟩
      refine ⟨rP q, rfl, X ++ [q], _, _, by rw [List.map_append]; rfl, by rw [List.length_append, lX]; rfl, fun x hx => ?_, List.mem_append_left _ gX⟩
      rcases List.mem_append.mp hx with e | e
      · exact hX x e
      · rw [List.mem_singleton.mp e]; exact lq
    · rintro m ρ1 hm ⟨X, u, v, rfl, lX, hX, gX⟩
      rw [← hn] at hX h0
      refine sd_freeze (i := 5) rfl (sd_retD (ed_call (C := c__law_room_closed K) ⟨k, r, s, X⟩ (ad_cons (ed_var rfl) (ad_cons (ed_var rfl) (ad_cons (ed_var rfl) (ad_cons (ed_var rfl) ap_nil)))) (show SlOk r s ∧ (∀ x, x ∈ X → x.length = wdt r s) ∧ X.length ≤ 60 from ⟨h, hX, by omega⟩) fun _ h => h) ⟨_, rfl, clL_rom hX fun _ => ⟨g, gX, g0⟩⟩)⟩
end
end Dl
set_option Elab.async false
set_option linter.all false
set_option maxRecDepth 100000
set_option maxHeartbeats 4000000
namespace Dl
open PySem PySem.Spec PyProof.Rows L2 SlX Rm
section
variable {P : Program} {w : World} {K : PySem.W.Frag} {mg : Str → Option Value} {base : Heap}
theorem Fl_inv_mul {k : Fq} {x : El k} (h : x ≠ 0) : Fl.inv x * x = 1 := by
  have z := el_inv k x h
  have e : Fl.inv x * x = x * Fl.inv x := el_mul_comm k _ _
  rw [e]; exact z
theorem one_ok {k : Fq} {n o : Nat} {r : List (El k)} (h : o < n) (hl : r.length = n) (h1 : co r o = 1) (hz : ∀ j, j < o → co r j = 0) : OkD n [(o, r)] := by
  have lk : ∀ p v, tb [(o, r)] p = some v → p = o ∧ v = co r := fun p v e => by
    obtain ⟨q, e1, e2⟩ := tb_inv e
    rw [List.lookup_cons] at e1
    cases z : (p == o) with
    | true => rw [z] at e1; cases e1; exact ⟨by simpa using z, e2⟩
    | false => rw [z] at e1; cases e1
  refine ⟨by unfold keys; simp, fun p hp => by rw [List.mem_singleton] at hp; subst hp; exact hl, ⟨fun p v e => (lk p v e).1 ▸ h, fun p v e => ?_, fun p v e j hj => ?_, fun p v e p' hp' ne => ?_, fun p v e j hj => ?_⟩⟩
  · obtain ⟨e1, e2⟩ := lk p v e
    rw [e1, e2]; exact h1
  · obtain ⟨e1, e2⟩ := lk p v e
    rw [e2]; exact hz j (e1 ▸ hj)
  · cases q : tb [(o, r)] p' with
    | none => exact absurd q hp'
    | some v' => exact absurd ((lk p' v' q).1.trans (lk p v e).1.symm) ne
  · rw [(lk p v e).2]; exact co_ge (by omega)
theorem ed_h {ρ : List Sl} {i : Nat} {d : D} (h : ρ[i]? = some (.fz d)) : ρ[i]? = some (.fz d) := h
def c_reduced (K : PySem.W.Frag) : Con := { α := (k : Fq) × Nat × Dw (El k) × List (El k), ok := fun a => OkD a.2.1 a.2.2.1 ∧ a.2.2.2.length = a.2.1 ∧ a.2.1 ≤ 60, args := fun a => [fieldD K a.1, .py (rP a.2.2.2), dwD a.2.2.1], R := fun a d => d = .py (rP (redA a.2.2.1 a.2.2.2)) }
abbrev s_reduced : Stmt := tp 54
theorem sc_reduced : FnScope ["field", "row", "plain", "left", "order"] ["field", "row", "plain"] (defScope s_reduced) := ⟨rfl, rfl, rfl, by decide +kernel, rfl, by decide +kernel, by decide +kernel⟩
theorem fo_reduced {f : Addr} {fd : FuncData} (F : FD K "reduced" s_reduced f fd) (g : mg "reduced" = some (.ref f)) (T : Tk K mg) (G_row_less : FO P w K mg base 2 "row_less" (c_row_less K)) : FO P w K mg base 3 "reduced" (c_reduced K) :=
  fo_mk F g sc_reduced (F.bindsN fun _ _ _ _ _ _ us hl => match us, hl with | [_, _, _], _ => rfl) (fun a _ => by first | rfl | (cases a; rfl)) fun cdv A outer s H E hr => ⟨_,
    (pss_cons (ps_set (i := 3) sc_reduced.nd rfl (Or.inl rfl) (pv 1))
    (pss_cons (ps_for PassesOwn.never rfl (pi_list (pe_callB (call_sortedDI rfl) (by rfl) T.sorted_ (by decide +kernel) (pa_cons (pv 2) pa_nil))) (pg_name (i := 4) sc_reduced.nd rfl (Or.inl rfl)) (pss_one (ps_if (pt_cmpR op_ne (pe_ix ix_seq (pv 3) (pv 4) (fun _ _ => rfl)) pe_int (nomark _)) (pss_one (ps_set (i := 3) sc_reduced.nd rfl (Or.inl rfl) (pe_fo G_row_less hr (by decide) (by rfl) (pa_cons (pv 0) (pa_cons (pv 3) (pa_cons (pe_ix ix_seq (pv 3) (pv 4) (fun _ _ => rfl)) (pa_cons (pe_dget (hu_of hr) (pv 2) (pv 4) (fun _ _ => rfl)) pa_nil))))))) pss_nil)))
    (pss_one (ps_ret (pv 3))))),
  fun δ F0 (a : (k : Fq) × Nat × Dw (El k) × List (El k)) ok => by
    obtain ⟨k, n, A, row⟩ := a
    obtain ⟨hA, hl, hn⟩ := (show OkD n A ∧ row.length = n ∧ n ≤ 60 from ok)
    have hlen := okd_len hA
    refine sd_seq (sd_asgD (ed_var rfl) ?_)
    refine sd_seq (sd_forM (as := sortN (keys A)) (e := fun (o : Nat) => I (o : Int)) (wi_listM (f := fun (o : Nat) => .int (o : Int)) (ed_en (ed_sortedA rfl (A := A) (ed_var rfl) (by omega)))) (fun i ρ1 => ∃ X z, ρ1 = [.fz (fieldD K k), .fz (.py (rP row)), .fz (dwD A), .fz (.py (rP X)), z] ∧ X = redF A ((sortN (keys A)).take i) row) ⟨_, _, rfl, rfl⟩ ?_ ?_)
    · rintro i o ρ1 q ⟨X, z, rfl, hX⟩
      have ho : o ∈ keys A := sortN_mem.mp (List.mem_of_getElem? q)
      have hlr : X.length = n := hX ▸ redF_len hA _ _ hl fun p hp => sortN_mem.mp (List.mem_of_mem_take hp)
      have on : o < n := hA.klt ho
      have e1 := redF_snoc A ((sortN (keys A)).take i) o row
      rw [← take_snoc q, ← hX] at e1
      refine sd_ifD (bd_B (ed_ne (ed_rowAt (ed_var rfl) (ed_var rfl) (by omega)) ed_int)) (fun e => ?_) fun e => sd_nx ⟨_, _, rfl, ?_⟩
      · have nz : co X o ≠ 0 := fun h => by simp [h, inI_0] at e
        refine sd_asgD (ed_call (C := c_row_less K) ⟨k, X, getA A o, co X o⟩ (ad_cons (ed_var rfl) (ad_cons (ed_var rfl) (ad_cons (ed_rowAt (ed_var rfl) (ed_var rfl) (by omega)) (ad_cons (ed_dwGet (ed_var rfl) (ed_var rfl) ho) ap_nil)))) (show X.length ≤ 1000 by omega) fun _ h => h) ⟨_, _, rfl, ?_⟩
        rw [e1, if_pos nz]
      · have zz : co X o = 0 := inI_zero.mp (by simpa using e)
        rw [e1, if_neg (fun h => h zz)]
    · rintro ρ1 ⟨X, z, rfl, hX⟩
      refine sd_retD (ed_var rfl) ?_
      rw [List.take_length] at hX
      rw [hX]; rfl⟩
def c_plain_by_orders (K : PySem.W.Frag) : Con := { α := (k : Fq) × Nat × Bool × List (List (El k)), ok := fun a => (∀ x, x ∈ a.2.2.2 → x.length = a.2.1) ∧ a.2.1 ≤ 60 ∧ a.2.2.2.length ≤ 1000, args := fun a => [fieldD K a.1, .py (rsA a.2.2.1 a.2.2.2)], R := fun a d => d = dwD (pbo a.2.2.2) }
abbrev s_plain_by_orders : Stmt := tp 55
theorem sc_plain_by_orders : FnScope ["field", "rows", "found", "row", "left", "order", "new", "at", "kept"] ["field", "rows"] (defScope s_plain_by_orders) := ⟨rfl, rfl, rfl, by decide +kernel, rfl, by decide +kernel, by decide +kernel⟩
theorem fo_plain_by_orders {f : Addr} {fd : FuncData} (F : FD K "plain_by_orders" s_plain_by_orders f fd) (g : mg "plain_by_orders" = some (.ref f)) (T : Tk K mg) (G_reduced : FO P w K mg base 3 "reduced" (c_reduced K)) (G_scaled : FO P w K mg base 1 "scaled" (c_scaled K)) (G_order_of_row : FO P w K mg base 1 "order_of_row" (c_order_of_row K)) : FO P w K mg base 4 "plain_by_orders" (c_plain_by_orders K) :=
  fo_mk F g sc_plain_by_orders (F.bindsN fun _ _ _ _ _ _ us hl => match us, hl with | [_, _], _ => rfl) (fun a _ => by first | rfl | (cases a; rfl)) fun cdv A outer s H E hr => ⟨_,
    (pss_cons (ps_set (i := 2) sc_plain_by_orders.nd rfl (Or.inl rfl) pe_dnewK)
    (pss_cons (ps_for PassesOwn.never rfl (pi_any (pv 1)) (pg_name (i := 3) sc_plain_by_orders.nd rfl (Or.inl rfl)) (pss_cons (ps_set (i := 4) sc_plain_by_orders.nd rfl (Or.inl rfl) (pe_fo G_reduced hr (by decide) (by rfl) (pa_cons (pv 0) (pa_cons (pv 3) (pa_cons (pv 2) pa_nil)))))
    (pss_cons (ps_set (i := 5) sc_plain_by_orders.nd rfl (Or.inl rfl) (pe_fo G_order_of_row hr (by decide) (by rfl) (pa_cons (pv 4) pa_nil)))
    (pss_one (ps_if (pt_cmpR op_notN (pv 5) pe_non (nomark _)) (pss_cons (ps_set (i := 6) sc_plain_by_orders.nd rfl (Or.inr rfl) (pe_disp (pps_cons (pv 5) (pe_fo G_scaled hr (by decide) (by rfl) (pa_cons (pv 0) (pa_cons (pv 4) (pa_cons (pe_ix ix_seq (pe_sl (pv 0)) (pe_ix ix_seq (pv 4) (pv 5) (fun _ _ => rfl)) (fun _ _ => rfl)) pa_nil)))) pps_nil) (by rfl) (by rfl) (fun z => by cases z) (by decide)))
    (pss_one (ps_set (i := 2) sc_plain_by_orders.nd rfl (Or.inl rfl) (pe_merge (pe_unl (pe_dc rfl sc_plain_by_orders.nd (pi_items (pv 2)) (blkOk_by (N := ["field", "rows", "found", "row", "left", "order", "new", "at", "kept"]) (own := [("at", 7), ("kept", 8)]) (sc := defScope s_plain_by_orders) (by decide +kernel)) (g := gTup K 2 (gCons (gName 7) (gCons (gName 8) gNil))) (tt := tYes) (fun _ _ _ _ _ => (pg_tup rfl (pgs_cons (pg_name (i := 7) sc_plain_by_orders.nd rfl (Or.inl rfl)) (pgs_cons (pg_name (i := 8) sc_plain_by_orders.nd rfl (Or.inl rfl)) pgs_nil)))) (fun _ _ _ _ _ => pts_nil) (fun _ _ _ _ _ => (pv 7)) (fun _ _ _ _ _ => (pe_foK (K := K) G_reduced hr (by decide) (by rfl) (pa_cons (pv 0) (pa_cons (pv 8) (pa_cons (pv 6) pa_nil))))))) (pv 6))))) pss_nil)))))
    (pss_one (ps_ret (pv 2))))),
  fun δ F0 (a : (k : Fq) × Nat × Bool × List (List (El k))) ok => by
    obtain ⟨k, n, b, P⟩ := a
    obtain ⟨hl, hn, _⟩ := (show (∀ x, x ∈ P → x.length = n) ∧ n ≤ 60 ∧ P.length ≤ 1000 from ok)
    have okt : ∀ i, OkD n ((P.take i).foldl pbStep ([] : Dw (El k))) := fun i => (pbo_ok (rows := P.take i) fun x hx => hl x (List.mem_of_mem_take hx)).1
    refine sd_seq (sd_asgD (ed_edd edd_new) ?_)
    refine sd_seq (sd_forM (as := P) (e := fun r => .py (rP r)) (wi_any (ed_var rfl)) (fun i ρ1 => ∃ A u v w z, ρ1 = [.fz (fieldD K k), .fz (.py (rsA b P)), .fz (dwD A), u, v, w, z, .no, .no] ∧ (P.take i).foldl pbStep ([] : Dw (El k)) = A) ⟨[], _, _, _, _, rfl, rfl⟩ ?_ ?_)
    · rintro i row ρ1 q ⟨A, u, v, w, z, rfl, hAe⟩
      have hrow : row.length = n := hl row (List.mem_of_getElem? q)
      have hA : OkD n A := hAe ▸ okt i
      have e1 : (P.take (i + 1)).foldl pbStep ([] : Dw (El k)) = pbStep A row := by rw [take_snoc q, List.foldl_append, hAe]; rfl
      have hA1 : OkD n (pbStep A row) := e1 ▸ okt (i + 1)
      have hred := (redA_ok hA hrow).1
      have lA := okd_len hA
      refine sd_seq (sd_asgD (ed_call (C := c_reduced K) ⟨k, n, A, row⟩ (ad_cons (ed_var rfl) (ad_cons (ed_var rfl) (ad_cons (ed_var rfl) ap_nil))) ⟨hA, hrow, hn⟩ fun _ h => h) ?_)
      refine sd_seq (sd_asgD (ed_call (C := c_order_of_row K) ⟨k, redA A row⟩ (ad_cons (ed_var rfl) ap_nil) trivial fun _ h => h) ?_)
      cases qo : ord (redA A row) with
      | none =>
        refine sd_ifD (bd_B (ed_notN (ed_var rfl))) (fun e => ?_) fun _ => sd_nx ⟨_, _, _, _, _, rfl, ?_⟩
        · cases e
        · rw [e1]; unfold pbStep; rw [qo]
      | some o =>
        obtain ⟨o1, o2, o3⟩ := ord_some qo
        have nw_l : (scl (redA A row) (Fl.inv (co (redA A row) o))).length = n := by rw [len_scl, hred]
        have e2 : pbStep A row = A.map (fun p => (p.1, redA [(o, scl (redA A row) (Fl.inv (co (redA A row) o)))] p.2)) ++ [(o, scl (redA A row) (Fl.inv (co (redA A row) o)))] := by unfold pbStep; rw [qo]
        have hnew : OkD n [(o, scl (redA A row) (Fl.inv (co (redA A row) o)))] := one_ok (by omega) nw_l (by rw [co_scl]; exact Fl_inv_mul o2) fun j hj => by
          rw [co_scl]
          show _ * co _ j = 0
          rw [o3 j hj]; grind
        refine sd_ifD (bd_B (ed_notN (ed_var rfl))) (fun e => ?_) fun e => ?_
        · refine sd_seq (sd_asgD (ed_edd (edd_one (k := (o : Int)) (ed_var rfl) (ed_call (C := c_scaled K) ⟨k, redA A row, Fl.inv (co (redA A row) o)⟩ (ad_cons (ed_var rfl) (ad_cons (ed_var rfl) (ad_cons (ed_invAt (ed_fInv T (ed_var rfl)) (ed_rowAt (i := o) (ed_var rfl) (ed_var rfl) (by omega))) ap_nil))) (show (redA A row).length ≤ 1000 by omega) fun _ h => h))) ?_)
          refine sd_asgD (ED.to (d' := dwD (pbStep A row)) (ed_edd (edd_merge (edd_itemsA (α := Nat × List (El k)) (A := A) (ke := fun p => ((p.1 : Nat) : Int)) (va := fun p => rP p.2) (fun p => rP (redA [(o, scl (redA A row) (Fl.inv (co (redA A row) o)))] p.2)) (ed_h rfl) (by omega) (by have z := kvs_nd hA.nd; unfold kvs at z; rw [List.map_map] at z; exact z) (fun p hp => ed_var rfl) fun p hp => ed_call (C := c_reduced K) ⟨k, n, [(o, scl (redA A row) (Fl.inv (co (redA A row) o)))], p.2⟩ (ad_cons (ed_var rfl) (ad_cons (ed_var rfl) (ad_cons (ed_var rfl) ap_nil))) ⟨hnew, hA.len p hp, hn⟩ fun _ h => h) (ed_var rfl) (by rw [List.length_map]; simp; omega) ?_)) ?_) ⟨_, _, _, _, _, rfl, e1⟩
          · have z := kvs_nd hA1.nd
            rw [e2] at z
            unfold kvs at z
            rw [List.map_append, List.map_map] at z
            exact z
          · rw [e2]
            unfold dwD kvs
            rw [List.map_append, List.map_map]; rfl
        · cases e
    · rintro ρ1 ⟨A, u, v, w, z, rfl, hA⟩
      refine sd_retD (ed_var rfl) ?_
      rw [List.take_length] at hA
      rw [← hA]; rfl⟩
def c_plain_of (K : PySem.W.Frag) : Con := { α := (k : Fq) × Nat × Bool × List (List (El k)), ok := fun a => (∀ x, x ∈ a.2.2.2 → x.length = a.2.1) ∧ a.2.1 ≤ 60 ∧ a.2.2.2.length ≤ 1000, args := fun a => [fieldD K a.1, .py (rsA a.2.2.1 a.2.2.2)], R := fun a d => d = .py (rsP (rref a.2.2.2)) }
abbrev s_plain_of : Stmt := tp 56
theorem sc_plain_of : FnScope ["field", "rows", "found", "order"] ["field", "rows"] (defScope s_plain_of) := ⟨rfl, rfl, rfl, by decide +kernel, rfl, by decide +kernel, by decide +kernel⟩
theorem fo_plain_of {f : Addr} {fd : FuncData} (F : FD K "plain_of" s_plain_of f fd) (g : mg "plain_of" = some (.ref f)) (T : Tk K mg) (G_plain_by_orders : FO P w K mg base 4 "plain_by_orders" (c_plain_by_orders K)) : FO P w K mg base 5 "plain_of" (c_plain_of K) :=
  fo_mk F g sc_plain_of (F.bindsN fun _ _ _ _ _ _ us hl => match us, hl with | [_, _], _ => rfl) (fun a _ => by first | rfl | (cases a; rfl)) fun cdv A outer s H E hr => ⟨_,
    (pss_cons (ps_set (i := 2) sc_plain_of.nd rfl (Or.inr rfl) (pe_fo G_plain_by_orders hr (by decide) (by rfl) (pa_cons (pv 0) (pa_cons (pv 1) pa_nil))))
    (pss_one (ps_ret (pe_callTy call_tuple_of (by rfl) T.tuple_ (by decide +kernel) (pa_cons (pe_lc rfl sc_plain_of.nd (pi_list (pe_callB (call_sortedDI rfl) (by rfl) T.sorted_ (by decide +kernel) (pa_cons (pv 2) pa_nil))) (blkOk_by (N := ["field", "rows", "found", "order"]) (own := [("order", 3)]) (sc := defScope s_plain_of) (by decide +kernel)) (g := gName 3) (tt := tYes) (fun _ _ _ _ _ => (pg_name (i := 3) sc_plain_of.nd rfl (Or.inl rfl))) (fun _ _ _ _ _ => pts_nil) (fun _ _ _ _ _ => (pe_dget (hu_of hr) (pv 2) (pv 3) (fun _ _ => rfl)))) pa_nil))))),
  fun δ F0 (a : (k : Fq) × Nat × Bool × List (List (El k))) ok => by
    obtain ⟨k, n, b, P⟩ := a
    obtain ⟨hl, hn, hP⟩ := (show (∀ x, x ∈ P → x.length = n) ∧ n ≤ 60 ∧ P.length ≤ 1000 from ok)
    have hA : OkD n (pbo P) := (pbo_ok hl).1
    have lA := okd_len hA
    refine sd_seq (sd_asgD (ed_call (C := c_plain_by_orders K) ⟨k, n, b, P⟩ (ad_cons (ed_var rfl) (ad_cons (ed_var rfl) ap_nil)) ok fun _ h => h) ?_)
    refine sd_retD (ed_tupRows (rs := rref P) ((en_map (as := sortN (keys (pbo P))) (e := fun (o : Nat) => I (o : Int)) (wi_listM (f := fun (o : Nat) => .int (o : Int)) (ed_en (ed_sortedA rfl (A := pbo P) (ed_var rfl) (by omega)))) (fun o => rP (getA (pbo P) o)) ?_ fun o ho => ed_dwGet (ed_var rfl) (ed_var rfl) (sortN_mem.mp ho)).to ?_)) rfl
    · rw [(sortN_perm _).length_eq]; unfold keys; rw [List.length_map]; omega
    · unfold rref; rw [List.map_map]; rfl⟩
end
end Dl
set_option Elab.async false
set_option linter.all false
set_option maxRecDepth 100000
set_option maxHeartbeats 4000000
namespace Dl
open PySem PySem.Spec PyProof.Rows L2 SlX Rm
section
variable {P : Program} {w : World} {K : PySem.W.Frag} {mg : Str → Option Value} {base : Heap}
def c_across_of (K : PySem.W.Frag) : Con := { α := (k : Fq) × Nat × List (List (El k)), ok := fun a => (∀ x, x ∈ a.2.2 → x.length = a.2.1) ∧ a.2.1 ≤ 60 ∧ a.2.2.length ≤ 60, args := fun a => [fieldD K a.1, I (a.2.1 : Int), .py (rsP a.2.2)], R := fun a d => d = .py (rsP (acr a.2.1 a.2.2)) }
abbrev s_across_of : Stmt := tp 57
theorem sc_across_of : FnScope ["field", "length", "rows", "plain", "found", "free", "ends", "order", "row", "index"] ["field", "length", "rows"] (defScope s_across_of) := ⟨rfl, rfl, rfl, by decide +kernel, rfl, by decide +kernel, by decide +kernel⟩
theorem fo_across_of {f : Addr} {fd : FuncData} (F : FD K "across_of" s_across_of f fd) (g : mg "across_of" = some (.ref f)) (T : Tk K mg) (G_plain_of : FO P w K mg base 5 "plain_of" (c_plain_of K)) (G_plain_by_orders : FO P w K mg base 4 "plain_by_orders" (c_plain_by_orders K)) : FO P w K mg base 6 "across_of" (c_across_of K) :=
  fo_mk F g sc_across_of (F.bindsN fun _ _ _ _ _ _ us hl => match us, hl with | [_, _, _], _ => rfl) (fun a _ => by first | rfl | (cases a; rfl)) fun cdv A outer s H E hr => ⟨_,
    (pss_cons (ps_set (i := 3) sc_across_of.nd rfl (Or.inl rfl) (pe_fo G_plain_by_orders hr (by decide) (by rfl) (pa_cons (pv 0) (pa_cons (pv 2) pa_nil))))
    (pss_cons (ps_set (i := 4) sc_across_of.nd rfl (Or.inl rfl) (pe_lst pa_nil))
    (pss_cons (ps_for PassesOwn.never rfl (pi_range1 (by rfl) T.range_ (pa_cons (pv 1) pa_nil)) (pg_name (i := 5) sc_across_of.nd rfl (Or.inr rfl)) (pss_one (ps_if (pt_cmp (pc_dnotin (hu_of hr) (pv 5) (pv 3))) (pss_cons (ps_set (i := 6) sc_across_of.nd rfl (Or.inr rfl) (pe_unl (pe_dc rfl sc_across_of.nd (pi_items (pv 3)) (blkOk_by (N := ["field", "length", "rows", "plain", "found", "free", "ends", "order", "row", "index"]) (own := [("order", 7), ("row", 8)]) (sc := defScope s_across_of) (by decide +kernel)) (g := gTup K 2 (gCons (gName 7) (gCons (gName 8) gNil))) (tt := tYes) (fun _ _ _ _ _ => (pg_tup rfl (pgs_cons (pg_name (i := 7) sc_across_of.nd rfl (Or.inl rfl)) (pgs_cons (pg_name (i := 8) sc_across_of.nd rfl (Or.inl rfl)) pgs_nil)))) (fun _ _ _ _ _ => pts_nil) (fun _ _ _ _ _ => (pv 7)) (fun _ _ _ _ _ => (pe_ix (ix_seqK (K := K)) (pe_slK (K := K) (pv 0)) (pe_ix (ix_seqK (K := K)) (pv 8) (pv 5) (fun _ _ => rfl)) (fun _ _ => rfl))))))
    (pss_one (ps_expr (pe_bm PySem.F.plainAttrs_list PySem.F.slot_list_append PySem.F.type_list_append mt_append (pv 4) (pa_cons (pe_callTy call_tuple_of (by rfl) T.tuple_ (by decide +kernel) (pa_cons (pe_lc rfl sc_across_of.nd (pi_range1 (by rfl) T.range_ (pa_cons (pv 1) pa_nil)) (blkOk_by (N := ["field", "length", "rows", "plain", "found", "free", "ends", "order", "row", "index"]) (own := [("index", 9)]) (sc := defScope s_across_of) (by decide +kernel)) (g := gName 9) (tt := tYes) (fun _ _ _ _ _ => (pg_name (i := 9) sc_across_of.nd rfl (Or.inl rfl))) (fun _ _ _ _ _ => pts_nil) (fun _ _ _ _ _ => (pe_op op_add (pe_callTy call_int1 (by rfl) T.int_ (by decide +kernel) (pa_cons (pe_cmpR op_eq (pv 9) (pv 5) (nomark _)) pa_nil)) (pe_dget2 (hu_of hr) (pv 6) (pv 9) pe_int ⟨by rfl, by rfl, by rfl, by rfl⟩)))) pa_nil)) pa_nil))))) pss_nil)))
    (pss_one (ps_ret (pe_fo G_plain_of hr (by decide) (by rfl) (pa_cons (pv 0) (pa_cons (pv 4) pa_nil)))))))),
  fun δ F0 (a : (k : Fq) × Nat × List (List (El k))) ok => by
    obtain ⟨k, n, P⟩ := a
    obtain ⟨hl, hn, hP⟩ := (show (∀ x, x ∈ P → x.length = n) ∧ n ≤ 60 ∧ P.length ≤ 60 from ok)
    have hA : OkD n (pbo P) := (pbo_ok hl).1
    have lA := okd_len hA
    have lc : ∀ i, (((List.range i).filter fun f => decide (f ∉ keys (pbo P))).map (crossv n (pbo P))).length ≤ i := fun i => by
      rw [List.length_map]; exact Nat.le_trans (List.length_filter_le _ _) (by rw [List.length_range]; exact Nat.le_refl _)
    refine sd_seq (sd_asgD (ed_call (C := c_plain_by_orders K) ⟨k, n, false, P⟩ (ad_cons (ed_var rfl) (ad_cons (ed_var rfl) ap_nil)) ⟨hl, hn, by show P.length ≤ 1000; omega⟩ fun _ h => h) ?_)
    refine sd_seq (sd_asgNil ?_)
    refine sd_seq (sd_forR (n := n) (ad_cons (ed_var rfl) ap_nil) (by omega) (fun i ρ1 => ∃ X u v, ρ1 = [.fz (fieldD K k), .fz (I (n : Int)), .fz (.py (rsP P)), .fz (dwD (pbo P)), .ow (X.map rP), u, v, .no, .no, .no] ∧ X = ((List.range i).filter fun f => decide (f ∉ keys (pbo P))).map (crossv n (pbo P))) ⟨[], _, _, rfl, rfl⟩ ?_ ?_)
    · rintro i ρ1 hi ⟨X, u, v, rfl, hX⟩
      refine sd_ifD (bd_B (ed_dwNotIn (o := i) (A := pbo P) (ed_var rfl) (ed_var rfl))) (fun e => ?_) fun e => sd_nx ⟨X, _, _, rfl, ?_⟩
      · have hk : i ∉ keys (pbo P) := of_decide_eq_true e
        refine sd_seq (sd_asgD (ed_edd (edd_itemsA (α := Nat × List (El k)) (A := pbo P) (ke := fun p => ((p.1 : Nat) : Int)) (va := fun p => rP p.2) (fun p => inP (-(co p.2 i))) (ed_h rfl) (by omega) (by have z := kvs_nd hA.nd; unfold kvs at z; rw [List.map_map] at z; exact z) (fun p hp => ed_var rfl) fun p hp => ed_negAt (ed_fNeg T (ed_var rfl)) (ed_rowAt (r := p.2) (i := i) (ed_var rfl) (ed_var rfl) (by rw [hA.len p hp]; exact hi)))) ?_)
        refine sd_appM (f := rP) (xs := X) (x := crossv n (pbo P) i) rfl (ed_tupRow (r := crossv n (pbo P) i) ((en_map (as := List.range n) (e := fun (j : Nat) => I (j : Int)) (wi_rngN (ad_cons (ed_var rfl) ap_nil) (by omega)) (fun j => inP (co (crossv n (pbo P) i) j)) (by rw [List.length_range]; omega) fun j hj =>
          (ed_add (ed_intB (ed_eq (ed_var rfl) (ed_var rfl))) ((ed_dget2 (ks := (pbo P).map fun p => (((p.1 : Nat) : Int), inP (-(co p.2 i)))) (ed_var rfl) (ed_var rfl) ed_int).to (d' := I (endI (pbo P) i j)) (by rw [endI_get]))).to (by rw [cross_at (List.mem_range.mp hj) hk])).to ?_)) (by have := lc i; rw [hX]; omega) ⟨_, _, _, rfl, ?_⟩
        · exact range_co (len_crossv i) inP
        · rw [filt_succ, if_pos e, List.map_append, hX]; rfl
      · rw [filt_succ, if_neg (by rw [e]; decide), List.append_nil, hX]
    · rintro ρ1 ⟨X, u, v, rfl, hX⟩
      have lX := lc n
      rw [← hX] at lX
      refine sd_freeze (i := 4) rfl (sd_retD (ed_call (C := c_plain_of K) ⟨k, n, true, X⟩ (ad_cons (ed_var rfl) (ad_cons (ed_var rfl) ap_nil)) ⟨fun x hx => crs_len (A := pbo P) x (hX ▸ hx), hn, by show X.length ≤ 1000; omega⟩ fun _ h => h) ?_)
      rw [hX]; rfl⟩
def c_require_rows (K : PySem.W.Frag) : Con := { α := (k : Fq) × Nat × List (List (El k)), ok := fun a => (∀ x, x ∈ a.2.2 → x.length = a.2.1) ∧ a.2.1 ≤ 60 ∧ a.2.2.length ≤ 60, args := fun a => [fieldD K a.1, I (a.2.1 : Int), .py (rsP a.2.2)], R := fun _ d => d = .py .none }
abbrev s_require_rows : Stmt := tp 58
theorem sc_require_rows : FnScope ["field", "length", "rows"] ["field", "length", "rows"] (defScope s_require_rows) := ⟨rfl, rfl, rfl, by decide +kernel, rfl, by decide +kernel, by decide +kernel⟩
theorem fo_require_rows {f : Addr} {fd : FuncData} (F : FD K "require_rows" s_require_rows f fd) (g : mg "require_rows" = some (.ref f)) (T : Tk K mg) (G_are_rows_of : FO P w K mg base 5 "are_rows_of" (c_are_rows_of K)) (G_require_from : FO P w K mg base 3 "require_from" (c_require_from K)) (G_require_field : FO P w K mg base 1 "require_field" (c_require_field K)) : FO P w K mg base 6 "require_rows" (c_require_rows K) :=
  fo_mk F g sc_require_rows (F.bindsN fun _ _ _ _ _ _ us hl => match us, hl with | [_, _, _], _ => rfl) (fun a _ => by first | rfl | (cases a; rfl)) fun cdv A outer s H E hr => ⟨_,
    (pss_cons (ps_expr (pe_fo G_require_field hr (by decide) (by rfl) (pa_cons (pv 0) pa_nil)))
    (pss_cons (ps_expr (pe_fo G_require_from hr (by decide) (by rfl) (pa_cons (pv 1) (pa_cons pe_int (pa_cons (pe_gd T.MAX_LENGTH (by rfl)) pa_nil)))))
    (pss_one (ps_if (pt_not (pt_val (pe_fo G_are_rows_of hr (by decide) (by rfl) (pa_cons (pv 0) (pa_cons (pv 1) (pa_cons (pv 2) pa_nil)))))) (pss_one ps_never) pss_nil)))),
  fun δ F0 (a : (k : Fq) × Nat × List (List (El k))) ok => by
    obtain ⟨k, n, P⟩ := a
    obtain ⟨hl, hn, hP⟩ := (show (∀ x, x ∈ P → x.length = n) ∧ n ≤ 60 ∧ P.length ≤ 60 from ok)
    refine sd_seq (sd_dropD (ed_call (C := c_require_field K) k (ad_cons (ed_var rfl) ap_nil) trivial fun _ h => h) ?_)
    refine sd_seq (sd_dropD (ed_call (C := c_require_from K) ((n : Int), 0, 60) (ad_cons (ed_var rfl) (ad_cons ed_int (ad_cons (ed_gd T.MAX_LENGTH) ap_nil))) (show -(10 ^ 60) < (n : Int) ∧ (n : Int) < 10 ^ 60 ∧ (0 : Int) ≤ (n : Int) ∧ (n : Int) ≤ 60 from ⟨by omega, by omega, by omega, by omega⟩) fun _ h => h) ?_)
    exact sd_ifD (bd_not (bd_test (ed_call (C := c_are_rows_of K) ⟨k, n, P⟩ (ad_cons (ed_var rfl) (ad_cons (ed_var rfl) (ad_cons (ed_var rfl) ap_nil))) ⟨hl, hP, by show n ≤ 1000; omega⟩ fun _ h => h))) (fun e => by cases e) fun _ => sd_nx rfl⟩
def c_require_row (K : PySem.W.Frag) : Con := { α := (k : Fq) × List (El k), ok := fun a => a.2.length ≤ 60, args := fun a => [fieldD K a.1, .py (rP a.2)], R := fun _ d => d = .py .none }
abbrev s_require_row : Stmt := tp 59
theorem sc_require_row : FnScope ["field", "value"] ["field", "value"] (defScope s_require_row) := ⟨rfl, rfl, rfl, by decide +kernel, rfl, by decide +kernel, by decide +kernel⟩
theorem fo_require_row {f : Addr} {fd : FuncData} (F : FD K "require_row" s_require_row f fd) (g : mg "require_row" = some (.ref f)) (T : Tk K mg) (G_is_row_of : FO P w K mg base 4 "is_row_of" (c_is_row_of K)) (G_require_field : FO P w K mg base 1 "require_field" (c_require_field K)) : FO P w K mg base 5 "require_row" (c_require_row K) :=
  fo_mk F g sc_require_row (F.bindsN fun _ _ _ _ _ _ us hl => match us, hl with | [_, _], _ => rfl) (fun a _ => by first | rfl | (cases a; rfl)) fun cdv A outer s H E hr => ⟨_,
    (pss_cons (ps_expr (pe_fo G_require_field hr (by decide) (by rfl) (pa_cons (pv 0) pa_nil)))
    (pss_one (ps_if (PW.pt (pw_or (pt_not (pt_val (pe_callB (call_isi) (by rfl) T.isinstance_ (by decide +kernel) (pa_cons (pv 1) (pa_cons (pe_ty (n := "tuple") (by rfl) T.tuple_ (by decide +kernel)) pa_nil))))) (pw_or (pt_cmpR op_gt (pe_callB ((call_len_seq)) (by rfl) T.len_ (by decide +kernel) (pa_cons (pv 1) pa_nil)) (pe_gd T.MAX_LENGTH (by rfl)) (nomark _)) (pw_or1 (pt_not (pt_val (pe_fo G_is_row_of hr (by decide) (by rfl) (pa_cons (pv 0) (pa_cons (pe_callB ((call_len_seq)) (by rfl) T.len_ (by decide +kernel) (pa_cons (pv 1) pa_nil)) (pa_cons (pv 1) pa_nil)))))))))) (pss_one ps_never) pss_nil))),
  fun δ F0 (a : (k : Fq) × List (El k)) ok => by
    obtain ⟨k, r⟩ := a
    have hr : r.length ≤ 60 := ok
    refine sd_seq (sd_dropD (ed_call (C := c_require_field K) k (ad_cons (ed_var rfl) ap_nil) trivial fun _ h => h) ?_)
    refine sd_ifD (bd_or (bd_not (bd_test (ed_isiT (b := true) (ed_var rfl) (by decide +kernel)))) fun _ => bd_or (bd_B (ed_gt (ed_lenRow (ed_var rfl)) (ed_gd T.MAX_LENGTH))) fun _ => bd_not (bd_test (ed_call (C := c_is_row_of K) ⟨k, r.length, r⟩ (ad_cons (ed_var rfl) (ad_cons (ed_lenRow (ed_var rfl)) (ad_cons (ed_var rfl) ap_nil))) ⟨rfl, by show r.length ≤ 1000; omega⟩ fun _ h => h))) (fun e => ?_) fun _ => sd_nx rfl
    simp at e; omega⟩
def c_plain_rows (K : PySem.W.Frag) : Con := { α := (k : Fq) × Nat × List (List (El k)), ok := fun a => (∀ x, x ∈ a.2.2 → x.length = a.2.1) ∧ a.2.1 ≤ 60 ∧ a.2.2.length ≤ 60, args := fun a => [fieldD K a.1, I (a.2.1 : Int), .py (rsP a.2.2)], R := fun a d => d = .py (rsP (rref a.2.2)) }
abbrev s_plain_rows : Stmt := tp 60
theorem sc_plain_rows : FnScope ["field", "length", "rows"] ["field", "length", "rows"] (defScope s_plain_rows) := ⟨rfl, rfl, rfl, by decide +kernel, rfl, by decide +kernel, by decide +kernel⟩
theorem fo_plain_rows {f : Addr} {fd : FuncData} (F : FD K "plain_rows" s_plain_rows f fd) (g : mg "plain_rows" = some (.ref f)) (T : Tk K mg) (G_plain_of : FO P w K mg base 5 "plain_of" (c_plain_of K)) (G_require_rows : FO P w K mg base 6 "require_rows" (c_require_rows K)) : FO P w K mg base 7 "plain_rows" (c_plain_rows K) :=
  fo_mk F g sc_plain_rows (F.bindsN fun _ _ _ _ _ _ us hl => match us, hl with | [_, _, _], _ => rfl) (fun a _ => by first | rfl | (cases a; rfl)) fun cdv A outer s H E hr => ⟨_,
    (pss_cons (ps_expr (pe_fo G_require_rows hr (by decide) (by rfl) (pa_cons (pv 0) (pa_cons (pv 1) (pa_cons (pv 2) pa_nil)))))
    (pss_one (ps_ret (pe_fo G_plain_of hr (by decide) (by rfl) (pa_cons (pv 0) (pa_cons (pv 2) pa_nil)))))),
  fun δ F0 (a : (k : Fq) × Nat × List (List (El k))) ok => by
    obtain ⟨k, n, P⟩ := a
    obtain ⟨hl, hn, hP⟩ := (show (∀ x, x ∈ P → x.length = n) ∧ n ≤ 60 ∧ P.length ≤ 60 from ok)
    refine sd_seq (sd_dropD (ed_call (C := c_require_rows K) ⟨k, n, P⟩ (ad_cons (ed_var rfl) (ad_cons (ed_var rfl) (ad_cons (ed_var rfl) ap_nil))) ok fun _ h => h) ?_)
    exact sd_retD (ed_call (C := c_plain_of K) ⟨k, n, false, P⟩ (ad_cons (ed_var rfl) (ad_cons (ed_var rfl) ap_nil)) ⟨hl, hn, by show P.length ≤ 1000; omega⟩ fun _ h => h) rfl⟩
def c_across (K : PySem.W.Frag) : Con := { α := (k : Fq) × Nat × List (List (El k)), ok := fun a => (∀ x, x ∈ a.2.2 → x.length = a.2.1) ∧ a.2.1 ≤ 60 ∧ a.2.2.length ≤ 60, args := fun a => [fieldD K a.1, I (a.2.1 : Int), .py (rsP a.2.2)], R := fun a d => d = .py (rsP (acr a.2.1 a.2.2)) }
abbrev s_across : Stmt := tp 61
theorem sc_across : FnScope ["field", "length", "rows"] ["field", "length", "rows"] (defScope s_across) := ⟨rfl, rfl, rfl, by decide +kernel, rfl, by decide +kernel, by decide +kernel⟩
theorem fo_across {f : Addr} {fd : FuncData} (F : FD K "across" s_across f fd) (g : mg "across" = some (.ref f)) (T : Tk K mg) (G_across_of : FO P w K mg base 6 "across_of" (c_across_of K)) (G_require_rows : FO P w K mg base 6 "require_rows" (c_require_rows K)) : FO P w K mg base 7 "across" (c_across K) :=
  fo_mk F g sc_across (F.bindsN fun _ _ _ _ _ _ us hl => match us, hl with | [_, _, _], _ => rfl) (fun a _ => by first | rfl | (cases a; rfl)) fun cdv A outer s H E hr => ⟨_,
    (pss_cons (ps_expr (pe_fo G_require_rows hr (by decide) (by rfl) (pa_cons (pv 0) (pa_cons (pv 1) (pa_cons (pv 2) pa_nil)))))
    (pss_one (ps_ret (pe_fo G_across_of hr (by decide) (by rfl) (pa_cons (pv 0) (pa_cons (pv 1) (pa_cons (pv 2) pa_nil))))))),
  fun δ F0 (a : (k : Fq) × Nat × List (List (El k))) ok => by
    obtain ⟨k, n, P⟩ := a
    obtain ⟨hl, hn, hP⟩ := (show (∀ x, x ∈ P → x.length = n) ∧ n ≤ 60 ∧ P.length ≤ 60 from ok)
    refine sd_seq (sd_dropD (ed_call (C := c_require_rows K) ⟨k, n, P⟩ (ad_cons (ed_var rfl) (ad_cons (ed_var rfl) (ad_cons (ed_var rfl) ap_nil))) ok fun _ h => h) ?_)
    exact sd_retD (ed_call (C := c_across_of K) ⟨k, n, P⟩ (ad_cons (ed_var rfl) (ad_cons (ed_var rfl) (ad_cons (ed_var rfl) ap_nil))) ok fun _ h => h) rfl⟩
def c_product_of_rows (K : PySem.W.Frag) : Con := { α := (k : Fq) × Nat × List (El k) × List (El k), ok := fun a => a.2.2.1.length = a.2.1 ∧ a.2.2.2.length = a.2.1 ∧ a.2.1 ≤ 60, args := fun a => [fieldD K a.1, .py (rP a.2.2.1), .py (rP a.2.2.2)], R := fun a d => d = .py (rP (prodP a.2.2.1 a.2.2.2)) }
abbrev s_product_of_rows : Stmt := tp 63
theorem sc_product_of_rows : FnScope ["field", "one", "other", "found", "index", "element"] ["field", "one", "other"] (defScope s_product_of_rows) := ⟨rfl, rfl, rfl, by decide +kernel, rfl, by decide +kernel, by decide +kernel⟩
theorem fo_product_of_rows {f : Addr} {fd : FuncData} (F : FD K "product_of_rows" s_product_of_rows f fd) (g : mg "product_of_rows" = some (.ref f)) (T : Tk K mg) (G_added_times : FO P w K mg base 1 "added_times" (c_added_times K)) : FO P w K mg base 2 "product_of_rows" (c_product_of_rows K) :=
  fo_mk F g sc_product_of_rows (F.bindsN fun _ _ _ _ _ _ us hl => match us, hl with | [_, _, _], _ => rfl) (fun a _ => by first | rfl | (cases a; rfl)) fun cdv A outer s H E hr => ⟨_,
    (pss_cons (ps_set (i := 3) sc_product_of_rows.nd rfl (Or.inl rfl) (pe_callTy call_tuple_of (by rfl) T.tuple_ (by decide +kernel) (pa_cons (pe_lc rfl sc_product_of_rows.nd (pi_tup (pv 1)) (blkOk_by (N := ["field", "one", "other", "found", "index", "element"]) (own := [("element", 5)]) (sc := defScope s_product_of_rows) (by decide +kernel)) (g := gName 5) (tt := tYes) (fun _ _ _ _ _ => (pg_name (i := 5) sc_product_of_rows.nd rfl (Or.inl rfl))) (fun _ _ _ _ _ => pts_nil) (fun _ _ _ _ _ => pe_int)) pa_nil)))
    (pss_cons (ps_for PassesOwn.never rfl (pi_enumT (by rfl) T.enumerate_ (pa_cons (pv 1) pa_nil)) (pg_tup rfl (pgs_cons (pg_name (i := 4) sc_product_of_rows.nd rfl (Or.inl rfl)) (pgs_cons (pg_name (i := 5) sc_product_of_rows.nd rfl (Or.inl rfl)) pgs_nil))) (pss_one (ps_if (pt_cmpR op_ne (pv 5) pe_int (nomark _)) (pss_one (ps_set (i := 3) sc_product_of_rows.nd rfl (Or.inl rfl) (pe_fo G_added_times hr (by decide) (by rfl) (pa_cons (pv 0) (pa_cons (pv 3) (pa_cons (pe_op op_catA (pe_op op_repA (pe_tup (pa_cons pe_int pa_nil)) (pv 4)) (pe_slice sl_tupA (pv 2) po_none (po_some (pe_op op_sub (pe_callB ((call_len_seq)) (by rfl) T.len_ (by decide +kernel) (pa_cons (pv 1) pa_nil)) (pv 4))))) (pa_cons (pv 5) pa_nil))))))) pss_nil)))
    (pss_one (ps_ret (pv 3))))),
  fun δ F0 (a : (k : Fq) × Nat × List (El k) × List (El k)) ok => by
    obtain ⟨k, n, x, y⟩ := a
    obtain ⟨hx, hy, hn⟩ := (show x.length = n ∧ y.length = n ∧ n ≤ 60 from ok)
    refine sd_seq (sd_asgD (ed_tupRow (r := (zr n : List (El k))) ((en_map (as := x) (wi_row (ed_var rfl)) (fun _ => .int 0) (by omega) fun _ _ => ed_int).to ?_)) ?_)
    · unfold zr
      rw [List.map_const', List.map_replicate, hx]
      show _ = List.replicate n (PyData.int (inI 0))
      rw [inI_0]
    refine sd_seq (sd_forE (as := x) (f := inP) (wi_enumRow (ed_var rfl)) (fun i ρ1 => ∃ X u v, ρ1 = [.fz (fieldD K k), .fz (.py (rP x)), .fz (.py (rP y)), .fz (.py (rP X)), u, v] ∧ X = (List.range i).foldl (prodS x y) (zr n)) ⟨_, _, _, rfl, rfl⟩ ?_ ?_)
    · rintro i e ρ1 q ⟨X, u, v, rfl, hX⟩
      have ex : co x i = e := co_q q
      have hi : i < n := by rw [← hx]; exact (List.getElem?_eq_some_iff.mp q).1
      have lX : X.length = n := hX ▸ (prodP_go hx hy i (by omega)).1
      have e1 : (List.range (i + 1)).foldl (prodS x y) (zr n) = if co x i ≠ 0 then addT X (zr i ++ y.take (y.length - i)) (co x i) else X := by
        rw [List.range_succ, List.foldl_append, ← hX, ← prodS_eq (by omega)]; rfl
      refine sd_ifD (bd_B (ed_ne (ed_var rfl) ed_int)) (fun h => ?_) fun h => sd_nx ⟨_, _, _, rfl, ?_⟩
      · have nz : co x i ≠ 0 := fun z => by rw [ex] at z; simp [z, inI_0] at h
        refine sd_asgD (ed_call (C := c_added_times K) ⟨k, X, zr i ++ y.take (y.length - i), e⟩ (ad_cons (ed_var rfl) (ad_cons (ed_var rfl) (ad_cons (ed_catRow (ed_zeros (ed_var rfl) (by omega)) ((ed_slRow (r := y) (ed_var rfl) od_none (od_some (ed_sub (ed_lenRow (ed_var rfl)) (ed_var rfl)))).to (by rw [cutP_0 (n := y.length - i) _ (by omega)])) (by unfold zr; simp; omega)) (ad_cons (ed_var rfl) ap_nil)))) (show X.length ≤ 1000 by omega) fun _ h => h) ⟨_, _, _, rfl, ?_⟩
        rw [e1, if_pos nz, ex]
      · have zz : co x i = 0 := by rw [ex]; exact inI_zero.mp (by simpa using h)
        rw [e1, if_neg (fun h => h zz)]
    · rintro ρ1 ⟨X, u, v, rfl, hX⟩
      refine sd_retD (ed_var rfl) ?_
      show D.py (rP X) = D.py (rP (prodP x y))
      unfold prodP
      rw [hX, hx]⟩
def c_row_product (K : PySem.W.Frag) : Con := { α := (k : Fq) × Nat × List (El k) × List (El k), ok := fun a => a.2.2.1.length = a.2.1 ∧ a.2.2.2.length = a.2.1 ∧ a.2.1 ≤ 60, args := fun a => [fieldD K a.1, .py (rP a.2.2.1), .py (rP a.2.2.2)], R := fun a d => d = .py (rP (prodP a.2.2.1 a.2.2.2)) }
abbrev s_row_product : Stmt := tp 64
theorem sc_row_product : FnScope ["field", "one", "other"] ["field", "one", "other"] (defScope s_row_product) := ⟨rfl, rfl, rfl, by decide +kernel, rfl, by decide +kernel, by decide +kernel⟩
theorem fo_row_product {f : Addr} {fd : FuncData} (F : FD K "row_product" s_row_product f fd) (g : mg "row_product" = some (.ref f)) (T : Tk K mg) (G_product_of_rows : FO P w K mg base 2 "product_of_rows" (c_product_of_rows K)) (G_is_row_of : FO P w K mg base 4 "is_row_of" (c_is_row_of K)) (G_require_row : FO P w K mg base 5 "require_row" (c_require_row K)) : FO P w K mg base 6 "row_product" (c_row_product K) :=
  fo_mk F g sc_row_product (F.bindsN fun _ _ _ _ _ _ us hl => match us, hl with | [_, _, _], _ => rfl) (fun a _ => by first | rfl | (cases a; rfl)) fun cdv A outer s H E hr => ⟨_,
    (pss_cons (ps_expr (pe_fo G_require_row hr (by decide) (by rfl) (pa_cons (pv 0) (pa_cons (pv 1) pa_nil))))
    (pss_cons (ps_if (pt_not (pt_val (pe_fo G_is_row_of hr (by decide) (by rfl) (pa_cons (pv 0) (pa_cons (pe_callB ((call_len_seq)) (by rfl) T.len_ (by decide +kernel) (pa_cons (pv 1) pa_nil)) (pa_cons (pv 2) pa_nil)))))) (pss_one ps_never) pss_nil)
    (pss_one (ps_ret (pe_fo G_product_of_rows hr (by decide) (by rfl) (pa_cons (pv 0) (pa_cons (pv 1) (pa_cons (pv 2) pa_nil)))))))),
  fun δ F0 (a : (k : Fq) × Nat × List (El k) × List (El k)) ok => by
    obtain ⟨k, n, x, y⟩ := a
    obtain ⟨hx, hy, hn⟩ := (show x.length = n ∧ y.length = n ∧ n ≤ 60 from ok)
    refine sd_seq (sd_dropD (ed_call (C := c_require_row K) ⟨k, x⟩ (ad_cons (ed_var rfl) (ad_cons (ed_var rfl) ap_nil)) (by show x.length ≤ 60; omega) fun _ h => h) ?_)
    refine sd_seq (sd_ifD (bd_not (bd_test (ed_call (C := c_is_row_of K) ⟨k, x.length, y⟩ (ad_cons (ed_var rfl) (ad_cons (ed_lenRow (ed_var rfl)) (ad_cons (ed_var rfl) ap_nil))) (show y.length = x.length ∧ x.length ≤ 1000 from ⟨by omega, by omega⟩) fun _ h => h))) (fun e => by cases e) fun _ => sd_nx ?_)
    exact sd_retD (ed_call (C := c_product_of_rows K) ⟨k, n, x, y⟩ (ad_cons (ed_var rfl) (ad_cons (ed_var rfl) (ad_cons (ed_var rfl) ap_nil))) ok fun _ h => h) rfl⟩
def c_moved_row (K : PySem.W.Frag) : Con := { α := (k : Fq) × List (El k) × Nat, ok := fun a => a.2.1.length ≤ 60, args := fun a => [.py (rP a.2.1), I (a.2.2 : Int)], R := fun a d => d = .py (rP (mvR a.2.1 a.2.2)) }
abbrev s_moved_row : Stmt := tp 65
theorem sc_moved_row : FnScope ["row", "many", "length", "away"] ["row", "many"] (defScope s_moved_row) := ⟨rfl, rfl, rfl, by decide +kernel, rfl, by decide +kernel, by decide +kernel⟩
theorem fo_moved_row {f : Addr} {fd : FuncData} (F : FD K "moved_row" s_moved_row f fd) (g : mg "moved_row" = some (.ref f)) (T : Tk K mg) : FO P w K mg base 1 "moved_row" (c_moved_row K) :=
  fo_mk F g sc_moved_row (F.bindsN fun _ _ _ _ _ _ us hl => match us, hl with | [_, _], _ => rfl) (fun a _ => by first | rfl | (cases a; rfl)) fun cdv A outer s H E hr => ⟨_,
    (pss_cons (ps_set (i := 2) sc_moved_row.nd rfl (Or.inl rfl) (pe_callB ((call_len_seq)) (by rfl) T.len_ (by decide +kernel) (pa_cons (pv 0) pa_nil)))
    (pss_cons (ps_if (pt_cmpR op_ge (pv 1) pe_int (nomark _)) (pss_cons (ps_set (i := 3) sc_moved_row.nd rfl (Or.inl rfl) (pe_callB (call_min2 rfl) (by rfl) T.min_ (by decide +kernel) (pa_cons (pv 1) (pa_cons (pv 2) pa_nil))))
    (pss_one (ps_ret (pe_op op_catA (pe_op op_repA (pe_tup (pa_cons pe_int pa_nil)) (pv 3)) (pe_slice sl_tupA (pv 0) po_none (po_some (pe_op op_sub (pv 2) (pv 3)))))))) pss_nil)
    (pss_cons (ps_set (i := 3) sc_moved_row.nd rfl (Or.inl rfl) (pe_callB (call_min2 rfl) (by rfl) T.min_ (by decide +kernel) (pa_cons (pe_un un_neg (pv 1)) (pa_cons (pv 2) pa_nil))))
    (pss_one (ps_ret (pe_op op_catA (pe_slice sl_tupA (pv 0) (po_some (pv 3)) po_none) (pe_op op_repA (pe_tup (pa_cons pe_int pa_nil)) (pv 3)))))))),
  fun δ F0 (a : (k : Fq) × List (El k) × Nat) ok => by
    obtain ⟨k, r, m⟩ := a
    have hr : r.length ≤ 60 := ok
    refine sd_seq (sd_asgD (d := I (r.length : Int)) (ed_lenRow (ed_var rfl)) ?_)
    refine sd_seq (sd_ifD (bd_B (ed_ge (ed_var rfl) ed_int)) (fun _ => ?_) fun e => ?_)
    · refine sd_seq (sd_asgD ((ed_min2 (ed_var rfl) (ed_var rfl)).to (d' := I ((min m r.length : Nat) : Int)) (by rw [min_eq])) ?_)
      refine sd_retD (ed_catRow (x := zr (min m r.length)) (y := r.take (r.length - min m r.length)) (ed_zeros (ed_var rfl) (by omega)) ((ed_slRow (r := r) (ed_var rfl) od_none (od_some (ed_sub (ed_var rfl) (ed_var rfl)))).to (by rw [cutP_0 (n := r.length - min m r.length) _ (by omega)])) (by unfold zr; simp; omega)) ?_
      show D.py (rP _) = D.py (rP _)
      unfold mvR zr; rfl
    · have := of_decide_eq_false e
      omega⟩
def c_row_moved (K : PySem.W.Frag) : Con := { α := (k : Fq) × List (El k) × Nat, ok := fun a => a.2.1.length ≤ 60 ∧ a.2.2 ≤ 60, args := fun a => [fieldD K a.1, .py (rP a.2.1), I (a.2.2 : Int)], R := fun a d => d = .py (rP (mvR a.2.1 a.2.2)) }
abbrev s_row_moved : Stmt := tp 66
theorem sc_row_moved : FnScope ["field", "one", "many"] ["field", "one", "many"] (defScope s_row_moved) := ⟨rfl, rfl, rfl, by decide +kernel, rfl, by decide +kernel, by decide +kernel⟩
theorem fo_row_moved {f : Addr} {fd : FuncData} (F : FD K "row_moved" s_row_moved f fd) (g : mg "row_moved" = some (.ref f)) (T : Tk K mg) (G_moved_row : FO P w K mg base 1 "moved_row" (c_moved_row K)) (G_require_integer : FO P w K mg base 2 "require_integer" (c_require_integer K)) (G_require_row : FO P w K mg base 5 "require_row" (c_require_row K)) : FO P w K mg base 6 "row_moved" (c_row_moved K) :=
  fo_mk F g sc_row_moved (F.bindsN fun _ _ _ _ _ _ us hl => match us, hl with | [_, _, _], _ => rfl) (fun a _ => by first | rfl | (cases a; rfl)) fun cdv A outer s H E hr => ⟨_,
    (pss_cons (ps_expr (pe_fo G_require_row hr (by decide) (by rfl) (pa_cons (pv 0) (pa_cons (pv 1) pa_nil))))
    (pss_cons (ps_expr (pe_fo G_require_integer hr (by decide) (by rfl) (pa_cons (pv 2) pa_nil)))
    (pss_one (ps_ret (pe_fo G_moved_row hr (by decide) (by rfl) (pa_cons (pv 1) (pa_cons (pv 2) pa_nil))))))),
  fun δ F0 (a : (k : Fq) × List (El k) × Nat) ok => by
    obtain ⟨k, r, m⟩ := a
    obtain ⟨hr, hm⟩ := (show r.length ≤ 60 ∧ m ≤ 60 from ok)
    refine sd_seq (sd_dropD (ed_call (C := c_require_row K) ⟨k, r⟩ (ad_cons (ed_var rfl) (ad_cons (ed_var rfl) ap_nil)) hr fun _ h => h) ?_)
    refine sd_seq (sd_dropD (ed_call (C := c_require_integer K) (m : Int) (ad_cons (ed_var rfl) ap_nil) (show -(10 ^ 60) < (m : Int) ∧ (m : Int) < 10 ^ 60 from ⟨by omega, by omega⟩) fun _ h => h) ?_)
    exact sd_retD (ed_call (C := c_moved_row K) ⟨k, r, m⟩ (ad_cons (ed_var rfl) (ad_cons (ed_var rfl) ap_nil)) hr fun _ h => h) rfl⟩
end
end Dl
set_option Elab.async false
set_option linter.all false
set_option maxRecDepth 100000
set_option maxHeartbeats 4000000
namespace Dl
open PySem PySem.Spec PyProof.Rows L2 SlX Rm
section
variable {P : Program} {w : World} {K : PySem.W.Frag} {mg : Str → Option Value} {base : Heap}
def c_width_of (K : PySem.W.Frag) : Con := { α := Nat × Nat, ok := fun a => SlOk a.1 a.2, args := fun a => [slopeD K a.1 a.2], R := fun a d => d = I ((wdt a.1 a.2 : Nat) : Int) }
abbrev s_width_of : Stmt := tp 71
theorem sc_width_of : FnScope ["slope", "width"] ["slope"] (defScope s_width_of) := ⟨rfl, rfl, rfl, by decide +kernel, rfl, by decide +kernel, by decide +kernel⟩
theorem fo_width_of {f : Addr} {fd : FuncData} (F : FD K "width_of" s_width_of f fd) (g : mg "width_of" = some (.ref f)) (T : Tk K mg) (G_Slope_rises : PO P w K mg base 1 "Slope" "rises" (c_Slope_rises K)) (G_Slope_steps : PO P w K mg base 1 "Slope" "steps" (c_Slope_steps K)) (G_require_coprime : FO P w K mg base 1 "require_coprime" (c_require_coprime K)) : FO P w K mg base 3 "width_of" (c_width_of K) :=
  fo_mk F g sc_width_of (F.bindsN fun _ _ _ _ _ _ us hl => match us, hl with | [_], _ => rfl) (fun a _ => by first | rfl | (cases a; rfl)) fun cdv A outer s H E hr => ⟨_,
    (pss_cons (ps_expr (pe_fo G_require_coprime hr (by decide) (by rfl) (pa_cons (pv 0) pa_nil)))
    (pss_cons (ps_set (i := 1) sc_width_of.nd rfl (Or.inl rfl) (pe_op op_mul (pe_op op_sub (pe_po G_Slope_rises T.cSlope hr (by decide) (pv 0)) pe_int) (pe_op op_sub (pe_po G_Slope_steps T.cSlope hr (by decide) (pv 0)) pe_int)))
    (pss_cons (ps_if (pt_cmpR op_gt (pv 1) (pe_gd T.MAX_WIDTH (by rfl)) (nomark _)) (pss_one ps_never) pss_nil)
    (pss_one (ps_ret (pv 1)))))),
  fun δ F0 (a : Nat × Nat) ok => by
    obtain ⟨r, s⟩ := a
    have h : SlOk r s := ok
    have hw := h.w
    refine sd_seq (sd_dropD (ed_call (C := c_require_coprime K) (r, s) (ad_cons (ed_var rfl) ap_nil) h.cop fun _ h => h) ?_)
    refine sd_seq (sd_asgD (ED.to (d' := I ((wdt r s : Nat) : Int)) (ed_mul (ed_sub (ed_prop (C := c_Slope_rises K) (r, s) (ed_var rfl) rfl trivial fun _ h => h) ed_int) (ed_sub (ed_prop (C := c_Slope_steps K) (r, s) (ed_var rfl) rfl trivial fun _ h => h) ed_int) (cmul_l (by have := h.r1; have := h.r2; show -1000000000000000000 < (r : Int) - 1; omega) (by have := h.r2; show (r : Int) - 1 < 1000000000000000000; omega))) (by rw [← wdt_int h.r1 h.s1])) ?_)
    refine sd_seq (sd_ifD (bd_B (ed_gt (ed_var rfl) (ed_gd T.MAX_WIDTH))) (fun e => ?_) fun _ => sd_nx (sd_retD (ed_var rfl) rfl))
    have := of_decide_eq_true e
    simp only [wdt] at this
    omega⟩
def c_order_of (K : PySem.W.Frag) : Con := { α := (k : Fq) × List (El k), ok := fun _ => True, args := fun a => [.py (rP a.2)], R := fun a d => d = I ((ordL a.2 : Nat) : Int) }
abbrev s_order_of : Stmt := tp 72
theorem sc_order_of : FnScope ["row", "at", "element"] ["row"] (defScope s_order_of) := ⟨rfl, rfl, rfl, by decide +kernel, rfl, by decide +kernel, by decide +kernel⟩
theorem fo_order_of {f : Addr} {fd : FuncData} (F : FD K "order_of" s_order_of f fd) (g : mg "order_of" = some (.ref f)) (T : Tk K mg) : FO P w K mg base 1 "order_of" (c_order_of K) :=
  fo_mk F g sc_order_of (F.bindsN fun _ _ _ _ _ _ us hl => match us, hl with | [_], _ => rfl) (fun a _ => by first | rfl | (cases a; rfl)) fun cdv A outer s H E hr => ⟨_,
    (pss_cons (ps_for PassesOwn.never rfl (pi_enumT (by rfl) T.enumerate_ (pa_cons (pv 0) pa_nil)) (pg_tup rfl (pgs_cons (pg_name (i := 1) sc_order_of.nd rfl (Or.inl rfl)) (pgs_cons (pg_name (i := 2) sc_order_of.nd rfl (Or.inl rfl)) pgs_nil))) (pss_one (ps_if (pt_cmpR op_ne (pv 2) pe_int (nomark _)) (pss_one (ps_ret (pv 1))) pss_nil)))
    (pss_one (ps_ret (pe_callB ((call_len_seq)) (by rfl) T.len_ (by decide +kernel) (pa_cons (pv 0) pa_nil))))),
  fun δ F0 (a : (k : Fq) × List (El k)) _ => by
    obtain ⟨k, r⟩ := a
    refine sd_seq (sd_forE (as := r) (f := inP) (wi_enumRow (ed_var rfl)) (fun i ρ1 => (∃ u v, ρ1 = [.fz (.py (rP r)), u, v]) ∧ ∀ j, j < i → co r j = 0) ⟨⟨_, _, rfl⟩, fun j h => absurd h (Nat.not_lt_zero _)⟩ ?_ ?_)
    · rintro i x ρ1 q ⟨⟨u, v, rfl⟩, hz⟩
      have ex : co r i = x := co_q q
      refine sd_ifD (bd_B (ed_ne (ed_var rfl) ed_int)) (fun e => ?_) fun e => sd_nx ⟨⟨_, _, rfl⟩, fun j hj => ?_⟩
      · have nz : x ≠ 0 := fun h => by simp [h, inI_0] at e
        exact sd_retD (ed_var rfl) (by show I (i : Int) = I ((ordL r : Nat) : Int); unfold ordL; rw [ord_of (by rw [ex]; exact nz) hz]; rfl)
      · have xz : x = 0 := inI_zero.mp (by simpa using e)
        rcases Nat.lt_or_ge j i with h | h
        · exact hz j h
        · have e2 : j = i := by omega
          rw [e2, ex, xz]
    · rintro ρ1 ⟨⟨u, v, rfl⟩, hz⟩
      refine sd_retD (ed_lenRow (ed_var rfl)) ?_
      show I (r.length : Int) = I ((ordL r : Nat) : Int)
      unfold ordL
      rw [ord_none_iff.mpr (funext fun j => (Nat.lt_or_ge j r.length).elim (hz j) co_ge)]; rfl⟩
def c_moved_rows (K : PySem.W.Frag) : Con := { α := (k : Fq) × List (List (El k)) × Nat, ok := fun a => (∀ x, x ∈ a.2.1 → x.length ≤ 60) ∧ a.2.2 ≤ 60 ∧ a.2.1.length ≤ 1000, args := fun a => [fieldD K a.1, .py (rsP a.2.1), I (a.2.2 : Int)], R := fun a d => d = .py (rsP (a.2.1.map fun r => mvR r a.2.2)) }
abbrev s_moved_rows : Stmt := tp 73
theorem sc_moved_rows : FnScope ["field", "rows", "many", "row"] ["field", "rows", "many"] (defScope s_moved_rows) := ⟨rfl, rfl, rfl, by decide +kernel, rfl, by decide +kernel, by decide +kernel⟩
theorem fo_moved_rows {f : Addr} {fd : FuncData} (F : FD K "moved_rows" s_moved_rows f fd) (g : mg "moved_rows" = some (.ref f)) (T : Tk K mg) (G_row_moved : FO P w K mg base 6 "row_moved" (c_row_moved K)) : FO P w K mg base 7 "moved_rows" (c_moved_rows K) :=
  fo_mk F g sc_moved_rows (F.bindsN fun _ _ _ _ _ _ us hl => match us, hl with | [_, _, _], _ => rfl) (fun a _ => by first | rfl | (cases a; rfl)) fun cdv A outer s H E hr => ⟨_,
    (pss_one (ps_ret (pe_callTy call_tuple_of (by rfl) T.tuple_ (by decide +kernel) (pa_cons (pe_lc rfl sc_moved_rows.nd (pi_tup (pv 1)) (blkOk_by (N := ["field", "rows", "many", "row"]) (own := [("row", 3)]) (sc := defScope s_moved_rows) (by decide +kernel)) (g := gName 3) (tt := tYes) (fun _ _ _ _ _ => (pg_name (i := 3) sc_moved_rows.nd rfl (Or.inl rfl))) (fun _ _ _ _ _ => pts_nil) (fun _ _ _ _ _ => (pe_foK (K := K) G_row_moved hr (by decide) (by rfl) (pa_cons (pv 0) (pa_cons (pv 3) (pa_cons (pv 2) pa_nil)))))) pa_nil)))),
  fun δ F0 (a : (k : Fq) × List (List (El k)) × Nat) ok => by
    obtain ⟨k, P, m⟩ := a
    obtain ⟨hl, hm, hP⟩ := (show (∀ x, x ∈ P → x.length ≤ 60) ∧ m ≤ 60 ∧ P.length ≤ 1000 from ok)
    refine sd_retD (ed_tupRows (rs := P.map fun r => mvR r m) ((en_map (as := P) (wi_rows (ed_var rfl)) (fun r => rP (mvR r m)) (by omega) fun x hx => ed_call (C := c_row_moved K) ⟨k, x, m⟩ (ad_cons (ed_var rfl) (ad_cons (ed_var rfl) (ad_cons (ed_var rfl) ap_nil))) ⟨hl x hx, hm⟩ fun _ h => h).to (by rw [List.map_map]; rfl))) rfl⟩
def c_is_closed (K : PySem.W.Frag) : Con := { α := (k : Fq) × Nat × Nat × List (List (El k)), ok := fun a => SlOk a.2.1 a.2.2.1 ∧ Rom (wdt a.2.1 a.2.2.1) a.2.1 a.2.2.1 a.2.2.2, args := fun a => [fieldD K a.1, slopeD K a.2.1 a.2.2.1, .py (rsP a.2.2.2)], R := fun _ d => d = Bo true }
abbrev s_is_closed : Stmt := tp 74
theorem sc_is_closed : FnScope ["field", "slope", "basis", "width", "many"] ["field", "slope", "basis"] (defScope s_is_closed) := ⟨rfl, rfl, rfl, by decide +kernel, rfl, by decide +kernel, by decide +kernel⟩
theorem fo_is_closed {f : Addr} {fd : FuncData} (F : FD K "is_closed" s_is_closed f fd) (g : mg "is_closed" = some (.ref f)) (T : Tk K mg) (G_Slope_steps : PO P w K mg base 1 "Slope" "steps" (c_Slope_steps K)) (G_Slope_rises : PO P w K mg base 1 "Slope" "rises" (c_Slope_rises K)) (G_plain_rows : FO P w K mg base 7 "plain_rows" (c_plain_rows K)) (G_moved_rows : FO P w K mg base 7 "moved_rows" (c_moved_rows K)) (G_width_of : FO P w K mg base 3 "width_of" (c_width_of K)) : FO P w K mg base 8 "is_closed" (c_is_closed K) :=
  fo_mk F g sc_is_closed (F.bindsN fun _ _ _ _ _ _ us hl => match us, hl with | [_, _, _], _ => rfl) (fun a _ => by first | rfl | (cases a; rfl)) fun cdv A outer s H E hr => ⟨_,
    (pss_cons (ps_set (i := 3) sc_is_closed.nd rfl (Or.inl rfl) (pe_fo G_width_of hr (by decide) (by rfl) (pa_cons (pv 1) pa_nil)))
    (pss_cons (ps_for PassesOwn.never rfl (pi_tup (pe_tup (pa_cons (pe_po G_Slope_rises T.cSlope hr (by decide) (pv 1)) (pa_cons (pe_po G_Slope_steps T.cSlope hr (by decide) (pv 1)) pa_nil)))) (pg_name (i := 4) sc_is_closed.nd rfl (Or.inl rfl)) (pss_one (ps_if (pt_cmpR (op_neD hr.units) (pe_fo G_plain_rows hr (by decide) (by rfl) (pa_cons (pv 0) (pa_cons (pv 3) (pa_cons (pe_op op_catA (pv 2) (pe_fo G_moved_rows hr (by decide) (by rfl) (pa_cons (pv 0) (pa_cons (pv 2) (pa_cons (pv 4) pa_nil))))) pa_nil)))) (pv 2) (nomark _)) (pss_one (ps_ret pe_bl)) pss_nil)))
    (pss_one (ps_ret pe_bl)))),
  fun δ F0 (a : (k : Fq) × Nat × Nat × List (List (El k))) ok => by
    obtain ⟨k, r, s, P⟩ := a
    obtain ⟨h, hR⟩ := (show SlOk r s ∧ Rom (wdt r s) r s P from ok)
    have hw : wdt r s ≤ 24 := h.w
    have r2 := h.r2
    have s2 := h.s2
    have hl := hR.rl.len
    have lP := hR.rl.le
    refine sd_seq (sd_asgD (ed_call (C := c_width_of K) (r, s) (ad_cons (ed_var rfl) ap_nil) h fun _ h => h) ?_)
    refine sd_seq (sd_forM (as := [r, s]) (e := fun (m : Nat) => I (m : Int)) (wi_tupM (as := [r, s]) (f := fun (m : Nat) => .int (m : Int)) (ed_tup (ds := [.int (r : Int), .int (s : Int)]) (ad_cons (ed_prop (C := c_Slope_rises K) (r, s) (ed_var rfl) rfl trivial fun _ h => h) (ad_cons (ed_prop (C := c_Slope_steps K) (r, s) (ed_var rfl) rfl trivial fun _ h => h) ap_nil)) (by decide : 2 ≤ 100000))) (fun i ρ1 => ∃ u, ρ1 = [.fz (fieldD K k), .fz (slopeD K r s), .fz (.py (rsP P)), .fz (I ((wdt r s : Nat) : Int)), u]) ⟨_, rfl⟩ ?_ ?_)
    · rintro i m ρ1 q ⟨u, rfl⟩
      have hm : m = r ∨ m = s := by have := List.mem_of_getElem? q; simpa using this
      have cm : Cl (wdt r s) m P := hm.elim (fun e => by rw [e]; exact hR.c1) (fun e => by rw [e]; exact hR.c2)
      have e1 : rref (P ++ P.map fun x => mvR x m) = P := of_decide_eq_true ((clsd_iff hR.rl).mpr cm)
      refine sd_ifD (bd_test (ed_neRs (ed_call (C := c_plain_rows K) ⟨k, wdt r s, P ++ P.map fun x => mvR x m⟩ (ad_cons (ed_var rfl) (ad_cons (ed_var rfl) (ad_cons (ed_catRs (ed_var rfl) (ed_call (C := c_moved_rows K) ⟨k, P, m⟩ (ad_cons (ed_var rfl) (ad_cons (ed_var rfl) (ad_cons (ed_var rfl) ap_nil))) (show (∀ x, x ∈ P → x.length ≤ 60) ∧ m ≤ 60 ∧ P.length ≤ 1000 from ⟨fun x hx => by rw [hl x hx]; omega, by omega, by omega⟩) fun _ h => h) (by simp; omega)) ap_nil))) (show (∀ x, x ∈ (P ++ P.map fun x => mvR x m) → x.length = wdt r s) ∧ wdt r s ≤ 60 ∧ (P ++ P.map fun x => mvR x m).length ≤ 60 from ⟨app_len hl fun x hx => by rw [len_mvR]; exact hx, by omega, by simp; omega⟩) fun _ h => h) (ed_var rfl))) (fun e => ?_) fun _ => sd_nx ⟨_, rfl⟩
      have e2 : (!decide (rref (P ++ P.map fun x => mvR x m) = P)) = true := e
      rw [e1] at e2; simp at e2
    · rintro ρ1 ⟨u, rfl⟩
      exact sd_retD ed_bl rfl⟩
def c_is_room_basis (K : PySem.W.Frag) : Con := { α := (k : Fq) × Nat × Nat × List (List (El k)), ok := fun a => SlOk a.2.1 a.2.2.1 ∧ Rom (wdt a.2.1 a.2.2.1) a.2.1 a.2.2.1 a.2.2.2, args := fun a => [fieldD K a.1, slopeD K a.2.1 a.2.2.1, .py (rsP a.2.2.2)], R := fun _ d => d = Bo true }
abbrev s_is_room_basis : Stmt := tp 75
theorem sc_is_room_basis : FnScope ["field", "slope", "basis"] ["field", "slope", "basis"] (defScope s_is_room_basis) := ⟨rfl, rfl, rfl, by decide +kernel, rfl, by decide +kernel, by decide +kernel⟩
theorem fo_is_room_basis {f : Addr} {fd : FuncData} (F : FD K "is_room_basis" s_is_room_basis f fd) (g : mg "is_room_basis" = some (.ref f)) (T : Tk K mg) (G_is_closed : FO P w K mg base 8 "is_closed" (c_is_closed K)) (G_width_of : FO P w K mg base 3 "width_of" (c_width_of K)) : FO P w K mg base 9 "is_room_basis" (c_is_room_basis K) :=
  fo_mk F g sc_is_room_basis (F.bindsN fun _ _ _ _ _ _ us hl => match us, hl with | [_, _, _], _ => rfl) (fun a _ => by first | rfl | (cases a; rfl)) fun cdv A outer s H E hr => ⟨_,
    (pss_cons (ps_if (PW.pt (pw_and (pt_cmpR op_gt (pe_fo G_width_of hr (by decide) (by rfl) (pa_cons (pv 1) pa_nil)) pe_int (nomark _)) (pw_and1 (PW.pt (pw_or (pt_cmpR (op_eqD hr.units) (pv 2) (pe_tup pa_nil) (nomark _)) (pw_or1 (pt_cmpR op_eq (pe_ix ix_seq (pe_ix ix_seq (pv 2) pe_int (fun _ _ => rfl)) pe_int (fun _ _ => rfl)) pe_int (nomark _)))))))) (pss_one (ps_ret pe_bl)) pss_nil)
    (pss_one (ps_ret (pe_fo G_is_closed hr (by decide) (by rfl) (pa_cons (pv 0) (pa_cons (pv 1) (pa_cons (pv 2) pa_nil))))))),
  fun δ F0 (a : (k : Fq) × Nat × Nat × List (List (El k))) ok => by
    obtain ⟨k, r, s, P⟩ := a
    obtain ⟨h, hR⟩ := (show SlOk r s ∧ Rom (wdt r s) r s P from ok)
    have hw : wdt r s ≤ 24 := h.w
    have r2 := h.r2
    have s2 := h.s2
    have hl := hR.rl.len
    have lP := hR.rl.le
    have key : ∀ b : Bool, (b = true → False) → b = false := fun b h => by cases b <;> simp_all
    refine sd_seq (sd_ifD (b := false) ?_ (fun e => by cases e) fun _ => sd_nx ?_)
    · by_cases h0 : 0 < wdt r s
      · obtain ⟨g, t, e, g0⟩ := lead_row (hR.l0 h0)
        subst e
        have ng : inI (co g 0) ≠ 0 := fun z => g0 (inI_zero.mp z)
        refine BD.to (bd_and (bd_B (ed_gt (ed_call (C := c_width_of K) (r, s) (ad_cons (ed_var rfl) ap_nil) h fun _ h => h) ed_int)) fun _ => bd_or (bd_test (ed_eqRs (qs := ([] : List (List (El k)))) (ed_var rfl) (ed_tup (ds := []) ap_nil (by decide)))) fun _ => bd_B (ed_eq (ed_rowAt (i := 0) (ed_rsAt (i := 0) (ed_var rfl) ed_int rfl) ed_int (by rw [hl g List.mem_cons_self]; exact h0)) ed_int)) ?_
        simp [ng]
      · refine BD.to (bd_and (b := false) (bd_B (ed_gt (ed_call (C := c_width_of K) (r, s) (ad_cons (ed_var rfl) ap_nil) h fun _ h => h) ed_int)) fun e => ?_) (by simp)
        have := of_decide_eq_true e
        simp only [wdt] at this h0
        omega
    · exact sd_retD (ed_call (C := c_is_closed K) ⟨k, r, s, P⟩ (ad_cons (ed_var rfl) (ad_cons (ed_var rfl) (ad_cons (ed_var rfl) ap_nil))) ok fun _ h => h) rfl⟩
def c_are_room_rows (K : PySem.W.Frag) : Con := { α := (k : Fq) × Nat × Nat × List (List (El k)), ok := fun a => SlOk a.2.1 a.2.2.1 ∧ (∀ x, x ∈ a.2.2.2 → x.length = wdt a.2.1 a.2.2.1) ∧ a.2.2.2.length ≤ 60 ∧ Rom (wdt a.2.1 a.2.2.1) a.2.1 a.2.2.1 (rref a.2.2.2), args := fun a => [fieldD K a.1, slopeD K a.2.1 a.2.2.1, .py (rsP a.2.2.2)], R := fun _ d => d = Bo true }
abbrev s_are_room_rows : Stmt := tp 76
theorem sc_are_room_rows : FnScope ["field", "slope", "value", "width"] ["field", "slope", "value"] (defScope s_are_room_rows) := ⟨rfl, rfl, rfl, by decide +kernel, rfl, by decide +kernel, by decide +kernel⟩
theorem fo_are_room_rows {f : Addr} {fd : FuncData} (F : FD K "are_room_rows" s_are_room_rows f fd) (g : mg "are_room_rows" = some (.ref f)) (T : Tk K mg) (G_is_room_basis : FO P w K mg base 9 "is_room_basis" (c_is_room_basis K)) (G_plain_rows : FO P w K mg base 7 "plain_rows" (c_plain_rows K)) (G_are_rows_of : FO P w K mg base 5 "are_rows_of" (c_are_rows_of K)) (G_width_of : FO P w K mg base 3 "width_of" (c_width_of K)) : FO P w K mg base 10 "are_room_rows" (c_are_room_rows K) :=
  fo_mk F g sc_are_room_rows (F.bindsN fun _ _ _ _ _ _ us hl => match us, hl with | [_, _, _], _ => rfl) (fun a _ => by first | rfl | (cases a; rfl)) fun cdv A outer s H E hr => ⟨_,
    (pss_cons (ps_set (i := 3) sc_are_room_rows.nd rfl (Or.inl rfl) (pe_fo G_width_of hr (by decide) (by rfl) (pa_cons (pv 1) pa_nil)))
    (pss_one (ps_ret (pe_and (pe_fo G_are_rows_of hr (by decide) (by rfl) (pa_cons (pv 0) (pa_cons (pv 3) (pa_cons (pv 2) pa_nil)))) (pe_one (pe_fo G_is_room_basis hr (by decide) (by rfl) (pa_cons (pv 0) (pa_cons (pv 1) (pa_cons (pe_fo G_plain_rows hr (by decide) (by rfl) (pa_cons (pv 0) (pa_cons (pv 3) (pa_cons (pv 2) pa_nil)))) pa_nil))))))))),
  fun δ F0 (a : (k : Fq) × Nat × Nat × List (List (El k))) ok => by
    obtain ⟨k, r, s, P⟩ := a
    obtain ⟨h, hl, hP, hR⟩ := (show SlOk r s ∧ (∀ x, x ∈ P → x.length = wdt r s) ∧ P.length ≤ 60 ∧ Rom (wdt r s) r s (rref P) from ok)
    have hw : wdt r s ≤ 24 := h.w
    refine sd_seq (sd_asgD (ed_call (C := c_width_of K) (r, s) (ad_cons (ed_var rfl) ap_nil) h fun _ h => h) ?_)
    exact sd_retD (ed_andV (ed_call (C := c_are_rows_of K) ⟨k, wdt r s, P⟩ (ad_cons (ed_var rfl) (ad_cons (ed_var rfl) (ad_cons (ed_var rfl) ap_nil))) (show (∀ x, x ∈ P → x.length = wdt r s) ∧ P.length ≤ 60 ∧ wdt r s ≤ 1000 from ⟨hl, hP, by omega⟩) fun _ h => h) fun _ => ed_call (C := c_is_room_basis K) ⟨k, r, s, rref P⟩ (ad_cons (ed_var rfl) (ad_cons (ed_var rfl) (ad_cons (ed_call (C := c_plain_rows K) ⟨k, wdt r s, P⟩ (ad_cons (ed_var rfl) (ad_cons (ed_var rfl) (ad_cons (ed_var rfl) ap_nil))) (show (∀ x, x ∈ P → x.length = wdt r s) ∧ wdt r s ≤ 60 ∧ P.length ≤ 60 from ⟨hl, by omega, hP⟩) fun _ h => h) ap_nil))) ⟨h, hR⟩ fun _ h => h) rfl⟩
def c_require_place (K : PySem.W.Frag) : Con := { α := Fq × Nat × Nat, ok := fun a => SlOk a.2.1 a.2.2, args := fun a => [fieldD K a.1, slopeD K a.2.1 a.2.2], R := fun _ d => d = .py .none }
abbrev s_require_place : Stmt := tp 77
theorem sc_require_place : FnScope ["field", "slope"] ["field", "slope"] (defScope s_require_place) := ⟨rfl, rfl, rfl, by decide +kernel, rfl, by decide +kernel, by decide +kernel⟩
theorem fo_require_place {f : Addr} {fd : FuncData} (F : FD K "require_place" s_require_place f fd) (g : mg "require_place" = some (.ref f)) (T : Tk K mg) (G_width_of : FO P w K mg base 3 "width_of" (c_width_of K)) (G_require_slope : FO P w K mg base 1 "require_slope" (c_require_slope K)) (G_require_field : FO P w K mg base 1 "require_field" (c_require_field K)) : FO P w K mg base 4 "require_place" (c_require_place K) :=
  fo_mk F g sc_require_place (F.bindsN fun _ _ _ _ _ _ us hl => match us, hl with | [_, _], _ => rfl) (fun a _ => by first | rfl | (cases a; rfl)) fun cdv A outer s H E hr => ⟨_,
    (pss_cons (ps_expr (pe_fo G_require_field hr (by decide) (by rfl) (pa_cons (pv 0) pa_nil)))
    (pss_cons (ps_expr (pe_fo G_require_slope hr (by decide) (by rfl) (pa_cons (pv 1) pa_nil)))
    (pss_one (ps_expr (pe_fo G_width_of hr (by decide) (by rfl) (pa_cons (pv 1) pa_nil)))))),
  fun δ F0 (a : Fq × Nat × Nat) ok => by
    obtain ⟨k, r, s⟩ := a
    refine sd_seq (sd_dropD (ed_call (C := c_require_field K) k (ad_cons (ed_var rfl) ap_nil) trivial fun _ h => h) ?_)
    refine sd_seq (sd_dropD (ed_call (C := c_require_slope K) (r, s) (ad_cons (ed_var rfl) ap_nil) trivial fun _ h => h) ?_)
    exact sd_dropD (ed_call (C := c_width_of K) (r, s) (ad_cons (ed_var rfl) ap_nil) ok fun _ h => h) rfl⟩
end
end Dl
set_option Elab.async false
set_option linter.all false
set_option maxRecDepth 100000
set_option maxHeartbeats 4000000
namespace Dl
open PySem PySem.Spec PyProof.Rows L2 SlX Rm
section
variable {P : Program} {w : World} {K : PySem.W.Frag} {mg : Str → Option Value} {base : Heap}
def c_are_integers (K : PySem.W.Frag) : Con := { α := List Int, ok := fun ns => (∀ n, n ∈ ns → -(10 ^ 60) < n ∧ n < 10 ^ 60) ∧ ns.length ≤ 1000, args := fun ns => [.py (.tuple (ns.map .int))], R := fun _ d => d = Bo true }
abbrev s_are_integers : Stmt := tp 18
theorem sc_are_integers : FnScope ["value", "one"] ["value"] (defScope s_are_integers) := ⟨rfl, rfl, rfl, by decide +kernel, rfl, by decide +kernel, by decide +kernel⟩
theorem fo_are_integers {f : Addr} {fd : FuncData} (F : FD K "are_integers" s_are_integers f fd) (g : mg "are_integers" = some (.ref f)) (T : Tk K mg) (G_is_integer : FO P w K mg base 1 "is_integer" (c_is_integer K)) : FO P w K mg base 2 "are_integers" (c_are_integers K) :=
  fo_mk F g sc_are_integers (F.bindsN fun _ _ _ _ _ _ us hl => match us, hl with | [_], _ => rfl) (fun a _ => by first | rfl | (cases a; rfl)) fun cdv A outer s H E hr => ⟨_,
    (pss_one (ps_ret (pe_and (pe_callB (call_isi) (by rfl) T.isinstance_ (by decide +kernel) (pa_cons (pv 0) (pa_cons (pe_ty (n := "tuple") (by rfl) T.tuple_ (by decide +kernel)) pa_nil))) (pe_one (pe_callB ((cr_all rfl)) (by rfl) T.all_ (by decide +kernel) (pa_cons (pe_lc rfl sc_are_integers.nd (pi_tup (pv 0)) (blkOk_by (N := ["value", "one"]) (own := [("one", 1)]) (sc := defScope s_are_integers) (by decide +kernel)) (g := gName 1) (tt := tYes) (fun _ _ _ _ _ => (pg_name (i := 1) sc_are_integers.nd rfl (Or.inl rfl))) (fun _ _ _ _ _ => pts_nil) (fun _ _ _ _ _ => (pe_foK (K := K) G_is_integer hr (by decide) (by rfl) (pa_cons (pv 1) pa_nil)))) pa_nil)))))),
  fun δ F0 (ns : List Int) ok => by
    obtain ⟨h1, h2⟩ := (show (∀ n, n ∈ ns → -(10 ^ 60) < n ∧ n < 10 ^ 60) ∧ ns.length ≤ 1000 from ok)
    refine sd_retD (ed_andV (ed_isiT (b := true) (ed_var rfl) (by decide +kernel)) fun _ => ed_allM (as := ns) (g := fun _ => true) (en_map (as := ns) (e := fun n => I n) (wi_tupM (f := .int) (ed_var rfl)) _ (by omega) fun n hn => ed_call (C := c_is_integer K) n (ad_cons (ed_var rfl) ap_nil) (h1 n hn) fun _ h => h)) ?_
    show D.py _ = D.py _
    simp⟩
def c_are_ascending (K : PySem.W.Frag) : Con := { α := List Int, ok := fun ns => ns.Pairwise (· < ·) ∧ ns.length ≤ 1000, args := fun ns => [.py (.tuple (ns.map .int))], R := fun _ d => d = Bo true }
abbrev s_are_ascending : Stmt := tp 19
theorem sc_are_ascending : FnScope ["items", "one", "other"] ["items"] (defScope s_are_ascending) := ⟨rfl, rfl, rfl, by decide +kernel, rfl, by decide +kernel, by decide +kernel⟩
theorem fo_are_ascending {f : Addr} {fd : FuncData} (F : FD K "are_ascending" s_are_ascending f fd) (g : mg "are_ascending" = some (.ref f)) (T : Tk K mg) : FO P w K mg base 1 "are_ascending" (c_are_ascending K) :=
  fo_mk F g sc_are_ascending (F.bindsN fun _ _ _ _ _ _ us hl => match us, hl with | [_], _ => rfl) (fun a _ => by first | rfl | (cases a; rfl)) fun cdv A outer s H E hr => ⟨_,
    (pss_one (ps_ret (pe_callB ((cr_all rfl)) (by rfl) T.all_ (by decide +kernel) (pa_cons (pe_lc rfl sc_are_ascending.nd (RZ.pi_zipA (by rfl) T.zip_ (pa_cons (pv 0) (pa_cons (pe_slice sl_tupA (pv 0) (po_some pe_int) po_none) pa_nil))) (blkOk_by (N := ["items", "one", "other"]) (own := [("one", 1), ("other", 2)]) (sc := defScope s_are_ascending) (by decide +kernel)) (g := gTup K 2 (gCons (gName 1) (gCons (gName 2) gNil))) (tt := tYes) (fun _ _ _ _ _ => (pg_tup rfl (pgs_cons (pg_name (i := 1) sc_are_ascending.nd rfl (Or.inl rfl)) (pgs_cons (pg_name (i := 2) sc_are_ascending.nd rfl (Or.inl rfl)) pgs_nil)))) (fun _ _ _ _ _ => pts_nil) (fun _ _ _ _ _ => (pe_cmpR op_lt (pv 1) (pv 2) (nomark _)))) pa_nil)))),
  fun δ F0 (ns : List Int) ok => by
    obtain ⟨h1, h2⟩ := (show ns.Pairwise (· < ·) ∧ ns.length ≤ 1000 from ok)
    refine sd_retD (ed_allM (as := ns.zip (ns.drop 1)) (g := fun p => decide (p.1 < p.2)) (en_zip (as := ns) (bs := ns.drop 1) (ea := .int) (eb := .int) (wi_zipT (ed_var rfl) ((ed_slT (ed_var rfl) (od_some (i := 1) ed_int) od_none).to (by rw [cutP_map, show (1 : Int) = ((1 : Nat) : Int) from rfl, cutP_drop]))) (fun a b => .bool (decide (a < b))) (by omega) fun a b _ => ed_lt (ed_var rfl) (ed_var rfl))) ?_
    show D.py (.bool _) = D.py (.bool true)
    rw [List.all_eq_true.mpr fun p hp => decide_eq_true (asc_zip h1 p hp)]⟩
def c_are_gaps (K : PySem.W.Frag) : Con := { α := Nat × Nat × List Nat, ok := fun a => GpOk a.1 a.2.1 a.2.2, args := fun a => [slopeD K a.1 a.2.1, .py (.tuple ((natI a.2.2).map .int))], R := fun _ d => d = Bo true }
abbrev s_are_gaps : Stmt := tp 26
theorem sc_are_gaps : FnScope ["slope", "value", "gap", "known", "sides", "side"] ["slope", "value"] (defScope s_are_gaps) := ⟨rfl, rfl, rfl, by decide +kernel, rfl, by decide +kernel, by decide +kernel⟩
theorem fo_are_gaps {f : Addr} {fd : FuncData} (F : FD K "are_gaps" s_are_gaps f fd) (g : mg "are_gaps" = some (.ref f)) (T : Tk K mg) (G_are_ascending : FO P w K mg base 1 "are_ascending" (c_are_ascending K)) (G_are_integers : FO P w K mg base 2 "are_integers" (c_are_integers K)) : FO P w K mg base 3 "are_gaps" (c_are_gaps K) :=
  fo_mk F g sc_are_gaps (F.bindsN fun _ _ _ _ _ _ us hl => match us, hl with | [_, _], _ => rfl) (fun a _ => by first | rfl | (cases a; rfl)) fun cdv A outer s H E hr => ⟨_,
    (pss_cons (ps_if (PW.pt (pw_or (pt_not (pt_val (pe_fo G_are_integers hr (by decide) (by rfl) (pa_cons (pv 1) pa_nil)))) (pw_or1 (pt_not (pt_val (pe_fo G_are_ascending hr (by decide) (by rfl) (pa_cons (pv 1) pa_nil))))))) (pss_one (ps_ret pe_bl)) pss_nil)
    (pss_cons (ps_asg (pe_tup (pa_cons (pe_dc rfl sc_are_gaps.nd (pi_tup (pv 1)) (blkOk_by (N := ["slope", "value", "gap", "known", "sides", "side"]) (own := [("gap", 2)]) (sc := defScope s_are_gaps) (by decide +kernel)) (g := gName 2) (tt := tYes) (fun _ _ _ _ _ => (pg_name (i := 2) sc_are_gaps.nd rfl (Or.inl rfl))) (fun _ _ _ _ _ => pts_nil) (fun _ _ _ _ _ => (pv 2)) (fun _ _ _ _ _ => pe_bl)) (pa_cons (pe_tup (pa_cons (pe_sl (pv 0)) (pa_cons (pe_sl (pv 0)) pa_nil))) pa_nil))) (pg_tup rfl (pgs_cons (pg_name (i := 3) sc_are_gaps.nd rfl (Or.inr rfl)) (pgs_cons (pg_name (i := 4) sc_are_gaps.nd rfl (Or.inl rfl)) pgs_nil))))
    (pss_cons (ps_for PassesOwn.never rfl (pi_tup (pv 1)) (pg_name (i := 2) sc_are_gaps.nd rfl (Or.inr rfl)) (pss_one (ps_if (PW.pt (pw_or (pt_cmpR op_lt (pv 2) pe_int (nomark _)) (pw_or (pt_cmpR op_in_seq (pv 2) (pv 4) rfl) (pw_or1 (pt_not (pt_val (pe_callB ((cr_all rfl)) (by rfl) T.all_ (by decide +kernel) (pa_cons (pe_lc rfl sc_are_gaps.nd (pi_tup (pv 4)) (blkOk_by (N := ["slope", "value", "gap", "known", "sides", "side"]) (own := [("side", 5)]) (sc := defScope s_are_gaps) (by decide +kernel)) (g := gName 5) (tt := tYes) (fun _ _ _ _ _ => (pg_name (i := 5) sc_are_gaps.nd rfl (Or.inl rfl))) (fun _ _ _ _ _ => pts_nil) (fun _ _ _ _ _ => (pe_or (pe_cmpR op_lt (pv 2) (pv 5) (nomark _)) (pe_one (pe_cmp (pc_din (hu_of hr) (pe_op op_sub (pv 2) (pv 5)) (pv 3))))))) pa_nil)))))))) (pss_one (ps_ret pe_bl)) pss_nil)))
    (pss_one (ps_ret pe_bl))))),
  fun δ F0 (a : Nat × Nat × List Nat) ok => by
    obtain ⟨r, s, gs⟩ := a
    have h : GpOk r s gs := ok
    have hlen : (natI gs).length ≤ 1000 := by unfold natI; rw [List.length_map]; exact h.len
    refine sd_seq (sd_ifD (bd_or (bd_not (bd_test (ed_call (C := c_are_integers K) (natI gs) (ad_cons (ed_var rfl) ap_nil) (show (∀ n, n ∈ natI gs → -(10 ^ 60) < n ∧ n < 10 ^ 60) ∧ (natI gs).length ≤ 1000 from ⟨fun n hn => by
      obtain ⟨g, hg, e⟩ := List.mem_map.mp hn
      have := h.le g hg
      omega, hlen⟩) fun _ h => h))) fun _ => bd_not (bd_test (ed_call (C := c_are_ascending K) (natI gs) (ad_cons (ed_var rfl) ap_nil) ⟨natI_asc h.asc, hlen⟩ fun _ h => h))) (fun e => by cases e) fun _ => sd_nx ?_)
    refine sd_seq (sd_tupD (y := .py (.tuple [.int (r : Int), .int (s : Int)])) (ed_edd (edd_dcI (ns := natI gs) (v := .bool true) (wi_tupM (as := natI gs) (f := .int) (ed_var rfl)) (nd_cast (asc_nd h.asc)) (by omega) (fun n _ => ed_var rfl) fun n _ => ed_bl)) (ed_tup (ds := [.int (r : Int), .int (s : Int)]) (ad_cons (ed_at (ed_var rfl) T.cSlope T.slope_rises rfl) (ad_cons (ed_at (ed_var rfl) T.cSlope T.slope_steps rfl) ap_nil)) (by decide : 2 ≤ 100000)) ?_)
    refine sd_seq (sd_forM (as := gs) (e := fun (g : Nat) => I (g : Int)) (wi_tupM (as := gs) (f := fun (g : Nat) => .int (g : Int)) ((ed_var rfl).to (by unfold natI; rw [List.map_map]; rfl))) (fun i ρ1 => ∃ u v, ρ1 = [.fz (slopeD K r s), .fz (.py (.tuple ((natI gs).map .int))), u, .fz (.dic ((natI gs).map fun n => (n, .bool true))), .fz (.py (.tuple [.int (r : Int), .int (s : Int)])), v]) ⟨_, _, rfl⟩ ?_ ?_)
    · rintro i g ρ1 q ⟨u, v, rfl⟩
      obtain ⟨g1, g2, g3, g4⟩ := h.ok g (List.mem_of_getElem? q)
      refine sd_ifD (b := false) (BD.to (bd_or (bd_B (ed_lt (ed_var rfl) ed_int)) fun _ => bd_or (bd_test (ed_inTI (ns := [(r : Int), (s : Int)]) (ed_var rfl) (ed_var rfl))) fun _ => bd_not (bd_test (ed_allM (as := [r, s]) (g := fun m => decide ((g : Int) < (m : Int)) || decide ((g : Int) - (m : Int) ∈ natI gs)) (en_map (as := [r, s]) (e := fun (m : Nat) => I (m : Int)) (wi_tupM (as := [r, s]) (f := fun (m : Nat) => .int (m : Int)) (ed_var rfl)) _ (by decide : 2 ≤ 100000) fun m _ => ed_orV (ed_lt (ed_var rfl) (ed_var rfl)) fun _ => (ed_din (ed_sub (ed_var rfl) (ed_var rfl)) (ed_var rfl)).to (by rw [lk_true]))))) ?_) (fun e => by cases e) fun _ => sd_nx ⟨_, _, rfl⟩
      have e1 : decide ((g : Int) < 1) = false := decide_eq_false (by omega)
      have e2 : decide ((g : Int) ∈ [(r : Int), (s : Int)]) = false := decide_eq_false (by simp; omega)
      have key : ∀ m, (g < m ∨ g - m ∈ gs) → (decide ((g : Int) < (m : Int)) || decide ((g : Int) - (m : Int) ∈ natI gs)) = true := fun m hm => by
        by_cases hlt : g < m
        · rw [decide_eq_true (Int.ofNat_lt.mpr hlt)]; rfl
        · have hin := hm.resolve_left hlt
          have z : (g : Int) - (m : Int) = ((g - m : Nat) : Int) := by omega
          rw [z, decide_eq_true (mem_natI.mpr hin), Bool.or_true]
      rw [e1, e2]
      show (!(_ && (_ && true))) = false
      dsimp only
      rw [key r g3, key s g4]; rfl
    · rintro ρ1 ⟨u, v, rfl⟩
      exact sd_retD ed_bl rfl⟩
def c_least_by (K : PySem.W.Frag) : Con := { α := List Nat × Nat, ok := fun a => 1 ≤ a.2 ∧ a.2 ≤ 60 ∧ a.1.length ≤ 1000, args := fun a => [.py (.tuple ((natI a.1).map .int)), I (a.2 : Int)], R := fun a d => d = .py (.tuple ((leastL a.1 a.2).map .int)) }
abbrev s_least_by : Stmt := tp 27
theorem sc_least_by : FnScope ["gaps", "side", "found", "gap", "rest"] ["gaps", "side"] (defScope s_least_by) := ⟨rfl, rfl, rfl, by decide +kernel, rfl, by decide +kernel, by decide +kernel⟩
theorem fo_least_by {f : Addr} {fd : FuncData} (F : FD K "least_by" s_least_by f fd) (g : mg "least_by" = some (.ref f)) (T : Tk K mg) : FO P w K mg base 1 "least_by" (c_least_by K) :=
  fo_mk F g sc_least_by (F.bindsN fun _ _ _ _ _ _ us hl => match us, hl with | [_, _], _ => rfl) (fun a _ => by first | rfl | (cases a; rfl)) fun cdv A outer s H E hr => ⟨_,
    (pss_cons (ps_setLc (i := 2) rfl sc_least_by.nd rfl rfl (sw_true rfl rfl rfl (by decide +kernel)) (pi_range1 (by rfl) T.range_ (pa_cons (pv 1) pa_nil)) (blkOk_by (N := ["gaps", "side", "found", "gap", "rest"]) (own := [("rest", 4)]) (sc := defScope s_least_by) (by decide +kernel)) (g := gName 4) (tt := tYes) (fun _ _ _ _ _ => (pg_name (i := 4) sc_least_by.nd rfl (Or.inl rfl))) (fun _ _ _ _ _ => pts_nil) (fun _ _ _ _ _ => (pv 4)))
    (pss_cons (ps_for PassesOwn.never rfl (pi_tup (pv 0)) (pg_name (i := 3) sc_least_by.nd rfl (Or.inl rfl)) (pss_one (ps_asg (pe_op op_add (pe_ix ix_seq (pv 2) (pe_op op_mod (pv 3) (pv 1)) (fun _ _ => rfl)) (pv 1)) (pg_sub (pv 2) (pe_op op_mod (pv 3) (pv 1)) set_list))))
    (pss_one (ps_ret (pe_callTy call_tuple_of (by rfl) T.tuple_ (by decide +kernel) (pa_cons (pv 2) pa_nil)))))),
  fun δ F0 (a : List Nat × Nat) ok => by
    obtain ⟨gs, m⟩ := a
    obtain ⟨h1, h2, h3⟩ := (show 1 ≤ m ∧ m ≤ 60 ∧ gs.length ≤ 1000 from ok)
    refine sd_seq (sd_asgEN (xs := (natI (List.range m)).map .int) ((en_map (as := List.range m) (e := fun (j : Nat) => I (j : Int)) (wi_rngN (ad_cons (ed_var rfl) ap_nil) (by omega)) (fun (j : Nat) => .int (j : Int)) (by rw [List.length_range]; omega) fun _ _ => ed_var rfl).to (by unfold natI; rw [List.map_map]; rfl)) ?_)
    refine sd_seq (sd_forM (as := gs) (e := fun (g : Nat) => I (g : Int)) (wi_tupM (as := gs) (f := fun (g : Nat) => .int (g : Int)) ((ed_var rfl).to (by unfold natI; rw [List.map_map]; rfl))) (fun i ρ1 => ∃ X u, ρ1 = [.fz (.py (.tuple ((natI gs).map .int))), .fz (I (m : Int)), .ow (X.map .int), u, .no] ∧ X = (gs.take i).foldl (lbS m) (natI (List.range m))) ⟨_, _, rfl, rfl⟩ ?_ ?_)
    · rintro i g ρ1 q ⟨X, u, rfl, hX⟩
      have hl : X.length = m := by rw [hX, lb_len]; unfold natI; simp
      have hm : g % m < m := Nat.mod_lt _ (by omega)
      have em : (g : Int) % (m : Int) = ((g % m : Nat) : Int) := (Int.natCast_emod _ _).symm
      refine sd_setM (j := g % m) (z := X.getD (g % m) 0 + (m : Int)) rfl (ed_add (ed_ixLI (l := X) (i := g % m) (el_own rfl) ((ed_mod (ed_var rfl) (ed_var rfl) (by omega)).to (by rw [em])) (by rw [List.getD_eq_getElem?_getD, List.getElem?_eq_getElem (by omega)]; rfl)) (ed_var rfl)) (ed_mod (ed_var rfl) (ed_var rfl) (by omega)) em (by omega) ⟨_, _, rfl, ?_⟩
      rw [take_snoc q, List.foldl_append, ← hX]; rfl
    · rintro ρ1 ⟨X, u, rfl, hX⟩
      refine sd_retD (ed_tupL (el_own rfl)) ?_
      rw [List.take_length] at hX
      rw [hX]; rfl⟩
def c_Shelf___init__ (K : PySem.W.Frag) : Con := { α := Nat × Nat × List Nat, ok := fun a => SlOk a.1 a.2.1 ∧ GpOk a.1 a.2.1 a.2.2, args := fun a => [slopeD K a.1 a.2.1, .py (.tuple ((natI a.2.2).map .int))], R := fun a d => d = shelfD K a.1 a.2.1 (natI a.2.2) (leastL a.2.2 a.1) }
abbrev s_Shelf___init__ : Stmt := L2.inClass (tp 29) 1
theorem sc_Shelf___init__ : FnScope ["self", "slope", "gaps"] ["self", "slope", "gaps"] (defScope s_Shelf___init__) := ⟨rfl, rfl, rfl, by decide +kernel, rfl, by decide +kernel, by decide +kernel⟩
theorem fo_Shelf___init__ {f : Addr} {fd : FuncData} {dvs : List V} (M : Mk K (He.ga K "Shelf") f) (F : FunD K "__init__" "Shelf.__init__" (defArgs s_Shelf___init__) (defBody s_Shelf___init__) (defScope s_Shelf___init__) dvs [] f fd) (b : L2.Binds K fd ["self", "slope", "gaps"] []) (T : Tk K mg) (G_least_by : FO P w K mg base 1 "least_by" (c_least_by K)) (G_are_gaps : FO P w K mg base 3 "are_gaps" (c_are_gaps K)) (G_require_coprime : FO P w K mg base 1 "require_coprime" (c_require_coprime K)) (G_require_slope : FO P w K mg base 1 "require_slope" (c_require_slope K)) : CO P w K mg base 4 "Shelf" (c_Shelf___init__ K) :=
  co_mk (n := 3) M T.cShelf.mg_ F sc_Shelf___init__ b (fun a _ => by first | rfl | (cases a; rfl)) fun cdv A outer s H E hr => ⟨_,
    (pss_cons (ps_expr (pe_fo G_require_slope hr (by decide) (by rfl) (pa_cons (pv 1) pa_nil)))
    (pss_cons (ps_expr (pe_fo G_require_coprime hr (by decide) (by rfl) (pa_cons (pv 1) pa_nil)))
    (pss_cons (ps_if (pt_not (pt_val (pe_fo G_are_gaps hr (by decide) (by rfl) (pa_cons (pv 1) (pa_cons (pv 2) pa_nil))))) (pss_one ps_never) pss_nil)
    (pss_cons (ps_sl (pv 0) (pv 1))
    (pss_cons (ps_sl (pv 0) (pv 2))
    (pss_one (ps_sl (pv 0) (pe_fo G_least_by hr (by decide) (by rfl) (pa_cons (pv 2) (pa_cons (pe_sl (pv 1)) pa_nil)))))))))),
  fun δ F0 H0 o a ok => by
    obtain ⟨r, s, gs⟩ := a
    obtain ⟨h, hg⟩ := (show SlOk r s ∧ GpOk r s gs from ok)
    refine sd_seq (sd_dropD (ed_call (C := c_require_slope K) (r, s) (ad_cons (ed_var rfl) ap_nil) trivial fun _ h => h) ?_)
    refine sd_seq (sd_dropD (ed_call (C := c_require_coprime K) (r, s) (ad_cons (ed_var rfl) ap_nil) h.cop fun _ h => h) ?_)
    refine sd_seq (sd_ifD (bd_not (bd_test (ed_call (C := c_are_gaps K) (r, s, gs) (ad_cons (ed_var rfl) (ad_cons (ed_var rfl) ap_nil)) hg fun _ h => h))) (fun e => by cases e) fun _ => sd_nx ?_)
    refine sd_seq (sd_at (ed_var rfl) rfl T.cShelf T.shelf_slope (by simp) ?_)
    refine sd_seq (sd_at (ed_var rfl) rfl T.cShelf T.shelf_gaps (by simp) ?_)
    exact sd_at (ed_call (C := c_least_by K) (gs, r) (ad_cons (ed_var rfl) (ad_cons (ed_at (ed_var rfl) T.cSlope T.slope_rises rfl) ap_nil)) ⟨h.r1, h.r2, hg.len⟩ fun _ h => h) rfl T.cShelf T.shelf_least (by simp) ⟨_, rfl, rfl⟩⟩
def c_Shelf___eq__ (K : PySem.W.Frag) : Con := { α := Nat × Nat × (List Nat × List Int) × (List Nat × List Int), ok := fun _ => True, args := fun a => [shelfD K a.1 a.2.1 (natI a.2.2.1.1) a.2.2.1.2, shelfD K a.1 a.2.1 (natI a.2.2.2.1) a.2.2.2.2], R := fun a d => d = Bo (decide (a.2.2.1.1 = a.2.2.2.1)) }
abbrev s_Shelf___eq__ : Stmt := L2.inClass (tp 29) 20
theorem sc_Shelf___eq__ : FnScope ["self", "other"] ["self", "other"] (defScope s_Shelf___eq__) := ⟨rfl, rfl, rfl, by decide +kernel, rfl, by decide +kernel, by decide +kernel⟩
theorem fo_Shelf___eq__ {f : Addr} {fd : FuncData} (F : MD K "Shelf" "__eq__" "Shelf.__eq__" s_Shelf___eq__ f fd) (T : Tk K mg) (G_Slope___eq__ : MO P w K mg base 1 "Slope" "__eq__" (c_Slope___eq__ K)) : MO P w K mg base 2 "Shelf" "__eq__" (c_Shelf___eq__ K) :=
  mo_mk F sc_Shelf___eq__ (F.fn.bindsN fun _ _ _ _ _ _ us hl => match us, hl with | [_, _], _ => rfl) (fun a _ => by first | rfl | (cases a; rfl)) fun cdv A outer s H E hr => ⟨_,
    (pss_one (ps_ret (pe_and (pe_callB (call_isiSl (.ref (He.ga K "Shelf"))) (by rfl) T.isinstance_ (by decide +kernel) (pa_cons (pv 1) (pa_cons (pe_cls T.cShelf (by rfl)) pa_nil))) (pe_and (pe_cmpR (op_eqO G_Slope___eq__ hr (by decide)) (pe_sl (pv 0)) (pe_sl (pv 1)) (nomark _)) (pe_one (pe_cmpR (op_eqD hr.units) (pe_sl (pv 0)) (pe_sl (pv 1)) (nomark _))))))),
  fun δ F0 a _ => by
    obtain ⟨r, s, ⟨g1, l1⟩, ⟨g2, l2⟩⟩ := a
    refine sd_retD (ed_andV (ed_isiC (ed_var rfl) T.cShelf) fun _ => ed_andV (ed_eqO (C := c_Slope___eq__ K) ((r, s), (r, s)) (ed_at (ed_var rfl) T.cShelf T.shelf_slope rfl) (ed_at (ed_var rfl) T.cShelf T.shelf_slope rfl) nf_self rfl trivial fun _ h => h) fun _ => ed_eqTI (a := natI g1) (b := natI g2) (ed_at (ed_var rfl) T.cShelf T.shelf_gaps rfl) (ed_at (ed_var rfl) T.cShelf T.shelf_gaps rfl)) ?_
    show D.py (.bool _) = D.py (.bool _)
    congr 2
    have e : (natI g1 = natI g2) ↔ (g1 = g2) := ⟨natI_inj, fun h => by rw [h]⟩
    simp [e]⟩
end
end Dl
set_option Elab.async false
set_option linter.all false
set_option maxRecDepth 100000
set_option maxHeartbeats 4000000
namespace Dl
open PySem PySem.Spec PyProof.Rows L2 SlX Rm
section
variable {P : Program} {w : World} {K : PySem.W.Frag} {mg : Str → Option Value} {base : Heap}
theorem fac_nil {k : Fq} {n : Nat} {P Q : List (List (El k))} (h0 : n ≠ 0) (h : (if P.length = Q.length then mapsR n P Q else []) = []) : facR n P Q = none := by unfold facR; rw [if_neg h0, h]
theorem fac_cons {k : Fq} {n : Nat} {P Q t : List (List (El k))} {g : List (El k)} (h0 : n ≠ 0) (h : (if P.length = Q.length then mapsR n P Q else []) = g :: t) : facR n P Q = if co g 0 ≠ 0 then some g else none := by unfold facR; rw [if_neg h0, h]
theorem ed_makeD {δ : Option Addr} {H0 : Hp} {ρ : List Sl} {d : D} {C : Addr} {c : Con} {E : XK} {t : TA} (a : c.α) (ha : AD K δ H0 t ρ (c.args a)) (hp : c.ok a) (hq : ∀ z, c.R a z → z = d) : ED K δ H0 (tMake C (spI K C c) [] E t) ρ d :=
  EP.ed (ep_make ha fun ds e => ⟨a, hp, e.symm, fun es h => hq _ h⟩)
theorem mapsG_len {k : Fq} {n : Nat} {B : List (List (El k))} : ∀ (P found : List (List (El k))), (∀ x, x ∈ P → x.length = n) → (∀ x, x ∈ found → x.length = n) → found.length ≤ n → (∀ x, x ∈ mapsG n B P found → x.length = n) ∧ (mapsG n B P found).length ≤ n
  | [], found, _, hf, hl => ⟨hf, hl⟩
  | row :: P, found, hP, hf, hl => by
    have hr := hP row List.mem_cons_self
    have rl := rref_rl (app_len2 hf (conds_len (barred := B) hr))
    exact mapsG_len P (rref (found ++ conds row B)) (fun x hx => hP x (List.mem_cons_of_mem _ hx)) rl.len rl.le
def c_Room___init__ (K : PySem.W.Frag) : Con := { α := (k : Fq) × Nat × Nat × List (List (El k)), ok := fun a => SlOk a.2.1 a.2.2.1 ∧ (∀ x, x ∈ a.2.2.2 → x.length = wdt a.2.1 a.2.2.1) ∧ a.2.2.2.length ≤ 60 ∧ Rom (wdt a.2.1 a.2.2.1) a.2.1 a.2.2.1 (rref a.2.2.2), args := fun a => [fieldD K a.1, slopeD K a.2.1 a.2.2.1, .py (rsP a.2.2.2)], R := fun a d => d = roomD K a.1 a.2.1 a.2.2.1 (rref a.2.2.2) }
abbrev s_Room___init__ : Stmt := L2.inClass (tp 78) 1
theorem sc_Room___init__ : FnScope ["self", "field", "slope", "rows"] ["self", "field", "slope", "rows"] (defScope s_Room___init__) := ⟨rfl, rfl, rfl, by decide +kernel, rfl, by decide +kernel, by decide +kernel⟩
theorem fo_Room___init__ {f : Addr} {fd : FuncData} {dvs : List V} (M : Mk K (He.ga K "Room") f) (F : FunD K "__init__" "Room.__init__" (defArgs s_Room___init__) (defBody s_Room___init__) (defScope s_Room___init__) dvs [] f fd) (b : L2.Binds K fd ["self", "field", "slope", "rows"] []) (T : Tk K mg) (G_plain_rows : FO P w K mg base 7 "plain_rows" (c_plain_rows K)) (G_width_of : FO P w K mg base 3 "width_of" (c_width_of K)) (G_are_room_rows : FO P w K mg base 10 "are_room_rows" (c_are_room_rows K)) (G_require_place : FO P w K mg base 4 "require_place" (c_require_place K)) : CO P w K mg base 11 "Room" (c_Room___init__ K) :=
  co_mk (n := 3) M T.cRoom.mg_ F sc_Room___init__ b (fun a _ => by first | rfl | (cases a; rfl)) fun cdv A outer s H E hr => ⟨_,
    (pss_cons (ps_expr (pe_fo G_require_place hr (by decide) (by rfl) (pa_cons (pv 1) (pa_cons (pv 2) pa_nil))))
    (pss_cons (ps_if (pt_not (pt_val (pe_fo G_are_room_rows hr (by decide) (by rfl) (pa_cons (pv 1) (pa_cons (pv 2) (pa_cons (pv 3) pa_nil)))))) (pss_one ps_never) pss_nil)
    (pss_cons (ps_sl (pv 0) (pv 1))
    (pss_cons (ps_sl (pv 0) (pv 2))
    (pss_one (ps_sl (pv 0) (pe_fo G_plain_rows hr (by decide) (by rfl) (pa_cons (pv 1) (pa_cons (pe_fo G_width_of hr (by decide) (by rfl) (pa_cons (pv 2) pa_nil)) (pa_cons (pv 3) pa_nil)))))))))),
  fun δ F0 H0 o a ok => by
    obtain ⟨k, r, s, P⟩ := a
    obtain ⟨h, hl, hP, hR⟩ := (show SlOk r s ∧ (∀ x, x ∈ P → x.length = wdt r s) ∧ P.length ≤ 60 ∧ Rom (wdt r s) r s (rref P) from ok)
    have hw : wdt r s ≤ 24 := h.w
    refine sd_seq (sd_dropD (ed_call (C := c_require_place K) (k, r, s) (ad_cons (ed_var rfl) (ad_cons (ed_var rfl) ap_nil)) h fun _ h => h) ?_)
    refine sd_seq (sd_ifD (bd_not (bd_test (ed_call (C := c_are_room_rows K) ⟨k, r, s, P⟩ (ad_cons (ed_var rfl) (ad_cons (ed_var rfl) (ad_cons (ed_var rfl) ap_nil))) ok fun _ h => h))) (fun e => by cases e) fun _ => sd_nx ?_)
    refine sd_seq (sd_at (ed_var rfl) rfl T.cRoom T.room_field (by simp) ?_)
    refine sd_seq (sd_at (ed_var rfl) rfl T.cRoom T.room_slope (by simp) ?_)
    exact sd_at (ed_call (C := c_plain_rows K) ⟨k, wdt r s, P⟩ (ad_cons (ed_var rfl) (ad_cons (ed_call (C := c_width_of K) (r, s) (ad_cons (ed_var rfl) ap_nil) h fun _ h => h) (ad_cons (ed_var rfl) ap_nil))) (show (∀ x, x ∈ P → x.length = wdt r s) ∧ wdt r s ≤ 60 ∧ P.length ≤ 60 from ⟨hl, by omega, hP⟩) fun _ h => h) rfl T.cRoom T.room_basis (by simp) ⟨_, rfl, rfl⟩⟩
def c_Room_basis (K : PySem.W.Frag) : Con := { α := (k : Fq) × Nat × Nat × List (List (El k)), ok := fun _ => True, args := fun a => [roomD K a.1 a.2.1 a.2.2.1 a.2.2.2], R := fun a d => d = .py (rsP a.2.2.2) }
abbrev s_Room_basis : Stmt := L2.inClass (tp 78) 6
theorem sc_Room_basis : FnScope ["self"] ["self"] (defScope s_Room_basis) := ⟨rfl, rfl, rfl, by decide +kernel, rfl, by decide +kernel, by decide +kernel⟩
theorem fo_Room_basis {p f : Addr} {fd : FuncData} (F : PD K "Room" "basis" "Room.basis" s_Room_basis p f fd) (T : Tk K mg) : PO P w K mg base 1 "Room" "basis" (c_Room_basis K) :=
  po_mk F sc_Room_basis (F.fn.bindsN fun _ _ _ _ _ _ us hl => match us, hl with | [_], _ => rfl) (fun a _ => by first | rfl | (cases a; rfl)) fun cdv A outer s H E hr => ⟨_,
    (pss_one (ps_ret (pe_sl (pv 0)))),
  fun δ F0 a _ => by
    obtain ⟨k, r, s, P⟩ := a
    exact sd_retD (ed_at (ed_var rfl) T.cRoom T.room_basis rfl) rfl⟩
def c_Room_orders (K : PySem.W.Frag) : Con := { α := (k : Fq) × Nat × Nat × List (List (El k)), ok := fun a => a.2.2.2.length ≤ 1000, args := fun a => [roomD K a.1 a.2.1 a.2.2.1 a.2.2.2], R := fun a d => d = .py (.tuple ((natI (ords a.2.2.2)).map .int)) }
abbrev s_Room_orders : Stmt := L2.inClass (tp 78) 7
theorem sc_Room_orders : FnScope ["self", "row"] ["self"] (defScope s_Room_orders) := ⟨rfl, rfl, rfl, by decide +kernel, rfl, by decide +kernel, by decide +kernel⟩
theorem fo_Room_orders {p f : Addr} {fd : FuncData} (F : PD K "Room" "orders" "Room.orders" s_Room_orders p f fd) (T : Tk K mg) (G_order_of : FO P w K mg base 1 "order_of" (c_order_of K)) : PO P w K mg base 2 "Room" "orders" (c_Room_orders K) :=
  po_mk F sc_Room_orders (F.fn.bindsN fun _ _ _ _ _ _ us hl => match us, hl with | [_], _ => rfl) (fun a _ => by first | rfl | (cases a; rfl)) fun cdv A outer s H E hr => ⟨_,
    (pss_one (ps_ret (pe_callTy call_tuple_of (by rfl) T.tuple_ (by decide +kernel) (pa_cons (pe_lc rfl sc_Room_orders.nd (pi_tup (pe_sl (pv 0))) (blkOk_by (N := ["self", "row"]) (own := [("row", 1)]) (sc := defScope s_Room_orders) (by decide +kernel)) (g := gName 1) (tt := tYes) (fun _ _ _ _ _ => (pg_name (i := 1) sc_Room_orders.nd rfl (Or.inl rfl))) (fun _ _ _ _ _ => pts_nil) (fun _ _ _ _ _ => (pe_foK (K := K) G_order_of hr (by decide) (by rfl) (pa_cons (pv 1) pa_nil)))) pa_nil)))),
  fun δ F0 a ok => by
    obtain ⟨k, r, s, P⟩ := a
    have hP : P.length ≤ 1000 := ok
    refine sd_retD (ed_tupL (xs := (natI (ords P)).map .int) (el_en ((en_map (as := P) (wi_rows (ed_at (ed_var rfl) T.cRoom T.room_basis rfl)) (fun r => .int ((ordL r : Nat) : Int)) (by omega) fun x _ => ed_call (C := c_order_of K) ⟨k, x⟩ (ad_cons (ed_var rfl) ap_nil) trivial fun _ h => h).to (by unfold natI ords; rw [List.map_map, List.map_map]; rfl)))) rfl⟩
def c_Room_shelf (K : PySem.W.Frag) : Con := { α := (k : Fq) × Nat × Nat × List (List (El k)), ok := fun a => SlOk a.2.1 a.2.2.1 ∧ Rom (wdt a.2.1 a.2.2.1) a.2.1 a.2.2.1 a.2.2.2, args := fun a => [roomD K a.1 a.2.1 a.2.2.1 a.2.2.2], R := fun a d => d = shelfD K a.2.1 a.2.2.1 (natI (gapsR (wdt a.2.1 a.2.2.1) a.2.2.2)) (leastL (gapsR (wdt a.2.1 a.2.2.1) a.2.2.2) a.2.1) }
abbrev s_Room_shelf : Stmt := L2.inClass (tp 78) 8
theorem sc_Room_shelf : FnScope ["self", "orders", "at"] ["self"] (defScope s_Room_shelf) := ⟨rfl, rfl, rfl, by decide +kernel, rfl, by decide +kernel, by decide +kernel⟩
theorem fo_Room_shelf {p f : Addr} {fd : FuncData} (F : PD K "Room" "shelf" "Room.shelf" s_Room_shelf p f fd) (T : Tk K mg) (G_Shelf___init__ : CO P w K mg base 4 "Shelf" (c_Shelf___init__ K)) (G_width_of : FO P w K mg base 3 "width_of" (c_width_of K)) (G_Room_orders : PO P w K mg base 2 "Room" "orders" (c_Room_orders K)) : PO P w K mg base 6 "Room" "shelf" (c_Room_shelf K) :=
  po_mk F sc_Room_shelf (F.fn.bindsN fun _ _ _ _ _ _ us hl => match us, hl with | [_], _ => rfl) (fun a _ => by first | rfl | (cases a; rfl)) fun cdv A outer s H E hr => ⟨_,
    (pss_cons (ps_set (i := 1) sc_Room_shelf.nd rfl (Or.inr rfl) (pe_po G_Room_orders T.cRoom hr (by decide) (pv 0)))
    (pss_one (ps_ret (pe_co G_Shelf___init__ hr (by decide) (by rfl) (pa_cons (pe_sl (pv 0)) (pa_cons (pe_callTy call_tuple_of (by rfl) T.tuple_ (by decide +kernel) (pa_cons (pe_lc rfl sc_Room_shelf.nd (pi_range1 (by rfl) T.range_ (pa_cons (pe_fo G_width_of hr (by decide) (by rfl) (pa_cons (pe_sl (pv 0)) pa_nil)) pa_nil)) (blkOk_by (N := ["self", "orders", "at"]) (own := [("at", 2)]) (sc := defScope s_Room_shelf) (by decide +kernel)) (g := gName 2) (fun _ _ _ _ _ => (pg_name (i := 2) sc_Room_shelf.nd rfl (Or.inl rfl))) (fun _ _ _ _ _ => (pts_one (pt_cmpR (opK (K := K) (fun K => rIn K true) op_notIn_seq) (pv 2) (pv 1) rfl))) (fun _ _ _ _ _ => (pv 2))) pa_nil)) pa_nil)))))),
  fun δ F0 a ok => by
    obtain ⟨k, r, s, P⟩ := a
    obtain ⟨h, hR⟩ := (show SlOk r s ∧ Rom (wdt r s) r s P from ok)
    have hw : wdt r s ≤ 24 := h.w
    have lP := hR.rl.le
    refine sd_seq (sd_asgD (ed_prop (C := c_Room_orders K) ⟨k, r, s, P⟩ (ed_var rfl) rfl (show P.length ≤ 1000 by omega) fun _ h => h) ?_)
    refine sd_retD (ed_makeD (c := c_Shelf___init__ K) (r, s, gapsR (wdt r s) P) (ad_cons (ed_at (ed_var rfl) T.cRoom T.room_slope rfl) (ad_cons (ed_tupL (xs := (natI (gapsR (wdt r s) P)).map .int) (el_en ((en_mapF (as := List.range (wdt r s)) (e := fun (j : Nat) => I (j : Int)) (wi_rngN (ad_cons (ed_call (C := c_width_of K) (r, s) (ad_cons (ed_at (ed_var rfl) T.cRoom T.room_slope rfl) ap_nil) h fun _ h => h) ap_nil) (by omega)) (fun j => decide (j ∉ ords P)) (fun (j : Nat) => .int (j : Int)) (by rw [List.length_range]; omega) (fun j _ => (bd_test (ed_notInTI (ns := natI (ords P)) (ed_var rfl) (ed_var rfl))).to ?_) fun j _ _ => ed_var rfl).to (by unfold natI gapsR; rw [List.map_map]; rfl)))) ap_nil)) ⟨h, gaps_gp hR hw⟩ fun _ h => h) rfl
    simp [mem_natI]⟩
def c_Room_by_row (K : PySem.W.Frag) : Con := { α := (k : Fq) × Nat × Nat × List (List (El k)) × List (El k), ok := fun a => SlOk a.2.1 a.2.2.1 ∧ Rom (wdt a.2.1 a.2.2.1) a.2.1 a.2.2.1 a.2.2.2.1 ∧ a.2.2.2.2.length = wdt a.2.1 a.2.2.1 ∧ (0 < wdt a.2.1 a.2.2.1 → co a.2.2.2.2 0 ≠ 0), args := fun a => [roomD K a.1 a.2.1 a.2.2.1 a.2.2.2.1, .py (rP a.2.2.2.2)], R := fun a d => d = roomD K a.1 a.2.1 a.2.2.1 (byR a.2.2.2.1 a.2.2.2.2) }
abbrev s_Room_by_row : Stmt := L2.inClass (tp 78) 11
theorem sc_Room_by_row : FnScope ["self", "row", "width", "products", "one"] ["self", "row"] (defScope s_Room_by_row) := ⟨rfl, rfl, rfl, by decide +kernel, rfl, by decide +kernel, by decide +kernel⟩
theorem fo_Room_by_row {f : Addr} {fd : FuncData} (F : MD K "Room" "by_row" "Room.by_row" s_Room_by_row f fd) (T : Tk K mg) (G_Room___init__ : CO P w K mg base 11 "Room" (c_Room___init__ K)) (G_row_product : FO P w K mg base 6 "row_product" (c_row_product K)) (G_is_row_of : FO P w K mg base 4 "is_row_of" (c_is_row_of K)) (G_width_of : FO P w K mg base 3 "width_of" (c_width_of K)) : MO P w K mg base 13 "Room" "by_row" (c_Room_by_row K) :=
  mo_mk F sc_Room_by_row (F.fn.bindsN fun _ _ _ _ _ _ us hl => match us, hl with | [_, _], _ => rfl) (fun a _ => by first | rfl | (cases a; rfl)) fun cdv A outer s H E hr => ⟨_,
    (pss_cons (ps_set (i := 2) sc_Room_by_row.nd rfl (Or.inl rfl) (pe_fo G_width_of hr (by decide) (by rfl) (pa_cons (pe_sl (pv 0)) pa_nil)))
    (pss_cons (ps_if (PW.pt (pw_or (pt_not (pt_val (pe_fo G_is_row_of hr (by decide) (by rfl) (pa_cons (pe_sl (pv 0)) (pa_cons (pv 2) (pa_cons (pv 1) pa_nil)))))) (pw_or1 (PW.pt (pw_and (pt_cmpR op_gt (pv 2) pe_int (nomark _)) (pw_and1 (pt_cmpR op_eq (pe_ix ix_seq (pv 1) pe_int (fun _ _ => rfl)) pe_int (nomark _)))))))) (pss_one ps_never) pss_nil)
    (pss_cons (ps_set (i := 3) sc_Room_by_row.nd rfl (Or.inl rfl) (pe_callTy call_tuple_of (by rfl) T.tuple_ (by decide +kernel) (pa_cons (pe_lc rfl sc_Room_by_row.nd (pi_tup (pe_sl (pv 0))) (blkOk_by (N := ["self", "row", "width", "products", "one"]) (own := [("one", 4)]) (sc := defScope s_Room_by_row) (by decide +kernel)) (g := gName 4) (tt := tYes) (fun _ _ _ _ _ => (pg_name (i := 4) sc_Room_by_row.nd rfl (Or.inl rfl))) (fun _ _ _ _ _ => pts_nil) (fun _ _ _ _ _ => (pe_foK (K := K) G_row_product hr (by decide) (by rfl) (pa_cons (pe_slK (K := K) (pv 0)) (pa_cons (pv 4) (pa_cons (pv 1) pa_nil)))))) pa_nil)))
    (pss_one (ps_ret (pe_co G_Room___init__ hr (by decide) (by rfl) (pa_cons (pe_sl (pv 0)) (pa_cons (pe_sl (pv 0)) (pa_cons (pv 3) pa_nil))))))))),
  fun δ F0 a ok => by
    obtain ⟨k, r, s, P, g⟩ := a
    obtain ⟨h, hR, hg, g0⟩ := (show SlOk r s ∧ Rom (wdt r s) r s P ∧ g.length = wdt r s ∧ (0 < wdt r s → co g 0 ≠ 0) from ok)
    have hw : wdt r s ≤ 24 := h.w
    have lP := hR.rl.le
    have hl := hR.rl.len
    refine sd_seq (sd_asgD (ed_call (C := c_width_of K) (r, s) (ad_cons (ed_at (ed_var rfl) T.cRoom T.room_slope rfl) ap_nil) h fun _ h => h) ?_)
    refine sd_seq (sd_ifD (b := false) (bd_or (a := false) (BD.to (bd_not (bd_test (ed_call (C := c_is_row_of K) ⟨k, wdt r s, g⟩ (ad_cons (ed_at (ed_var rfl) T.cRoom T.room_field rfl) (ad_cons (ed_var rfl) (ad_cons (ed_var rfl) ap_nil))) (show g.length = wdt r s ∧ wdt r s ≤ 1000 from ⟨hg, by omega⟩) fun _ h => h))) rfl) (b := false) fun _ => ?_) (fun e => by cases e) fun _ => sd_nx ?_)
    · by_cases h0 : 0 < wdt r s
      · have ng : inI (co g 0) ≠ 0 := fun z => g0 h0 (inI_zero.mp z)
        refine BD.to (bd_and (bd_B (ed_gt (ed_var rfl) ed_int)) fun _ => bd_B (ed_eq (ed_rowAt (r := g) (i := 0) (ed_var rfl) ed_int (by omega)) ed_int)) ?_
        simp [ng]
      · refine BD.to (bd_and (b := false) (bd_B (ed_gt (ed_var rfl) ed_int)) fun e => ?_) (by simp)
        have z : (0 : Int) < ((wdt r s : Nat) : Int) := of_decide_eq_true e
        omega
    refine sd_seq (sd_asgD (d := .py (rsP (P.map fun x => prodP x g))) (ed_tupRows ((en_map (as := P) (wi_rows (ed_at (ed_var rfl) T.cRoom T.room_basis rfl)) (fun x => rP (prodP x g)) (by omega) fun x hx => ed_call (C := c_row_product K) ⟨k, wdt r s, x, g⟩ (ad_cons (ed_at (ed_var rfl) T.cRoom T.room_field rfl) (ad_cons (ed_var rfl) (ad_cons (ed_var rfl) ap_nil))) (show x.length = wdt r s ∧ g.length = wdt r s ∧ wdt r s ≤ 60 from ⟨hl x hx, hg, by omega⟩) fun _ h => h).to (by rw [List.map_map]; rfl))) ?_)
    exact sd_retD (ed_makeD (c := c_Room___init__ K) ⟨k, r, s, P.map fun x => prodP x g⟩ (ad_cons (ed_at (ed_var rfl) T.cRoom T.room_field rfl) (ad_cons (ed_at (ed_var rfl) T.cRoom T.room_slope rfl) (ad_cons (ed_var rfl) ap_nil))) (show SlOk r s ∧ (∀ x, x ∈ (P.map fun x => prodP x g) → x.length = wdt r s) ∧ (P.map fun x => prodP x g).length ≤ 60 ∧ Rom (wdt r s) r s (rref (P.map fun x => prodP x g)) from ⟨h, by_len hl hg, by rw [List.length_map]; omega, by_rom hR hg g0⟩) fun _ h => h) rfl⟩
def c_require_room (K : PySem.W.Frag) : Con := { α := (k : Fq) × Nat × Nat × List (List (El k)), ok := fun _ => True, args := fun a => [roomD K a.1 a.2.1 a.2.2.1 a.2.2.2], R := fun _ d => d = .py .none }
abbrev s_require_room : Stmt := tp 79
theorem sc_require_room : FnScope ["value"] ["value"] (defScope s_require_room) := ⟨rfl, rfl, rfl, by decide +kernel, rfl, by decide +kernel, by decide +kernel⟩
theorem fo_require_room {f : Addr} {fd : FuncData} (F : FD K "require_room" s_require_room f fd) (g : mg "require_room" = some (.ref f)) (T : Tk K mg) : FO P w K mg base 1 "require_room" (c_require_room K) :=
  fo_mk F g sc_require_room (F.bindsN fun _ _ _ _ _ _ us hl => match us, hl with | [_], _ => rfl) (fun a _ => by first | rfl | (cases a; rfl)) fun cdv A outer s H E hr => ⟨_,
    (pss_one (ps_if (pt_not (pt_val (pe_callB (call_isiSl (.ref (He.ga K "Room"))) (by rfl) T.isinstance_ (by decide +kernel) (pa_cons (pv 0) (pa_cons (pe_cls T.cRoom (by rfl)) pa_nil))))) (pss_one ps_never) pss_nil)),
  fun δ F0 a _ => sd_ifD (bd_not (bd_test (ed_isiC (ed_var rfl) T.cRoom))) (fun e => by cases e) fun _ => sd_nx rfl⟩
def c_require_like_room (K : PySem.W.Frag) : Con := { α := (k : Fq) × Nat × Nat × List (List (El k)) × List (List (El k)), ok := fun _ => True, args := fun a => [roomD K a.1 a.2.1 a.2.2.1 a.2.2.2.1, roomD K a.1 a.2.1 a.2.2.1 a.2.2.2.2], R := fun _ d => d = .py .none }
abbrev s_require_like_room : Stmt := tp 80
theorem sc_require_like_room : FnScope ["room", "value"] ["room", "value"] (defScope s_require_like_room) := ⟨rfl, rfl, rfl, by decide +kernel, rfl, by decide +kernel, by decide +kernel⟩
theorem fo_require_like_room {f : Addr} {fd : FuncData} (F : FD K "require_like_room" s_require_like_room f fd) (g : mg "require_like_room" = some (.ref f)) (T : Tk K mg) (G_Slope___eq__ : MO P w K mg base 1 "Slope" "__eq__" (c_Slope___eq__ K)) (G_Field___eq__ : MO P w K mg base 1 "Field" "__eq__" (c_Field___eq__ K)) : FO P w K mg base 3 "require_like_room" (c_require_like_room K) :=
  fo_mk F g sc_require_like_room (F.bindsN fun _ _ _ _ _ _ us hl => match us, hl with | [_, _], _ => rfl) (fun a _ => by first | rfl | (cases a; rfl)) fun cdv A outer s H E hr => ⟨_,
    (pss_one (ps_if (PW.pt (pw_or (pt_not (pt_val (pe_callB (call_isiSl (.ref (He.ga K "Room"))) (by rfl) T.isinstance_ (by decide +kernel) (pa_cons (pv 1) (pa_cons (pe_cls T.cRoom (by rfl)) pa_nil))))) (pw_or (pt_cmpR (op_neO G_Field___eq__ T.cField T.neField hr (by decide)) (pe_sl (pv 1)) (pe_sl (pv 0)) (nomark _)) (pw_or1 (pt_cmpR (op_neO G_Slope___eq__ T.cSlope T.neSlope hr (by decide)) (pe_sl (pv 1)) (pe_sl (pv 0)) (nomark _)))))) (pss_one ps_never) pss_nil)),
  fun δ F0 a _ => by
    obtain ⟨k, r, s, P, Q⟩ := a
    refine sd_ifD (b := false) (BD.to (bd_or (bd_not (bd_test (ed_isiC (ed_var rfl) T.cRoom))) fun _ => bd_or (bd_test (ed_neO (C := c_Field___eq__ K) (b := true) k (ed_at (ed_var rfl) T.cRoom T.room_field rfl) (ed_at (ed_var rfl) T.cRoom T.room_field rfl) nf_self rfl trivial fun _ h => h)) fun _ => bd_test (ed_neO (C := c_Slope___eq__ K) (b := true) ((r, s), (r, s)) (ed_at (ed_var rfl) T.cRoom T.room_slope rfl) (ed_at (ed_var rfl) T.cRoom T.room_slope rfl) nf_self rfl trivial fun _ h => h.trans (by simp))) rfl) (fun e => by cases e) fun _ => sd_nx rfl⟩
def c_Room___add__ (K : PySem.W.Frag) : Con := { α := (k : Fq) × Nat × Nat × List (List (El k)) × List (List (El k)), ok := fun a => SlOk a.2.1 a.2.2.1 ∧ Rom (wdt a.2.1 a.2.2.1) a.2.1 a.2.2.1 a.2.2.2.1 ∧ Rom (wdt a.2.1 a.2.2.1) a.2.1 a.2.2.1 a.2.2.2.2, args := fun a => [roomD K a.1 a.2.1 a.2.2.1 a.2.2.2.1, roomD K a.1 a.2.1 a.2.2.1 a.2.2.2.2], R := fun a d => d = roomD K a.1 a.2.1 a.2.2.1 (addR a.2.2.2.1 a.2.2.2.2) }
abbrev s_Room___add__ : Stmt := L2.inClass (tp 78) 14
theorem sc_Room___add__ : FnScope ["self", "other"] ["self", "other"] (defScope s_Room___add__) := ⟨rfl, rfl, rfl, by decide +kernel, rfl, by decide +kernel, by decide +kernel⟩
theorem fo_Room___add__ {f : Addr} {fd : FuncData} (F : MD K "Room" "__add__" "Room.__add__" s_Room___add__ f fd) (T : Tk K mg) (G_Room___init__ : CO P w K mg base 11 "Room" (c_Room___init__ K)) (G_require_like_room : FO P w K mg base 3 "require_like_room" (c_require_like_room K)) : MO P w K mg base 13 "Room" "__add__" (c_Room___add__ K) :=
  mo_mk F sc_Room___add__ (F.fn.bindsN fun _ _ _ _ _ _ us hl => match us, hl with | [_, _], _ => rfl) (fun a _ => by first | rfl | (cases a; rfl)) fun cdv A outer s H E hr => ⟨_,
    (pss_cons (ps_if (pt_not (pt_val (pe_callB (call_isiSl (.ref (He.ga K "Room"))) (by rfl) T.isinstance_ (by decide +kernel) (pa_cons (pv 1) (pa_cons (pe_cls T.cRoom (by rfl)) pa_nil))))) (pss_one ps_never) pss_nil)
    (pss_cons (ps_expr (pe_fo G_require_like_room hr (by decide) (by rfl) (pa_cons (pv 0) (pa_cons (pv 1) pa_nil))))
    (pss_one (ps_ret (pe_co G_Room___init__ hr (by decide) (by rfl) (pa_cons (pe_sl (pv 0)) (pa_cons (pe_sl (pv 0)) (pa_cons (pe_op op_catA (pe_sl (pv 0)) (pe_sl (pv 1))) pa_nil)))))))),
  fun δ F0 a ok => by
    obtain ⟨k, r, s, P, Q⟩ := a
    obtain ⟨h, hP, hQ⟩ := (show SlOk r s ∧ Rom (wdt r s) r s P ∧ Rom (wdt r s) r s Q from ok)
    have hw : wdt r s ≤ 24 := h.w
    have lP := hP.rl.le
    have lQ := hQ.rl.le
    have hl := app_len2 hP.rl.len hQ.rl.len
    refine sd_seq (sd_ifD (bd_not (bd_test (ed_isiC (ed_var rfl) T.cRoom))) (fun e => by cases e) fun _ => sd_nx ?_)
    refine sd_seq (sd_dropD (ed_call (C := c_require_like_room K) ⟨k, r, s, P, Q⟩ (ad_cons (ed_var rfl) (ad_cons (ed_var rfl) ap_nil)) trivial fun _ h => h) ?_)
    exact sd_retD (ed_makeD (c := c_Room___init__ K) ⟨k, r, s, P ++ Q⟩ (ad_cons (ed_at (ed_var rfl) T.cRoom T.room_field rfl) (ad_cons (ed_at (ed_var rfl) T.cRoom T.room_slope rfl) (ad_cons (ed_catRs (ed_at (ed_var rfl) T.cRoom T.room_basis rfl) (ed_at (ed_var rfl) T.cRoom T.room_basis rfl) (by omega)) ap_nil))) (show SlOk r s ∧ (∀ x, x ∈ P ++ Q → x.length = wdt r s) ∧ (P ++ Q).length ≤ 60 ∧ Rom (wdt r s) r s (rref (P ++ Q)) from ⟨h, hl, by rw [List.length_append]; omega, add_rom hP hQ⟩) fun _ h => h) rfl⟩
def c_Room___len__ (K : PySem.W.Frag) : Con := { α := (k : Fq) × Nat × Nat × List (List (El k)), ok := fun _ => True, args := fun a => [roomD K a.1 a.2.1 a.2.2.1 a.2.2.2], R := fun a d => d = I (a.2.2.2.length : Int) }
abbrev s_Room___len__ : Stmt := L2.inClass (tp 78) 16
theorem sc_Room___len__ : FnScope ["self"] ["self"] (defScope s_Room___len__) := ⟨rfl, rfl, rfl, by decide +kernel, rfl, by decide +kernel, by decide +kernel⟩
theorem fo_Room___len__ {f : Addr} {fd : FuncData} (F : MD K "Room" "__len__" "Room.__len__" s_Room___len__ f fd) (T : Tk K mg) : MO P w K mg base 1 "Room" "__len__" (c_Room___len__ K) :=
  mo_mk F sc_Room___len__ (F.fn.bindsN fun _ _ _ _ _ _ us hl => match us, hl with | [_], _ => rfl) (fun a _ => by first | rfl | (cases a; rfl)) fun cdv A outer s H E hr => ⟨_,
    (pss_one (ps_ret (pe_callB ((call_len_seq)) (by rfl) T.len_ (by decide +kernel) (pa_cons (pe_sl (pv 0)) pa_nil)))),
  fun δ F0 a _ => by
    obtain ⟨k, r, s, P⟩ := a
    exact sd_retD (ed_lenRs (ed_at (ed_var rfl) T.cRoom T.room_basis rfl)) rfl⟩
def c_Room___eq__ (K : PySem.W.Frag) : Con := { α := (k : Fq) × Nat × Nat × List (List (El k)) × List (List (El k)), ok := fun _ => True, args := fun a => [roomD K a.1 a.2.1 a.2.2.1 a.2.2.2.1, roomD K a.1 a.2.1 a.2.2.1 a.2.2.2.2], R := fun a d => d = Bo (decide (a.2.2.2.1 = a.2.2.2.2)) }
abbrev s_Room___eq__ : Stmt := L2.inClass (tp 78) 17
theorem sc_Room___eq__ : FnScope ["self", "other"] ["self", "other"] (defScope s_Room___eq__) := ⟨rfl, rfl, rfl, by decide +kernel, rfl, by decide +kernel, by decide +kernel⟩
theorem fo_Room___eq__ {f : Addr} {fd : FuncData} (F : MD K "Room" "__eq__" "Room.__eq__" s_Room___eq__ f fd) (T : Tk K mg) (G_Slope___eq__ : MO P w K mg base 1 "Slope" "__eq__" (c_Slope___eq__ K)) (G_Field___eq__ : MO P w K mg base 1 "Field" "__eq__" (c_Field___eq__ K)) : MO P w K mg base 2 "Room" "__eq__" (c_Room___eq__ K) :=
  mo_mk F sc_Room___eq__ (F.fn.bindsN fun _ _ _ _ _ _ us hl => match us, hl with | [_, _], _ => rfl) (fun a _ => by first | rfl | (cases a; rfl)) fun cdv A outer s H E hr => ⟨_,
    (pss_one (ps_ret (pe_and (pe_callB (call_isiSl (.ref (He.ga K "Room"))) (by rfl) T.isinstance_ (by decide +kernel) (pa_cons (pv 1) (pa_cons (pe_cls T.cRoom (by rfl)) pa_nil))) (pe_and (pe_cmpR (op_eqO G_Field___eq__ hr (by decide)) (pe_sl (pv 0)) (pe_sl (pv 1)) (nomark _)) (pe_and (pe_cmpR (op_eqO G_Slope___eq__ hr (by decide)) (pe_sl (pv 0)) (pe_sl (pv 1)) (nomark _)) (pe_one (pe_cmpR (op_eqD hr.units) (pe_sl (pv 0)) (pe_sl (pv 1)) (nomark _)))))))),
  fun δ F0 a _ => by
    obtain ⟨k, r, s, P, Q⟩ := a
    refine sd_retD (ed_andV (ed_isiC (ed_var rfl) T.cRoom) fun _ => ed_andV (ed_eqO (C := c_Field___eq__ K) (b := true) k (ed_at (ed_var rfl) T.cRoom T.room_field rfl) (ed_at (ed_var rfl) T.cRoom T.room_field rfl) nf_self rfl trivial fun _ h => h) fun _ => ed_andV (ed_eqO (C := c_Slope___eq__ K) (b := true) ((r, s), (r, s)) (ed_at (ed_var rfl) T.cRoom T.room_slope rfl) (ed_at (ed_var rfl) T.cRoom T.room_slope rfl) nf_self rfl trivial fun _ h => h.trans (by simp)) fun _ => ed_eqRs (ed_at (ed_var rfl) T.cRoom T.room_basis rfl) (ed_at (ed_var rfl) T.cRoom T.room_basis rfl)) rfl⟩
def c_sum_of_products (K : PySem.W.Frag) : Con := { α := (k : Fq) × List (El k) × List (El k), ok := fun _ => True, args := fun a => [fieldD K a.1, .py (rP a.2.1), .py (rP a.2.2)], R := fun a d => d = .py (inP (dotL a.2.1 a.2.2)) }
abbrev s_sum_of_products : Stmt := tp 81
theorem sc_sum_of_products : FnScope ["field", "row", "others", "found", "one", "other"] ["field", "row", "others"] (defScope s_sum_of_products) := ⟨rfl, rfl, rfl, by decide +kernel, rfl, by decide +kernel, by decide +kernel⟩
theorem fo_sum_of_products {f : Addr} {fd : FuncData} (F : FD K "sum_of_products" s_sum_of_products f fd) (g : mg "sum_of_products" = some (.ref f)) (T : Tk K mg) (G_Field_plus : MO P w K mg base 5 "Field" "plus" (c_Field_plus K)) (G_Field_times : MO P w K mg base 5 "Field" "times" (c_Field_times K)) : FO P w K mg base 6 "sum_of_products" (c_sum_of_products K) :=
  fo_mk F g sc_sum_of_products (F.bindsN fun _ _ _ _ _ _ us hl => match us, hl with | [_, _, _], _ => rfl) (fun a _ => by first | rfl | (cases a; rfl)) fun cdv A outer s H E hr => ⟨_,
    (pss_cons (ps_set (i := 3) sc_sum_of_products.nd rfl (Or.inl rfl) pe_int)
    (pss_cons (ps_for PassesOwn.never rfl (RZ.pi_zipA (by rfl) T.zip_ (pa_cons (pv 1) (pa_cons (pv 2) pa_nil))) (pg_tup rfl (pgs_cons (pg_name (i := 4) sc_sum_of_products.nd rfl (Or.inl rfl)) (pgs_cons (pg_name (i := 5) sc_sum_of_products.nd rfl (Or.inl rfl)) pgs_nil))) (pss_one (ps_set (i := 3) sc_sum_of_products.nd rfl (Or.inl rfl) (pe_mo G_Field_plus T.cField hr (by decide) (pv 0) (pa_cons (pv 3) (pa_cons (pe_mo G_Field_times T.cField hr (by decide) (pv 0) (pa_cons (pv 4) (pa_cons (pv 5) pa_nil))) pa_nil))))))
    (pss_one (ps_ret (pv 3))))),
  fun δ F0 (a : (k : Fq) × List (El k) × List (El k)) _ => by
    obtain ⟨k, x, y⟩ := a
    refine sd_seq (sd_asgD (d := .py (inP (0 : El k))) (ed_int.to (by show I 0 = I (inI 0); rw [inI_0])) ?_)
    refine sd_seq (sd_forZ (as := x) (bs := y) (f := inP) (g := inP) (wi_zipRow (ed_var rfl) (ed_var rfl)) (fun i ρ1 => ∃ X u v, ρ1 = [.fz (fieldD K k), .fz (.py (rP x)), .fz (.py (rP y)), .fz (.py (inP X)), u, v] ∧ X = ((x.zip y).take i).foldl (fun t p => t + p.1 * p.2) 0) ⟨_, _, _, rfl, rfl⟩ ?_ ?_)
    · rintro i p q ρ1 hq ⟨X, u, v, rfl, hX⟩
      refine sd_asgD (ed_meth (C := c_Field_plus K) ⟨k, X, p * q⟩ (ed_var rfl) (ad_cons (ed_var rfl) (ad_cons (ed_meth (C := c_Field_times K) ⟨k, p, q⟩ (ed_var rfl) (ad_cons (ed_var rfl) (ad_cons (ed_var rfl) ap_nil)) rfl trivial fun _ h => h) ap_nil)) rfl trivial fun _ h => h) ⟨_, _, _, rfl, ?_⟩
      rw [take_snoc hq, List.foldl_append, ← hX]; rfl
    · rintro ρ1 ⟨X, u, v, rfl, hX⟩
      refine sd_retD (ed_var rfl) ?_
      rw [List.take_length] at hX
      rw [hX]; rfl⟩
def c_conditions_for (K : PySem.W.Frag) : Con := { α := (k : Fq) × List (El k) × List (List (El k)), ok := fun a => a.2.1.length ≤ 1000 ∧ a.2.2.length ≤ 1000, args := fun a => [fieldD K a.1, .py (rP a.2.1), .py (rsP a.2.2)], R := fun a d => d = .py (rsP (conds a.2.1 a.2.2)) }
abbrev s_conditions_for : Stmt := tp 82
theorem sc_conditions_for : FnScope ["field", "row", "barred", "found", "across_row", "at"] ["field", "row", "barred"] (defScope s_conditions_for) := ⟨rfl, rfl, rfl, by decide +kernel, rfl, by decide +kernel, by decide +kernel⟩
theorem fo_conditions_for {f : Addr} {fd : FuncData} (F : FD K "conditions_for" s_conditions_for f fd) (g : mg "conditions_for" = some (.ref f)) (T : Tk K mg) (G_sum_of_products : FO P w K mg base 6 "sum_of_products" (c_sum_of_products K)) : FO P w K mg base 7 "conditions_for" (c_conditions_for K) :=
  fo_mk F g sc_conditions_for (F.bindsN fun _ _ _ _ _ _ us hl => match us, hl with | [_, _, _], _ => rfl) (fun a _ => by first | rfl | (cases a; rfl)) fun cdv A outer s H E hr => ⟨_,
    (pss_cons (ps_set (i := 3) sc_conditions_for.nd rfl (Or.inl rfl) (pe_lst pa_nil))
    (pss_cons (ps_for PassesOwn.never rfl (pi_tup (pv 2)) (pg_name (i := 4) sc_conditions_for.nd rfl (Or.inr rfl)) (pss_one (ps_expr (pe_bm PySem.F.plainAttrs_list PySem.F.slot_list_append PySem.F.type_list_append mt_append (pv 3) (pa_cons (pe_callTy call_tuple_of (by rfl) T.tuple_ (by decide +kernel) (pa_cons (pe_lc rfl sc_conditions_for.nd (pi_range1 (by rfl) T.range_ (pa_cons (pe_callB ((call_len_seq)) (by rfl) T.len_ (by decide +kernel) (pa_cons (pv 1) pa_nil)) pa_nil)) (blkOk_by (N := ["field", "row", "barred", "found", "across_row", "at"]) (own := [("at", 5)]) (sc := defScope s_conditions_for) (by decide +kernel)) (g := gName 5) (tt := tYes) (fun _ _ _ _ _ => (pg_name (i := 5) sc_conditions_for.nd rfl (Or.inl rfl))) (fun _ _ _ _ _ => pts_nil) (fun _ _ _ _ _ => (pe_foK (K := K) G_sum_of_products hr (by decide) (by rfl) (pa_cons (pv 0) (pa_cons (pe_slice (slK (K := K) rSlA sl_tupA) (pv 4) (po_some (pv 5)) po_none) (pa_cons (pv 1) pa_nil)))))) pa_nil)) pa_nil)))))
    (pss_one (ps_ret (pe_callTy call_tuple_of (by rfl) T.tuple_ (by decide +kernel) (pa_cons (pv 3) pa_nil)))))),
  fun δ F0 (a : (k : Fq) × List (El k) × List (List (El k))) ok => by
    obtain ⟨k, row, B⟩ := a
    obtain ⟨h1, h2⟩ := (show row.length ≤ 1000 ∧ B.length ≤ 1000 from ok)
    refine sd_seq (sd_asgNil ?_)
    refine sd_seq (sd_forM (as := B) (e := fun r => .py (rP r)) (wi_rows (ed_var rfl)) (fun i ρ1 => ∃ X u, ρ1 = [.fz (fieldD K k), .fz (.py (rP row)), .fz (.py (rsP B)), .ow (X.map rP), u, .no] ∧ X = (B.take i).map (condR row)) ⟨[], _, rfl, rfl⟩ ?_ ?_)
    · rintro i b ρ1 q ⟨X, u, rfl, hX⟩
      refine sd_appM (f := rP) (xs := X) (x := condR row b) rfl (ed_tupRow (r := condR row b) ((en_map (as := List.range row.length) (e := fun (j : Nat) => I (j : Int)) (wi_rngN (ad_cons (ed_lenRow (ed_var rfl)) ap_nil) (by omega)) (fun j => inP (dotL (b.drop j) row)) (by rw [List.length_range]; omega) fun j _ => ed_call (C := c_sum_of_products K) ⟨k, b.drop j, row⟩ (ad_cons (ed_var rfl) (ad_cons ((ed_slRow (r := b) (ed_var rfl) (od_some (i := (j : Int)) (ed_var rfl)) od_none).to (by rw [cutP_drop])) (ad_cons (ed_var rfl) ap_nil))) trivial fun _ h => h).to (by unfold condR; rw [List.map_map]; rfl))) (by rw [hX, List.length_map, List.length_take]; omega) ⟨_, _, rfl, ?_⟩
      rw [take_snoc q, List.map_append, ← hX]; rfl
    · rintro ρ1 ⟨X, u, rfl, hX⟩
      refine sd_retD (ed_tupL (el_own rfl)) ?_
      rw [List.take_length] at hX
      rw [hX]; rfl⟩
def c_maps_between (K : PySem.W.Frag) : Con := { α := (k : Fq) × Nat × Nat × List (List (El k)) × List (List (El k)), ok := fun a => SlOk a.2.1 a.2.2.1 ∧ Rom (wdt a.2.1 a.2.2.1) a.2.1 a.2.2.1 a.2.2.2.1 ∧ Rom (wdt a.2.1 a.2.2.1) a.2.1 a.2.2.1 a.2.2.2.2, args := fun a => [roomD K a.1 a.2.1 a.2.2.1 a.2.2.2.1, roomD K a.1 a.2.1 a.2.2.1 a.2.2.2.2], R := fun a d => d = .py (rsP (mapsR (wdt a.2.1 a.2.2.1) a.2.2.2.1 a.2.2.2.2)) }
abbrev s_maps_between : Stmt := tp 83
theorem sc_maps_between : FnScope ["one", "other", "row", "field", "width", "barred", "found"] ["one", "other"] (defScope s_maps_between) := ⟨rfl, rfl, rfl, by decide +kernel, rfl, by decide +kernel, by decide +kernel⟩
theorem fo_maps_between {f : Addr} {fd : FuncData} (F : FD K "maps_between" s_maps_between f fd) (g : mg "maps_between" = some (.ref f)) (T : Tk K mg) (G_across : FO P w K mg base 7 "across" (c_across K)) (G_plain_rows : FO P w K mg base 7 "plain_rows" (c_plain_rows K)) (G_conditions_for : FO P w K mg base 7 "conditions_for" (c_conditions_for K)) (G_width_of : FO P w K mg base 3 "width_of" (c_width_of K)) : FO P w K mg base 8 "maps_between" (c_maps_between K) :=
  fo_mk F g sc_maps_between (F.bindsN fun _ _ _ _ _ _ us hl => match us, hl with | [_, _], _ => rfl) (fun a _ => by first | rfl | (cases a; rfl)) fun cdv A outer s H E hr => ⟨_,
    (pss_cons (ps_par (i := 3) (j := 4) rfl sc_maps_between.nd rfl rfl (by decide) rfl rfl (pa_cons (pe_sl (pv 0)) (pa_cons (pe_fo G_width_of hr (by decide) (by rfl) (pa_cons (pe_sl (pv 0)) pa_nil)) pa_nil)) (by rfl))
    (pss_cons (ps_par (i := 5) (j := 6) rfl sc_maps_between.nd rfl rfl (by decide) rfl rfl (pa_cons (pe_fo G_across hr (by decide) (by rfl) (pa_cons (pv 3) (pa_cons (pv 4) (pa_cons (pe_sl (pv 1)) pa_nil)))) (pa_cons (pe_tup pa_nil) pa_nil)) (by rfl))
    (pss_cons (ps_for PassesOwn.never rfl (pi_tup (pe_sl (pv 0))) (pg_name (i := 2) sc_maps_between.nd rfl (Or.inl rfl)) (pss_one (ps_set (i := 6) sc_maps_between.nd rfl (Or.inl rfl) (pe_fo G_plain_rows hr (by decide) (by rfl) (pa_cons (pv 3) (pa_cons (pv 4) (pa_cons (pe_op op_catA (pv 6) (pe_fo G_conditions_for hr (by decide) (by rfl) (pa_cons (pv 3) (pa_cons (pv 2) (pa_cons (pv 5) pa_nil))))) pa_nil)))))))
    (pss_one (ps_ret (pe_fo G_across hr (by decide) (by rfl) (pa_cons (pv 3) (pa_cons (pv 4) (pa_cons (pv 6) pa_nil))))))))),
  fun δ F0 a ok => by
    obtain ⟨k, r, s, P, Q⟩ := a
    obtain ⟨h, hP, hQ⟩ := (show SlOk r s ∧ Rom (wdt r s) r s P ∧ Rom (wdt r s) r s Q from ok)
    have hw : wdt r s ≤ 24 := h.w
    have lP := hP.rl.le
    have lQ := hQ.rl.le
    have lB : (acr (wdt r s) Q).length ≤ wdt r s := RL.le acr_rl
    have hQl := hQ.rl.len
    have hPl := hP.rl.len
    have hX : ∀ i, (∀ x, x ∈ mapsG (wdt r s) (acr (wdt r s) Q) (P.take i) [] → x.length = wdt r s) ∧ (mapsG (wdt r s) (acr (wdt r s) Q) (P.take i) []).length ≤ wdt r s := fun i => mapsG_len _ _ (fun x hx => hPl x (List.mem_of_mem_take hx)) (fun x hx => by cases hx) (Nat.zero_le _)
    refine sd_seq (sd_parD (ed_at (ed_var rfl) T.cRoom T.room_field rfl) (ed_call (C := c_width_of K) (r, s) (ad_cons (ed_at (ed_var rfl) T.cRoom T.room_slope rfl) ap_nil) h fun _ h => h) ?_)
    refine sd_seq (sd_parD (ed_call (C := c_across K) ⟨k, wdt r s, Q⟩ (ad_cons (ed_var rfl) (ad_cons (ed_var rfl) (ad_cons (ed_at (ed_var rfl) T.cRoom T.room_basis rfl) ap_nil))) (show (∀ x, x ∈ Q → x.length = wdt r s) ∧ wdt r s ≤ 60 ∧ Q.length ≤ 60 from ⟨hQl, by omega, by omega⟩) fun _ h => h) (y := .py (rsP ([] : List (List (El k))))) (ed_tup (ds := []) ap_nil (by decide)) ?_)
    refine sd_seq (sd_forM (as := P) (e := fun r => .py (rP r)) (wi_rows (ed_at (ed_var rfl) T.cRoom T.room_basis rfl)) (fun i ρ1 => ∃ X u, ρ1 = [.fz (roomD K k r s P), .fz (roomD K k r s Q), u, .fz (fieldD K k), .fz (I ((wdt r s : Nat) : Int)), .fz (.py (rsP (acr (wdt r s) Q))), .fz (.py (rsP X))] ∧ X = mapsG (wdt r s) (acr (wdt r s) Q) (P.take i) []) ⟨[], _, rfl, rfl⟩ ?_ ?_)
    · rintro i row ρ1 q ⟨X, u, rfl, eX⟩
      obtain ⟨hXl, lX⟩ := hX i
      rw [← eX] at hXl lX
      have hrow := hPl row (List.mem_of_getElem? q)
      have lC : (conds row (acr (wdt r s) Q)).length ≤ wdt r s := by unfold conds; rw [List.length_map]; exact lB
      refine sd_asgD (ed_call (C := c_plain_rows K) ⟨k, wdt r s, X ++ conds row (acr (wdt r s) Q)⟩ (ad_cons (ed_var rfl) (ad_cons (ed_var rfl) (ad_cons (ed_catRs (ed_var rfl) (ed_call (C := c_conditions_for K) ⟨k, row, acr (wdt r s) Q⟩ (ad_cons (ed_var rfl) (ad_cons (ed_var rfl) (ad_cons (ed_var rfl) ap_nil))) (show row.length ≤ 1000 ∧ (acr (wdt r s) Q).length ≤ 1000 from ⟨by omega, by omega⟩) fun _ h => h) (by omega)) ap_nil))) (show (∀ x, x ∈ X ++ conds row (acr (wdt r s) Q) → x.length = wdt r s) ∧ wdt r s ≤ 60 ∧ (X ++ conds row (acr (wdt r s) Q)).length ≤ 60 from ⟨app_len2 hXl (conds_len hrow), by omega, by rw [List.length_append]; omega⟩) fun _ h => h) ⟨_, _, rfl, ?_⟩
      unfold mapsG at eX ⊢
      rw [take_snoc q, List.foldl_append, ← eX]; rfl
    · rintro ρ1 ⟨X, u, rfl, eX⟩
      obtain ⟨hXl, lX⟩ := hX P.length
      rw [← eX] at hXl lX
      refine sd_retD (ed_call (C := c_across K) ⟨k, wdt r s, X⟩ (ad_cons (ed_var rfl) (ad_cons (ed_var rfl) (ad_cons (ed_var rfl) ap_nil))) (show (∀ x, x ∈ X → x.length = wdt r s) ∧ wdt r s ≤ 60 ∧ X.length ≤ 60 from ⟨hXl, by omega, by omega⟩) fun _ h => h) ?_
      rw [List.take_length] at eX
      rw [eX]; rfl⟩
def c_factor (K : PySem.W.Frag) : Con := { α := (k : Fq) × Nat × Nat × List (List (El k)) × List (List (El k)), ok := fun a => SlOk a.2.1 a.2.2.1 ∧ Rom (wdt a.2.1 a.2.2.1) a.2.1 a.2.2.1 a.2.2.2.1 ∧ Rom (wdt a.2.1 a.2.2.1) a.2.1 a.2.2.1 a.2.2.2.2, args := fun a => [roomD K a.1 a.2.1 a.2.2.1 a.2.2.2.1, roomD K a.1 a.2.1 a.2.2.1 a.2.2.2.2], R := fun a d => d = facD (facR (wdt a.2.1 a.2.2.1) a.2.2.2.1 a.2.2.2.2) }
abbrev s_factor : Stmt := tp 84
theorem sc_factor : FnScope ["one", "other", "rows"] ["one", "other"] (defScope s_factor) := ⟨rfl, rfl, rfl, by decide +kernel, rfl, by decide +kernel, by decide +kernel⟩
theorem fo_factor {f : Addr} {fd : FuncData} (F : FD K "factor" s_factor f fd) (g : mg "factor" = some (.ref f)) (T : Tk K mg) (G_Room___len__ : MO P w K mg base 1 "Room" "__len__" (c_Room___len__ K)) (G_maps_between : FO P w K mg base 8 "maps_between" (c_maps_between K)) (G_width_of : FO P w K mg base 3 "width_of" (c_width_of K)) (G_require_like_room : FO P w K mg base 3 "require_like_room" (c_require_like_room K)) (G_require_room : FO P w K mg base 1 "require_room" (c_require_room K)) : FO P w K mg base 9 "factor" (c_factor K) :=
  fo_mk F g sc_factor (F.bindsN fun _ _ _ _ _ _ us hl => match us, hl with | [_, _], _ => rfl) (fun a _ => by first | rfl | (cases a; rfl)) fun cdv A outer s H E hr => ⟨_,
    (pss_cons (ps_expr (pe_fo G_require_room hr (by decide) (by rfl) (pa_cons (pv 0) pa_nil)))
    (pss_cons (ps_expr (pe_fo G_require_like_room hr (by decide) (by rfl) (pa_cons (pv 0) (pa_cons (pv 1) pa_nil))))
    (pss_cons (ps_if (pt_cmpR op_eq (pe_fo G_width_of hr (by decide) (by rfl) (pa_cons (pe_sl (pv 0)) pa_nil)) pe_int (nomark _)) (pss_one (ps_ret (pe_tup pa_nil))) pss_nil)
    (pss_cons (ps_set (i := 2) sc_factor.nd rfl (Or.inl rfl) (pe_ifExp (pt_cmpR op_eq (pe_callB (call_lenO G_Room___len__ hr (by decide)) (by rfl) T.len_ (by decide +kernel) (pa_cons (pv 0) pa_nil)) (pe_callB (call_lenO G_Room___len__ hr (by decide)) (by rfl) T.len_ (by decide +kernel) (pa_cons (pv 1) pa_nil)) (nomark _)) (pe_fo G_maps_between hr (by decide) (by rfl) (pa_cons (pv 0) (pa_cons (pv 1) pa_nil))) (pe_tup pa_nil)))
    (pss_one (ps_ret (pe_ifExp (PW.pt (pw_and (pt_cmpR (op_neD hr.units) (pv 2) (pe_tup pa_nil) (nomark _)) (pw_and1 (pt_cmpR op_ne (pe_ix ix_seq (pe_ix ix_seq (pv 2) pe_int (fun _ _ => rfl)) pe_int (fun _ _ => rfl)) pe_int (nomark _))))) (pe_ix ix_seq (pv 2) pe_int (fun _ _ => rfl)) pe_non))))))),
  fun δ F0 a ok => by
    obtain ⟨k, r, s, P, Q⟩ := a
    obtain ⟨h, hP, hQ⟩ := (show SlOk r s ∧ Rom (wdt r s) r s P ∧ Rom (wdt r s) r s Q from ok)
    have hw : wdt r s ≤ 24 := h.w
    have lP := hP.rl.le
    have lQ := hQ.rl.le
    refine sd_seq (sd_dropD (ed_call (C := c_require_room K) ⟨k, r, s, P⟩ (ad_cons (ed_var rfl) ap_nil) trivial fun _ h => h) ?_)
    refine sd_seq (sd_dropD (ed_call (C := c_require_like_room K) ⟨k, r, s, P, Q⟩ (ad_cons (ed_var rfl) (ad_cons (ed_var rfl) ap_nil)) trivial fun _ h => h) ?_)
    refine sd_seq (sd_ifD (bd_B (ed_eq (ed_call (C := c_width_of K) (r, s) (ad_cons (ed_at (ed_var rfl) T.cRoom T.room_slope rfl) ap_nil) h fun _ h => h) ed_int)) (fun e => ?_) fun e => sd_nx ?_)
    · have e2 : (wdt r s : Nat) = 0 := Int.ofNat_inj.mp (of_decide_eq_true e)
      refine sd_retD (ed_tup (ds := []) ap_nil (by decide)) ?_
      show D.py (.tuple []) = facD (facR (wdt r s) P Q)
      unfold facR
      rw [if_pos e2]; rfl
    have n0 : wdt r s ≠ 0 := fun z => of_decide_eq_false e (by show ((wdt r s : Nat) : Int) = 0; rw [z]; rfl)
    have hX : ∀ x, x ∈ (if P.length = Q.length then mapsR (wdt r s) P Q else []) → x.length = wdt r s := fun x hx => by
      split at hx
      · exact RL.len acr_rl x hx
      · cases hx
    refine sd_seq (sd_asgD (d := .py (rsP (if P.length = Q.length then mapsR (wdt r s) P Q else []))) (ed_if (bd_B (ed_eq (ed_lenO (C := c_Room___len__ K) (n := (P.length : Int)) ⟨k, r, s, P⟩ (ed_var rfl) (by omega) rfl trivial fun _ h => h) (ed_lenO (C := c_Room___len__ K) (n := (Q.length : Int)) ⟨k, r, s, Q⟩ (ed_var rfl) (by omega) rfl trivial fun _ h => h))) (fun e => ?_) fun e => ?_) ?_)
    · rw [if_pos (Int.ofNat_inj.mp (of_decide_eq_true e))]
      exact ed_call (C := c_maps_between K) ⟨k, r, s, P, Q⟩ (ad_cons (ed_var rfl) (ad_cons (ed_var rfl) ap_nil)) ok fun _ h => h
    · rw [if_neg fun z => of_decide_eq_false e (by rw [z])]
      exact ed_tup (ds := []) ap_nil (by decide)
    revert hX
    generalize eX : (if P.length = Q.length then mapsR (wdt r s) P Q else []) = X
    intro hX
    cases X with
    | nil =>
      refine sd_retD (ed_if (b := false) (BD.to (bd_and (b := false) (bd_test (ed_neRs (qs := ([] : List (List (El k)))) (ed_var rfl) (ed_tup (ds := []) ap_nil (by decide)))) fun e => by cases e) rfl) (fun e => by cases e) fun _ => ed_non) ?_
      show D.py .none = facD (facR (wdt r s) P Q)
      rw [fac_nil n0 eX]; rfl
    | cons g t =>
      have lg := hX g List.mem_cons_self
      refine sd_retD (d := facD (facR (wdt r s) P Q)) (ed_if (bd_and (bd_test (ed_neRs (qs := ([] : List (List (El k)))) (ed_var rfl) (ed_tup (ds := []) ap_nil (by decide)))) fun _ => bd_B (ed_ne (ed_rowAt (r := g) (i := 0) (ed_rsAt (i := 0) (ed_var rfl) ed_int rfl) ed_int (by omega)) ed_int)) (fun e => ?_) fun e => ?_) rfl
      · have nz : co g 0 ≠ 0 := fun z => by simp [z, inI_0] at e
        rw [fac_cons n0 eX]
        rw [if_pos nz]
        exact ed_rsAt (i := 0) (ed_var rfl) ed_int rfl
      · have zz : co g 0 = 0 := inI_zero.mp (by simpa using e)
        rw [fac_cons n0 eX]
        rw [if_neg (fun h => h zz)]
        exact ed_non⟩
end
end Dl
set_option Elab.async false
set_option linter.all false
set_option maxRecDepth 100000
set_option maxHeartbeats 4000000
namespace Dl
open PySem PySem.Spec PyProof.Rows L2 SlX Rm
section
variable {P : Program} {w : World} {K : PySem.W.Frag} {mg : Str → Option Value} {base : Heap}
theorem pe_poK {X : Cx} {K : PySem.W.Frag} {e : Expr} {ta : TE} {x f : Str} {pos : Pos} {j k : Nat} {C : Con} (G : PO X.prog X.w X.K X.mg X.base j x f C) (c : CLS X.K X.mg x) (hr : Room k X.A) (hjk : j + 1 ≤ k) (he : PE X e ta) (q : X.K = K := by rfl) (hb : attributeBase e f X.env (eval e X.env) = eval e X.env := by rfl) :
    PE X (.Attribute e f pos) (tPropSl (He.ga K x) (spD K C) E0 ta) := q ▸ pe_po G c hr hjk he hb
abbrev prP (p : Nat × Nat) : PyData := .tuple [.int (p.1 : Int), .int (p.2 : Int)]
def slP (r s : Nat) : Bool := decide ((r - 1) * (s - 1) ≤ 9) && !((List.range 6).any fun b => decide (r % (2 + b) = 0) && decide (s % (2 + b) = 0))
def slRow (i : Nat) : List (Nat × Nat) := ((List.range 11).filter fun j => slP (1 + i) (1 + j)).map fun j => (1 + i, 1 + j)
def slAll (m : Nat) : List (Nat × Nat) := (List.range m).flatMap slRow
theorem slAll_len (i : Nat) (h : i ≤ 7) : (slAll i).length ≤ 100 := by
  have key : ∀ i, i < 8 → (slAll i).length ≤ 100 := by decide
  exact key i (by omega)
theorem slAll_succ (i : Nat) : slAll (i + 1) = slAll i ++ slRow i := by
  unfold slAll
  rw [List.range_succ, List.flatMap_append]
  show _ ++ List.flatMap slRow [i] = _
  rw [List.flatMap_cons, List.flatMap_nil, List.append_nil]
theorem sl_ok : ∀ p, p ∈ slAll 7 → Nat.gcd p.1 p.2 = 1 ∧ 1 ≤ p.1 ∧ p.1 ≤ 60 ∧ 1 ≤ p.2 ∧ p.2 ≤ 60 ∧ wdt p.1 p.2 ≤ 9 := by decide +kernel
theorem dmod (a c : Nat) : decide (((a : Nat) : Int) % ((c : Nat) : Int) = 0) = decide (a % c = 0) := by
  rw [← Int.natCast_emod]
  exact decide_eq_decide.mpr ⟨fun h => Int.ofNat_inj.mp h, fun h => by rw [h]; rfl⟩
theorem dle (i j : Nat) : decide ((((1 + i : Nat) : Int) - 1) * (((1 + j : Nat) : Int) - 1) ≤ 9) = decide ((1 + i - 1) * (1 + j - 1) ≤ 9) := by
  have e1 : ((1 + i : Nat) : Int) - 1 = ((1 + i - 1 : Nat) : Int) := by omega
  have e2 : ((1 + j : Nat) : Int) - 1 = ((1 + j - 1 : Nat) : Int) := by omega
  rw [e1, e2, ← Int.natCast_mul]
  exact decide_eq_decide.mpr ⟨fun h => by omega, fun h => by omega⟩
theorem rl_zero {k : Fq} {P : List (List (El k))} (h : RL 0 P) : P = [] := List.length_eq_zero_iff.mp (Nat.le_zero.mp h.le)
theorem fac_some2 {k : Fq} {n r s : Nat} {P Q : List (List (El k))} {g : List (El k)} (hP : Rom n r s P) (hQ : Rom n r s Q) (e : facR n P Q = some g) : g.length = n ∧ (0 < n → co g 0 ≠ 0) ∧ byR P g = Q := by
  rcases Nat.eq_zero_or_pos n with z | z
  · subst z
    have e1 := rl_zero hP.rl
    have e2 := rl_zero hQ.rl
    subst e1 e2
    unfold facR at e
    rw [if_pos rfl] at e
    cases e
    exact ⟨rfl, fun h => absurd h (Nat.lt_irrefl 0), (rl_zero (by_rl (P := []) (g := []) (fun x hx => by cases hx) rfl))⟩
  · obtain ⟨a, b, c⟩ := fac_some hP hQ z e
    exact ⟨a, fun _ => b, c⟩
def c__law_room_slope (K : PySem.W.Frag) : Con := { α := Unit, ok := fun _ => True, args := fun _ => [.dice, I 9], R := fun _ d => ∃ r s : Nat, SlOk r s ∧ wdt r s ≤ 9 ∧ d = .py (.tuple [.int (r : Int), .int (s : Int)]) }
abbrev s__law_room_slope : Stmt := tp 102
theorem sc__law_room_slope : FnScope ["_law_dice_here", "_law_most", "_law_found", "_law_rises", "_law_steps", "_law_k"] ["_law_dice_here", "_law_most"] (defScope s__law_room_slope) := ⟨rfl, rfl, rfl, by decide +kernel, rfl, by decide +kernel, by decide +kernel⟩
theorem fo__law_room_slope {f : Addr} {fd : FuncData} (F : FD K "_law_room_slope" s__law_room_slope f fd) (g : mg "_law_room_slope" = some (.ref f)) (T : Tk K mg) (G__law_pick : FO P w K mg base 2 "_law_pick" (c__law_pick K)) (G__law_roll : FO P w K mg base 1 "_law_roll" (c__law_roll K)) : FO P w K mg base 3 "_law_room_slope" (c__law_room_slope K) :=
  fo_mk F g sc__law_room_slope (F.bindsN fun _ _ _ _ _ _ us hl => match us, hl with | [_, _], _ => rfl) (fun a _ => by first | rfl | (cases a; rfl)) fun cdv A outer s H E hr => ⟨_,
    (pss_cons (ps_set (i := 2) sc__law_room_slope.nd rfl (Or.inl rfl) (pe_lst pa_nil))
    (pss_cons (ps_for PassesOwn.never rfl (pi_range2 (by rfl) T.range_ (pa_cons pe_int (pa_cons pe_int pa_nil))) (pg_name (i := 3) sc__law_room_slope.nd rfl (Or.inr rfl)) (pss_one (ps_for PassesOwn.never rfl (pi_range2 (by rfl) T.range_ (pa_cons pe_int (pa_cons pe_int pa_nil))) (pg_name (i := 4) sc__law_room_slope.nd rfl (Or.inr rfl)) (pss_one (ps_if (PW.pt (pw_and (pt_cmpR op_le (pe_op op_mul (pe_op op_sub (pv 3) pe_int) (pe_op op_sub (pv 4) pe_int)) (pv 1) (nomark _)) (pw_and1 (pt_not (pt_val (pe_callB ((cr_any rfl)) (by rfl) T.any_ (by decide +kernel) (pa_cons (pe_lc rfl sc__law_room_slope.nd (pi_range2 (by rfl) T.range_ (pa_cons pe_int (pa_cons pe_int pa_nil))) (blkOk_by (N := ["_law_dice_here", "_law_most", "_law_found", "_law_rises", "_law_steps", "_law_k"]) (own := [("_law_k", 5)]) (sc := defScope s__law_room_slope) (by decide +kernel)) (g := gName 5) (tt := tYes) (fun _ _ _ _ _ => (pg_name (i := 5) sc__law_room_slope.nd rfl (Or.inl rfl))) (fun _ _ _ _ _ => pts_nil) (fun _ _ _ _ _ => (pe_and (pe_cmpR op_eq (pe_op op_mod (pv 3) (pv 5)) pe_int (nomark _)) (pe_one (pe_cmpR op_eq (pe_op op_mod (pv 4) (pv 5)) pe_int (nomark _)))))) pa_nil))))))) (pss_one (ps_expr (pe_bm PySem.F.plainAttrs_list PySem.F.slot_list_append PySem.F.type_list_append mt_append (pv 2) (pa_cons (pe_tup (pa_cons (pv 3) (pa_cons (pv 4) pa_nil))) pa_nil)))) pss_nil)))))
    (pss_one (ps_ret (pe_fo G__law_pick hr (by decide) (by rfl) (pa_cons (pv 0) (pa_cons (pe_ifExp (pt_cmpR op_gt (pe_fo G__law_roll hr (by decide) (by rfl) (pa_cons (pv 0) (pa_cons pe_int pa_nil))) pe_int (nomark _)) (pe_slice sl_list (pv 2) (po_some pe_int) po_none) (pv 2)) pa_nil))))))),
  fun δ F0 _ _ => by
    refine sd_seq (sd_asgNil ?_)
    refine sd_seq (sd_forRL (lo := 1) (n := 8) (ad_cons ed_int (ad_cons ed_int ap_nil)) (by decide) (by decide) (fun i ρ1 => ∃ X u v, ρ1 = [.fz .dice, .fz (I 9), .ow (X.map prP), u, v, .no] ∧ X = slAll i) ⟨[], _, _, rfl, rfl⟩ ?_ ?_)
    · rintro i ρ1 hi ⟨X, u, v, rfl, hX⟩
      refine sd_forRL (lo := 1) (n := 12) (ad_cons ed_int (ad_cons ed_int ap_nil)) (by decide) (by decide) (fun j ρ1 => ∃ Y v, ρ1 = [.fz .dice, .fz (I 9), .ow (Y.map prP), .fz (I ((1 + i : Nat) : Int)), v, .no] ∧ Y = X ++ ((List.range j).filter fun j => slP (1 + i) (1 + j)).map fun j => (1 + i, 1 + j)) ⟨X, _, rfl, by simp⟩ ?_ ?_
      · rintro j ρ1 hj ⟨Y, v, rfl, hY⟩
        have lY : Y.length ≤ 1000 := by
          have l1 := slAll_len i (by omega)
          have l2 := List.length_filter_le (fun j => slP (1 + i) (1 + j)) (List.range j)
          rw [List.length_range] at l2
          rw [hY, hX, List.length_append, List.length_map]
          omega
        refine sd_ifD (b := slP (1 + i) (1 + j)) (BD.to (bd_and (bd_B (ed_le (ed_mul (ed_sub (ed_var rfl) ed_int) (ed_sub (ed_var rfl) ed_int) (cmul_l (a := ((1 + i : Nat) : Int) - 1) (by omega) (by omega))) (ed_var rfl))) fun _ => bd_not (bd_test (ed_anyM (as := List.range 6) (g := fun b => decide ((1 + i) % (2 + b) = 0) && decide ((1 + j) % (2 + b) = 0)) (en_map (as := List.range 6) (e := fun (b : Nat) => I ((2 + b : Nat) : Int)) (wi_rngLo (lo := 2) (n := 8) (ad_cons ed_int (ad_cons ed_int ap_nil)) (by decide) (by decide)) (fun b => .bool (decide ((1 + i) % (2 + b) = 0) && decide ((1 + j) % (2 + b) = 0))) (by decide) fun b _ => (ed_andV (ed_eq (ed_mod (i := ((1 + i : Nat) : Int)) (j := ((2 + b : Nat) : Int)) (ed_var rfl) (ed_var rfl) (by omega)) ed_int) fun _ => ed_eq (ed_mod (i := ((1 + j : Nat) : Int)) (j := ((2 + b : Nat) : Int)) (ed_var rfl) (ed_var rfl) (by omega)) ed_int).to (by rw [dmod, dmod]))))) (by unfold slP; rw [dle])) (fun e => ?_) fun e => sd_nx ⟨Y, _, rfl, ?_⟩
        · refine sd_appM (f := prP) (xs := Y) (x := (1 + i, 1 + j)) rfl (ed_tup (ds := [.int ((1 + i : Nat) : Int), .int ((1 + j : Nat) : Int)]) (ad_cons (ed_var rfl) (ad_cons (ed_var rfl) ap_nil)) (by decide : 2 ≤ 100000)) (by omega) ⟨_, _, rfl, ?_⟩
          rw [filt_succ, if_pos e, List.map_append, hY, List.append_assoc]; rfl
        · rw [filt_succ, if_neg (by rw [e]; decide), List.append_nil, hY]
      · rintro ρ1 ⟨Y, v, rfl, hY⟩
        refine ⟨Y, _, _, rfl, ?_⟩
        rw [slAll_succ, hY, hX]; rfl
    · rintro ρ1 ⟨X, u, v, rfl, hX⟩
      have hX7 : X = slAll 7 := hX
      refine sd_freeze (i := 2) rfl (sd_ret (ep_call (C := c__law_pick K) (Ps := fun ds => ∃ ys, ds = [.dice, .py (.list (ys.map prP))] ∧ (ys = X ∨ ys = X.drop 11)) (ap_cons (P := fun d => d = .dice) (P2 := fun _ zs => ∃ ys, zs = [.py (.list (ys.map prP))] ∧ (ys = X ∨ ys = X.drop 11)) ((ed_var rfl).ep rfl) (fun _ _ => ap_cons (P := fun d => ∃ ys, d = .py (.list (ys.map prP)) ∧ (ys = X ∨ ys = X.drop 11)) (P2 := fun _ zs => zs = []) (ep_if (bp_cmp (ei_roll (m := 8) (ad_cons (ed_var rfl) (ad_cons ed_int ap_nil)) (by decide) (by decide)) (ei_of (P1 := fun _ => True) ed_int trivial)) (fun _ => (ed_en (en_slL (el_fz (ed_var rfl)) (od_some (i := 11) ed_int) od_none)).ep ⟨X.drop 11, by rw [show (11 : Int) = ((11 : Nat) : Int) from rfl, cutP_drop, List.map_drop], .inr rfl⟩) (fun _ => (ed_var rfl).ep ⟨X, rfl, .inl rfl⟩)) (fun _ _ => ap_nil) (by
        rintro _ _ ⟨ys, rfl, h⟩ rfl
        exact ⟨ys, rfl, h⟩)) (by
        rintro _ _ rfl ⟨ys, rfl, h⟩
        exact ⟨ys, rfl, h⟩)) ?_))
      rintro _ ⟨ys, rfl, h⟩
      have hne : ys ≠ [] ∧ ys.length ≤ 1000 ∧ ∀ p, p ∈ ys → p ∈ X := by
        rcases h with e | e
        · rw [e, hX7]; exact ⟨by decide, by decide, fun p h => h⟩
        · rw [e, hX7]; exact ⟨by decide, by decide, fun p h => List.mem_of_mem_drop h⟩
      refine ⟨ys.map prP, (show ys.map prP ≠ [] ∧ (ys.map prP).length ≤ 100000 from ⟨fun z => hne.1 (List.map_eq_nil_iff.mp z), by rw [List.length_map]; omega⟩), rfl, ?_⟩
      rintro d ⟨e, he, rfl⟩
      obtain ⟨p, hp, rfl⟩ := List.mem_map.mp he
      have hq := sl_ok p (by rw [← hX7]; exact hne.2.2 p hp)
      exact ⟨p.1, p.2, ⟨hq.1, hq.2.1, hq.2.2.1, hq.2.2.2.1, hq.2.2.2.2.1, Nat.le_trans hq.2.2.2.2.2 (by decide)⟩, hq.2.2.2.2.2, rfl⟩⟩
def c__law_leads (K : PySem.W.Frag) : Con := { α := (k : Fq) × Nat × List (List (El k)) × List (List (El k)) × List (El k), ok := fun a => (∀ x, x ∈ a.2.2.1 → x.length = a.2.1) ∧ a.2.2.2.2.length = a.2.1 ∧ a.2.1 ≤ 60 ∧ a.2.2.1.length ≤ 60, args := fun a => [.py (lawF a.1), I (a.2.1 : Int), .py (rsP a.2.2.1), .py (rsP a.2.2.2.1), .py (rP a.2.2.2.2)], R := fun a d => d = Bo (decide ((a.2.1 = 0 ∨ co a.2.2.2.2 0 ≠ 0) ∧ byR a.2.2.1 a.2.2.2.2 = a.2.2.2.1)) }
abbrev s__law_leads : Stmt := tp 106
theorem sc__law_leads : FnScope ["_law_field_here", "_law_width", "_law_one", "_law_other", "_law_row"] ["_law_field_here", "_law_width", "_law_one", "_law_other", "_law_row"] (defScope s__law_leads) := ⟨rfl, rfl, rfl, by decide +kernel, rfl, by decide +kernel, by decide +kernel⟩
theorem fo__law_leads {f : Addr} {fd : FuncData} (F : FD K "_law_leads" s__law_leads f fd) (g : mg "_law_leads" = some (.ref f)) (T : Tk K mg) (G__law_product : FO P w K mg base 3 "_law_product" (c__law_product K)) : FO P w K mg base 4 "_law_leads" (c__law_leads K) :=
  fo_mk F g sc__law_leads (F.bindsN fun _ _ _ _ _ _ us hl => match us, hl with | [_, _, _, _, _], _ => rfl) (fun a _ => by first | rfl | (cases a; rfl)) fun cdv A outer s H E hr => ⟨_,
    (pss_one (ps_ret (pe_and (pe_or (pe_cmpR op_eq (pv 1) pe_int (nomark _)) (pe_one (pe_cmpR op_ne (pe_ix ix_seq (pv 4) pe_int (fun _ _ => rfl)) pe_int (nomark _)))) (pe_one (pe_cmpR (op_eqD hr.units) (pe_fo G__law_product hr (by decide) (by rfl) (pa_cons (pv 0) (pa_cons (pv 1) (pa_cons (pv 2) (pa_cons (pv 4) pa_nil))))) (pv 3) (nomark _)))))),
  fun δ F0 a ok => by
    obtain ⟨k, n, P, Q, g⟩ := a
    obtain ⟨hl, hg, hn, hP⟩ := (show (∀ x, x ∈ P → x.length = n) ∧ g.length = n ∧ n ≤ 60 ∧ P.length ≤ 60 from ok)
    refine sd_retD (ed_andV (ed_orV (ed_eq (ed_var rfl) ed_int) fun e => ed_ne (ed_rowAt (r := g) (i := 0) (ed_var rfl) ed_int (by have z : ¬ ((n : Nat) : Int) = 0 := of_decide_eq_false e; omega)) ed_int) fun _ => ed_eqRs (ed_call (C := c__law_product K) ⟨k, n, P, g⟩ (ad_cons (ed_var rfl) (ad_cons (ed_var rfl) (ad_cons (ed_var rfl) (ad_cons (ed_var rfl) ap_nil)))) ⟨hl, hg, hn, hP⟩ fun _ h => h) (ed_var rfl)) ?_
    show D.py (.bool ((decide (((n : Nat) : Int) = 0) || !decide (inI (co g 0) = 0)) && decide (byR P g = Q))) = D.py (.bool (decide ((n = 0 ∨ co g 0 ≠ 0) ∧ byR P g = Q)))
    congr 2
    rw [Bool.eq_iff_iff]
    simp [inI_zero]⟩
def c__law_is_factor (K : PySem.W.Frag) : Con := { α := (k : Fq) × Nat × Nat × List (List (El k)) × List (List (El k)), ok := fun a => SlOk a.2.1 a.2.2.1 ∧ Rom (wdt a.2.1 a.2.2.1) a.2.1 a.2.2.1 a.2.2.2.1 ∧ Rom (wdt a.2.1 a.2.2.1) a.2.1 a.2.2.1 a.2.2.2.2, args := fun a => [.py (lawF a.1), I ((wdt a.2.1 a.2.2.1 : Nat) : Int), roomD K a.1 a.2.1 a.2.2.1 a.2.2.2.1, roomD K a.1 a.2.1 a.2.2.1 a.2.2.2.2], R := fun _ d => d = Bo true }
abbrev s__law_is_factor : Stmt := tp 107
theorem sc__law_is_factor : FnScope ["_law_field_here", "_law_width", "_law_one", "_law_other", "_law_told", "_law_total", "_law_turn", "_law_row"] ["_law_field_here", "_law_width", "_law_one", "_law_other"] (defScope s__law_is_factor) := ⟨rfl, rfl, rfl, by decide +kernel, rfl, by decide +kernel, by decide +kernel⟩
theorem fo__law_is_factor {f : Addr} {fd : FuncData} (F : FD K "_law_is_factor" s__law_is_factor f fd) (g : mg "_law_is_factor" = some (.ref f)) (T : Tk K mg) (G__law_all_rows : FO P w K mg base 1 "_law_all_rows" (c__law_all_rows K)) (G__law_leads : FO P w K mg base 4 "_law_leads" (c__law_leads K)) (G_Room_basis : PO P w K mg base 1 "Room" "basis" (c_Room_basis K)) (G_Room___eq__ : MO P w K mg base 2 "Room" "__eq__" (c_Room___eq__ K)) (G_Room_by_row : MO P w K mg base 13 "Room" "by_row" (c_Room_by_row K)) (G_factor : FO P w K mg base 9 "factor" (c_factor K)) : FO P w K mg base 14 "_law_is_factor" (c__law_is_factor K) :=
  fo_mk F g sc__law_is_factor (F.bindsN fun _ _ _ _ _ _ us hl => match us, hl with | [_, _, _, _], _ => rfl) (fun a _ => by first | rfl | (cases a; rfl)) fun cdv A outer s H E hr => ⟨_,
    (pss_cons (ps_set (i := 4) sc__law_is_factor.nd rfl (Or.inl rfl) (pe_fo G_factor hr (by decide) (by rfl) (pa_cons (pv 2) (pa_cons (pv 3) pa_nil))))
    (pss_cons (ps_if (pt_cmpR op_notN (pv 4) pe_non (nomark _)) (pss_cons (ps_if (PW.pt (pw_or (pt_cmpR op_ne (pe_callB ((call_len_seq)) (by rfl) T.len_ (by decide +kernel) (pa_cons (pv 4) pa_nil)) (pv 1) (nomark _)) (pw_or1 (pt_cmpR (op_neO G_Room___eq__ T.cRoom T.neRoom hr (by decide)) (pe_mo G_Room_by_row T.cRoom hr (by decide) (pv 2) (pa_cons (pv 4) pa_nil)) (pv 3) (nomark _))))) (pss_one (ps_ret pe_bl)) pss_nil)
    (pss_one (ps_ret (pe_fo G__law_leads hr (by decide) (by rfl) (pa_cons (pv 0) (pa_cons (pv 1) (pa_cons (pe_po G_Room_basis T.cRoom hr (by decide) (pv 2)) (pa_cons (pe_po G_Room_basis T.cRoom hr (by decide) (pv 3)) (pa_cons (pv 4) pa_nil))))))))) pss_nil)
    (pss_cons (ps_set (i := 5) sc__law_is_factor.nd rfl (Or.inl rfl) pe_int)
    (pss_cons (ps_for PassesOwn.never rfl (pi_range1 (by rfl) T.range_ (pa_cons (pv 1) pa_nil)) (pg_name (i := 6) sc__law_is_factor.nd rfl (Or.inl rfl)) (pss_one (ps_set (i := 5) sc__law_is_factor.nd rfl (Or.inl rfl) (pe_op op_mul (pv 5) (pe_ix ix_seq (pv 0) pe_int (fun _ _ => rfl))))))
    (pss_cons (ps_if (pt_cmpR op_gt (pv 5) pe_int (nomark _)) (pss_one (ps_ret pe_bl)) pss_nil)
    (pss_one (ps_ret (pe_not (pe_callB ((cr_any rfl)) (by rfl) T.any_ (by decide +kernel) (pa_cons (pe_lc rfl sc__law_is_factor.nd (pi_list (pe_fo G__law_all_rows hr (by decide) (by rfl) (pa_cons (pv 0) (pa_cons (pv 1) pa_nil)))) (blkOk_by (N := ["_law_field_here", "_law_width", "_law_one", "_law_other", "_law_told", "_law_total", "_law_turn", "_law_row"]) (own := [("_law_row", 7)]) (sc := defScope s__law_is_factor) (by decide +kernel)) (g := gName 7) (tt := tYes) (fun _ _ _ _ _ => (pg_name (i := 7) sc__law_is_factor.nd rfl (Or.inl rfl))) (fun _ _ _ _ _ => pts_nil) (fun _ _ _ _ _ => (pe_foK (K := K) G__law_leads hr (by decide) (by rfl) (pa_cons (pv 0) (pa_cons (pv 1) (pa_cons (pe_poK (K := K) G_Room_basis T.cRoom hr (by decide) (pv 2)) (pa_cons (pe_poK (K := K) G_Room_basis T.cRoom hr (by decide) (pv 3)) (pa_cons (pv 7) pa_nil)))))))) pa_nil)))))))))),
  fun δ F0 a ok => by
    obtain ⟨k, r, s, P, Q⟩ := a
    obtain ⟨h, hP, hQ⟩ := (show SlOk r s ∧ Rom (wdt r s) r s P ∧ Rom (wdt r s) r s Q from ok)
    have hw : wdt r s ≤ 24 := h.w
    have lP := hP.rl.le
    have hPl := hP.rl.len
    have k9 := k.le9
    refine sd_seq (sd_asgD (ed_call (C := c_factor K) ⟨k, r, s, P, Q⟩ (ad_cons (ed_var rfl) (ad_cons (ed_var rfl) ap_nil)) ⟨h, hP, hQ⟩ fun _ h => h) ?_)
    cases eF : facR (wdt r s) P Q with
    | some g =>
      obtain ⟨lg, g0, eg⟩ := fac_some2 hP hQ eF
      refine sd_seq (sd_ifD (bd_B (ed_notN (ed_var rfl))) (fun _ => ?_) fun e => by cases e)
      refine sd_seq (sd_ifD (b := false) (BD.to (bd_or (bd_B (ed_ne (ed_lenRow (r := g) (ed_var rfl)) (ed_var rfl))) fun _ => bd_test (ed_neO (C := c_Room___eq__ K) (b := true) ⟨k, r, s, byR P g, Q⟩ (ed_meth (C := c_Room_by_row K) ⟨k, r, s, P, g⟩ (ed_var rfl) (ad_cons (ed_var rfl) ap_nil) rfl (show SlOk r s ∧ Rom (wdt r s) r s P ∧ g.length = wdt r s ∧ (0 < wdt r s → co g 0 ≠ 0) from ⟨h, hP, lg, g0⟩) fun _ h => h) (ed_var rfl) nf_self rfl trivial fun _ z => z.trans (by show D.py (.bool (decide (byR P g = Q))) = _; rw [eg]; simp))) (by rw [lg]; simp)) (fun e => by cases e) fun _ => sd_nx ?_)
      refine sd_retD (ed_call (C := c__law_leads K) ⟨k, wdt r s, P, Q, g⟩ (ad_cons (ed_var rfl) (ad_cons (ed_var rfl) (ad_cons (ed_prop (C := c_Room_basis K) ⟨k, r, s, P⟩ (ed_var rfl) rfl trivial fun _ h => h) (ad_cons (ed_prop (C := c_Room_basis K) ⟨k, r, s, Q⟩ (ed_var rfl) rfl trivial fun _ h => h) (ad_cons (ed_var rfl) ap_nil))))) (show (∀ x, x ∈ P → x.length = wdt r s) ∧ g.length = wdt r s ∧ wdt r s ≤ 60 ∧ P.length ≤ 60 from ⟨hPl, lg, by omega, by omega⟩) fun _ h => h) ?_
      show D.py (.bool (decide ((wdt r s = 0 ∨ co g 0 ≠ 0) ∧ byR P g = Q))) = D.py (.bool true)
      rw [decide_eq_true ⟨(Nat.eq_zero_or_pos (wdt r s)).imp id g0, eg⟩]
    | none =>
      obtain ⟨n0, hno⟩ := fac_none hP hQ eF
      refine sd_seq (sd_ifD (bd_B (ed_notN (ed_var rfl))) (fun e => by cases e) fun _ => sd_nx ?_)
      refine sd_seq (sd_asgD ed_int ?_)
      refine sd_seq (sd_forR (n := wdt r s) (ad_cons (ed_var rfl) ap_nil) (by omega) (fun i ρ1 => ∃ u, ρ1 = [.fz (.py (lawF k)), .fz (I ((wdt r s : Nat) : Int)), .fz (roomD K k r s P), .fz (roomD K k r s Q), .fz (.py .none), .fz (I ((k.n ^ i : Nat) : Int)), u, .no]) ⟨_, rfl⟩ ?_ ?_)
      · rintro i ρ1 hi ⟨u, rfl⟩
        exact sd_asgD ((ed_mul (ed_var rfl) (ed_lawSize (ed_var rfl)) (cmul_r (by omega) (by omega))).to (by rw [← Int.natCast_mul, ← Nat.pow_succ])) ⟨_, rfl⟩
      · rintro ρ1 ⟨u, rfl⟩
        refine sd_seq (sd_ifD (bd_B (ed_gt (ed_var rfl) ed_int)) (fun _ => sd_retD ed_bl rfl) fun e => sd_nx ?_)
        have hq : k.n ^ wdt r s ≤ 256 := by have z : ¬ (256 : Int) < ((k.n ^ wdt r s : Nat) : Int) := of_decide_eq_false e; omega
        refine sd_retD (ed_notV (ed_anyM (as := allR k (wdt r s)) (g := fun g => decide ((wdt r s = 0 ∨ co g 0 ≠ 0) ∧ byR P g = Q)) (en_map (as := allR k (wdt r s)) (wi_listM (f := rP) (ed_call (C := c__law_all_rows K) (k, wdt r s) (ad_cons (ed_var rfl) (ad_cons (ed_var rfl) ap_nil)) (show k.n ^ wdt r s ≤ 256 ∧ wdt r s ≤ 60 from ⟨hq, by omega⟩) fun _ h => h)) (fun g => .bool (decide ((wdt r s = 0 ∨ co g 0 ≠ 0) ∧ byR P g = Q))) (by rw [allR_cnt]; omega) fun g hg => ed_call (C := c__law_leads K) ⟨k, wdt r s, P, Q, g⟩ (ad_cons (ed_var rfl) (ad_cons (ed_var rfl) (ad_cons (ed_prop (C := c_Room_basis K) ⟨k, r, s, P⟩ (ed_var rfl) rfl trivial fun _ h => h) (ad_cons (ed_prop (C := c_Room_basis K) ⟨k, r, s, Q⟩ (ed_var rfl) rfl trivial fun _ h => h) (ad_cons (ed_var rfl) ap_nil))))) (show (∀ x, x ∈ P → x.length = wdt r s) ∧ g.length = wdt r s ∧ wdt r s ≤ 60 ∧ P.length ≤ 60 from ⟨hPl, allR_len k _ g hg, by omega, by omega⟩) fun _ h => h))) ?_
        show D.py (.bool (!((allR k (wdt r s)).any fun g => decide ((wdt r s = 0 ∨ co g 0 ≠ 0) ∧ byR P g = Q)))) = D.py (.bool true)
        have z : ((allR k (wdt r s)).any fun g => decide ((wdt r s = 0 ∨ co g 0 ≠ 0) ∧ byR P g = Q)) = false := by
          rw [List.any_eq_false]
          intro g hg
          rw [decide_eq_true_eq]
          rintro ⟨h1, h2⟩
          exact hno g (allR_len k _ g hg) (h1.resolve_left (by omega)) h2
        rw [z]; rfl⟩
end
end Dl
set_option Elab.async false
set_option linter.all false
set_option maxRecDepth 100000
set_option maxHeartbeats 4000000
namespace Dl
open PySem PySem.Spec PyProof.Rows L2 SlX Rm
section
variable {P : Program} {w : World} {K : PySem.W.Frag} {mg : Str → Option Value} {base : Heap}
theorem sizes_fq (i : Int) (h : i ∈ ([2, 3, 4, 5, 7, 8, 9] : List Int)) : ∃ k : Fq, i = (k.n : Int) := by
  simp only [List.mem_cons, List.not_mem_nil, or_false] at h
  rcases h with e | e | e | e | e | e | e
  all_goals subst e
  · exact ⟨.f2, rfl⟩
  · exact ⟨.f3, rfl⟩
  · exact ⟨.f4, rfl⟩
  · exact ⟨.f5, rfl⟩
  · exact ⟨.f7, rfl⟩
  · exact ⟨.f8, rfl⟩
  · exact ⟨.f9, rfl⟩
theorem prod_lead {k : Fq} {n : Nat} {x y : List (El k)} (hx : x.length = n) (hy : y.length = n) (x0 : 0 < n → co x 0 ≠ 0) (y0 : 0 < n → co y 0 ≠ 0) : 0 < n → co (prodP x y) 0 ≠ 0 := fun h => by
  rw [(prodP_ok hx hy).2, pV_at h fun j hj => absurd hj (Nat.not_lt_zero j)]
  exact mul_ne (x0 h) (y0 h)
theorem fac_yes {k : Fq} {n r s : Nat} {P Q : List (List (El k))} {g : List (El k)} (hP : Rom n r s P) (hQ : Rom n r s Q) (lg : g.length = n) (g0 : 0 < n → co g 0 ≠ 0) (e : byR P g = Q) : (facR n P Q).isNone = false := by
  cases q : facR n P Q with
  | some _ => rfl
  | none =>
    obtain ⟨h0, h1⟩ := fac_none hP hQ q
    exact absurd e (h1 g lg (g0 h0))
theorem fac_same {k : Fq} {n r s : Nat} {P Q : List (List (El k))} (hP : Rom n r s P) (hQ : Rom n r s Q) : (facR n P Q).isNone = (facR n Q P).isNone := by
  cases q : facR n P Q with
  | none => rw [fac_sym hP hQ q]
  | some g =>
    cases q2 : facR n Q P with
    | none => rw [fac_sym hQ hP q2] at q; cases q
    | some _ => rfl
abbrev s__law_dice : Stmt := tp 86
theorem sc__law_dice : FnScope ["_law_script", "_law_spot", "_law_cell", "_law_left"] ["_law_script", "_law_spot"] (defScope s__law_dice) := ⟨rfl, rfl, rfl, by decide +kernel, rfl, by decide +kernel, by decide +kernel⟩
theorem fs__law_dice {f : Addr} {fd : FuncData} (F : FD K "_law_dice" s__law_dice f fd) (g : mg "_law_dice" = some (.ref f)) (T : Tk K mg) : FOS P w K mg base 1 "_law_dice" (spDice K) :=
  fos_dice F g sc__law_dice (F.bindsN fun _ _ _ _ _ _ us hl => match us, hl with | [_, _], _ => rfl) rfl fun cdv A outer s H E hr => ⟨_,
    (pss_cons (ps_set (i := 2) sc__law_dice.nd rfl (Or.inl rfl) (pe_ifExp (pt_cmpR op_lt (pv 1) (pe_callB ((call_len_seq)) (by rfl) T.len_ (by decide +kernel) (pa_cons (pv 0) pa_nil)) (nomark _)) (pe_callTy call_int1 (by rfl) T.int_ (by decide +kernel) (pa_cons (pe_ix ix_seq (pv 0) (pv 1) (fun _ _ => rfl)) pa_nil)) (pe_op op_add (pe_op op_mul pe_int (pv 1)) pe_int)))
    (pss_cons (ps_set (i := 3) sc__law_dice.nd rfl (Or.inl rfl) (pe_op op_mod (pe_callB (call_max2 rfl) (by rfl) T.max_ (by decide +kernel) (pa_cons pe_int (pa_cons (pe_op op_sub (pe_callB (call_abs) (by rfl) T.abs_ (by decide +kernel) (pa_cons (pv 2) pa_nil)) (pe_op op_pow pe_int pe_int)) pa_nil))) (pe_op op_mulW (pe_op op_pow pe_int pe_int) (pe_op op_pow pe_int pe_int))))
    (pss_one (ps_ret (pe_lst (pa_cons (pv 3) (pa_cons (pe_op op_add (pe_op op_add (pe_op op_add (pe_op op_mul (pe_op op_mod (pe_callB (call_abs) (by rfl) T.abs_ (by decide +kernel) (pa_cons (pv 2) pa_nil)) pe_int) pe_int) (pe_op op_mul pe_int (pv 1))) (pe_op op_mul pe_int (pe_callTy call_int1 (by rfl) T.int_ (by decide +kernel) (pa_cons (pe_cmpR op_lt (pv 2) pe_int (nomark _)) pa_nil)))) pe_int) (pa_cons pe_int pa_nil)))))))),
  fun δ F0 ns i hi => by
    refine sdr_seq (sd_asgD (d := I (if i < ns.length then ns.getD i 0 else 97 * (i : Int) + 53)) (ed_if (bd_B (ed_lt (ed_var rfl) (ed_lenL (el_fz (ed_var rfl))))) (fun e => ?_) fun e => ?_) ?_)
    · have h : i < ns.length := by have z := of_decide_eq_true e; rw [List.length_map] at z; omega
      exact (ed_intI (ed_ixLI (l := ns) (i := i) (el_fz (ed_var rfl)) (ed_var rfl) (getD_q h))).to (by rw [if_pos h])
    · have h : ¬ i < ns.length := by have z := of_decide_eq_false e; rw [List.length_map] at z; omega
      exact (ed_add (ed_mul ed_int (ed_var rfl) (cmul_l (by decide) (by decide))) ed_int).to (by rw [if_neg h])
    refine sdr_seq (sd_asgD (ed_mod (ed_max2 ed_int (ed_sub (ed_abs (ed_var rfl)) (ed_pow ed_int ed_int (⟨by decide, by decide, by decide⟩ : CPow 10 16)))) (ed_mulW (ed_pow ed_int ed_int (⟨by decide, by decide, by decide⟩ : CPow 10 60)) (ed_pow ed_int ed_int (⟨by decide, by decide, by decide⟩ : CPow 10 60)) (by unfold CMulW; decide +kernel)) (by decide +kernel)) ?_)
    exact sdr_ret (en_lst (ds := [.int _, .int _, .int 0]) (ad_cons (ed_var rfl) (ad_cons (ed_add (ed_add (ed_add (ed_mul (ed_mod (ed_abs (ed_var rfl)) ed_int (by decide)) ed_int (cmul_r (by decide) (by decide))) (ed_mul ed_int (ed_var rfl) (cmul_l (by decide) (by decide)))) (ed_mul ed_int (ed_intB (ed_lt (ed_var rfl) ed_int)) (cmul_l (by decide) (by decide)))) ed_int) (ad_cons ed_int ap_nil))) (by decide : 3 ≤ 100000))⟩
def c__law_right (K : PySem.W.Frag) : Con := { α := Unit, ok := fun _ => True, args := fun _ => [.dice], R := fun _ d => d = Bo true }
abbrev s__law_right : Stmt := tp 108
theorem sc__law_right : FnScope ["_law_dice_here", "_law_field_here", "_law_other", "_law_back", "_law_rises", "_law_steps", "_law_made", "_law_slope", "_law_width", "_law_one", "_law_two", "_law_first", "_law_second", "_law_turn"] ["_law_dice_here"] (defScope s__law_right) := ⟨rfl, rfl, rfl, by decide +kernel, rfl, by decide +kernel, by decide +kernel⟩
theorem fg__law_right {f : Addr} {fd : FuncData} (F : FD K "_law_right" s__law_right f fd) (T : Tk K mg) (G_factor : FO P w K mg base 9 "factor" (c_factor K)) (G__law_is_factor : FO P w K mg base 14 "_law_is_factor" (c__law_is_factor K)) (G_Room___eq__ : MO P w K mg base 2 "Room" "__eq__" (c_Room___eq__ K)) (G_Room_by_row : MO P w K mg base 13 "Room" "by_row" (c_Room_by_row K)) (G_Room___add__ : MO P w K mg base 13 "Room" "__add__" (c_Room___add__ K)) (G__law_row_inverse : FO P w K mg base 1 "_law_row_inverse" (c__law_row_inverse K)) (G__law_row_product : FO P w K mg base 1 "_law_row_product" (c__law_row_product K)) (G_Shelf___eq__ : MO P w K mg base 2 "Shelf" "__eq__" (c_Shelf___eq__ K)) (G_Room_shelf : PO P w K mg base 6 "Room" "shelf" (c_Room_shelf K)) (G_Room_basis : PO P w K mg base 1 "Room" "basis" (c_Room_basis K)) (G__law_product : FO P w K mg base 3 "_law_product" (c__law_product K)) (G__law_first_row : FO P w K mg base 3 "_law_first_row" (c__law_first_row K)) (G_Room___init__ : CO P w K mg base 11 "Room" (c_Room___init__ K)) (G__law_room_drawn : FO P w K mg base 4 "_law_room_drawn" (c__law_room_drawn K)) (G_Slope___init__ : CO P w K mg base 4 "Slope" (c_Slope___init__ K)) (G_Field___init__ : CO P w K mg base 3 "Field" (c_Field___init__ K)) (G__law_room_slope : FO P w K mg base 3 "_law_room_slope" (c__law_room_slope K)) (G__law_field : FO P w K mg base 4 "_law_field" (c__law_field K)) (G__law_pick : FO P w K mg base 2 "_law_pick" (c__law_pick K)) : FnG P w K mg base 15 f fd ["_law_dice_here"] (spD K (c__law_right K)) :=
  fng_mk F sc__law_right (fun _ _ => rfl) fun cdv A outer s H E hr hgd => ⟨_,
    (pss_cons (ps_set (i := 1) sc__law_right.nd rfl (Or.inr rfl) (pe_fo G__law_field hr (by decide) (by rfl) (pa_cons (pe_fo G__law_pick hr (by decide) (by rfl) (pa_cons (pv 0) (pa_cons (pe_lst (pa_cons pe_int (pa_cons pe_int (pa_cons pe_int (pa_cons pe_int (pa_cons pe_int (pa_cons pe_int (pa_cons pe_int pa_nil)))))))) pa_nil))) pa_nil)))
    (pss_cons (ps_asg (pe_fo G__law_room_slope hr (by decide) (by rfl) (pa_cons (pv 0) (pa_cons pe_int pa_nil))) (pg_tup rfl (pgs_cons (pg_name (i := 4) sc__law_right.nd rfl (Or.inr rfl)) (pgs_cons (pg_name (i := 5) sc__law_right.nd rfl (Or.inr rfl)) pgs_nil))))
    (pss_cons (ps_asg (pe_tup (pa_cons (pe_co G_Field___init__ hr (by decide) (by rfl) (pa_cons (pe_ix ix_seq (pv 1) pe_int (fun _ _ => rfl)) pa_nil)) (pa_cons (pe_co G_Slope___init__ hr (by decide) (by rfl) (pa_cons (pv 4) (pa_cons (pv 5) pa_nil))) (pa_cons (pe_op op_mul (pe_op op_sub (pv 4) pe_int) (pe_op op_sub (pv 5) pe_int)) pa_nil)))) (pg_tup rfl (pgs_cons (pg_name (i := 6) sc__law_right.nd rfl (Or.inr rfl)) (pgs_cons (pg_name (i := 7) sc__law_right.nd rfl (Or.inr rfl)) (pgs_cons (pg_name (i := 8) sc__law_right.nd rfl (Or.inl rfl)) pgs_nil)))))
    (pss_cons (ps_asg (pe_lc rfl sc__law_right.nd (pi_range1 (by rfl) T.range_ (pa_cons pe_int pa_nil)) (blkOk_by (N := ["_law_dice_here", "_law_field_here", "_law_other", "_law_back", "_law_rises", "_law_steps", "_law_made", "_law_slope", "_law_width", "_law_one", "_law_two", "_law_first", "_law_second", "_law_turn"]) (own := [("_law_turn", 13)]) (sc := defScope s__law_right) (by decide +kernel)) (g := gName 13) (tt := tYes) (fun _ _ _ _ _ => (pg_name (i := 13) sc__law_right.nd rfl (Or.inl rfl))) (fun _ _ _ _ _ => pts_nil) (fun _ _ _ _ _ => (pe_coK (K := K) G_Room___init__ hr (by decide) (by rfl) (pa_cons (pv 6) (pa_cons (pv 7) (pa_cons (pe_foK (K := K) G__law_room_drawn hr (by decide) (by rfl) (pa_cons (pv 0) (pa_cons (pv 1) (pa_cons (pv 4) (pa_cons (pv 5) pa_nil))))) pa_nil)))))) (pg_unl rfl (pgs_cons (pg_name (i := 9) sc__law_right.nd rfl (Or.inl rfl)) (pgs_cons (pg_name (i := 10) sc__law_right.nd rfl (Or.inl rfl)) pgs_nil))))
    (pss_cons (ps_par (i := 11) (j := 12) rfl sc__law_right.nd rfl rfl (by decide) rfl rfl (pa_cons (pe_fo G__law_first_row hr (by decide) (by rfl) (pa_cons (pv 0) (pa_cons (pv 1) (pa_cons (pv 8) pa_nil)))) (pa_cons (pe_fo G__law_first_row hr (by decide) (by rfl) (pa_cons (pv 0) (pa_cons (pv 1) (pa_cons (pv 8) pa_nil)))) pa_nil)) (by rfl))
    (pss_cons (ps_set (i := 2) sc__law_right.nd rfl (Or.inl rfl) (pe_mo G_Room_by_row T.cRoom hr (by decide) (pv 9) (pa_cons (pv 11) pa_nil)))
    (pss_cons (ps_if (PW.pt (pw_or (pt_cmpR op_ne (pe_callB (call_reprT hgd hr.units) (by rfl) T.repr_ (by decide +kernel) (pa_cons (pe_po G_Room_basis T.cRoom hr (by decide) (pv 2)) pa_nil)) (pe_callB (call_reprT hgd hr.units) (by rfl) T.repr_ (by decide +kernel) (pa_cons (pe_fo G__law_product hr (by decide) (by rfl) (pa_cons (pv 1) (pa_cons (pv 8) (pa_cons (pe_po G_Room_basis T.cRoom hr (by decide) (pv 9)) (pa_cons (pv 11) pa_nil))))) pa_nil)) (nomark _)) (pw_or1 (pt_cmpR (op_neO G_Shelf___eq__ T.cShelf T.neShelf hr (by decide)) (pe_po G_Room_shelf T.cRoom hr (by decide) (pv 2)) (pe_po G_Room_shelf T.cRoom hr (by decide) (pv 9)) (nomark _))))) (pss_one (ps_ret pe_bl)) pss_nil)
    (pss_cons (ps_if (pt_cmpR (op_neO G_Room___eq__ T.cRoom T.neRoom hr (by decide)) (pe_mo G_Room_by_row T.cRoom hr (by decide) (pv 2) (pa_cons (pv 12) pa_nil)) (pe_mo G_Room_by_row T.cRoom hr (by decide) (pv 9) (pa_cons (pe_fo G__law_row_product hr (by decide) (by rfl) (pa_cons (pv 1) (pa_cons (pv 11) (pa_cons (pv 12) pa_nil)))) pa_nil)) (nomark _)) (pss_one (ps_ret pe_bl)) pss_nil)
    (pss_cons (ps_set (i := 3) sc__law_right.nd rfl (Or.inl rfl) (pe_ifExp (pt_cmpR op_gt (pv 8) pe_int (nomark _)) (pe_fo G__law_row_inverse hr (by decide) (by rfl) (pa_cons (pv 1) (pa_cons (pv 11) pa_nil))) (pe_tup pa_nil)))
    (pss_cons (ps_if (PW.pt (pw_or (pt_cmpR (op_neO G_Room___eq__ T.cRoom T.neRoom hr (by decide)) (pe_mo G_Room_by_row T.cRoom hr (by decide) (pv 2) (pa_cons (pv 3) pa_nil)) (pv 9) (nomark _)) (pw_or1 (pt_cmpR (op_neO G_Room___eq__ T.cRoom T.neRoom hr (by decide)) (pe_mo G_Room_by_row T.cRoom hr (by decide) (pe_op (op_addO G_Room___add__ T.sfRoom hr (by decide)) (pv 9) (pv 10)) (pa_cons (pv 11) pa_nil)) (pe_op (op_addO G_Room___add__ T.sfRoom hr (by decide)) (pv 2) (pe_mo G_Room_by_row T.cRoom hr (by decide) (pv 10) (pa_cons (pv 11) pa_nil))) (nomark _))))) (pss_one (ps_ret pe_bl)) pss_nil)
    (pss_cons (ps_if (PW.pt (pw_or (pt_cmpR op_isN (pe_fo G_factor hr (by decide) (by rfl) (pa_cons (pv 9) (pa_cons (pv 2) pa_nil))) pe_non (nomark _)) (pw_or (pt_cmpR op_isN (pe_fo G_factor hr (by decide) (by rfl) (pa_cons (pv 2) (pa_cons (pv 9) pa_nil))) pe_non (nomark _)) (pw_or1 (pt_cmpR op_isN (pe_fo G_factor hr (by decide) (by rfl) (pa_cons (pv 9) (pa_cons (pv 9) pa_nil))) pe_non (nomark _)))))) (pss_one (ps_ret pe_bl)) pss_nil)
    (pss_cons (ps_if (PW.pt (pw_or (pt_not (pt_val (pe_fo G__law_is_factor hr (by decide) (by rfl) (pa_cons (pv 1) (pa_cons (pv 8) (pa_cons (pv 9) (pa_cons (pv 2) pa_nil))))))) (pw_or1 (pt_not (pt_val (pe_fo G__law_is_factor hr (by decide) (by rfl) (pa_cons (pv 1) (pa_cons (pv 8) (pa_cons (pv 9) (pa_cons (pv 10) pa_nil)))))))))) (pss_one (ps_ret pe_bl)) pss_nil)
    (pss_one (ps_ret (pe_cmpR op_eq (pe_cmpR op_isN (pe_fo G_factor hr (by decide) (by rfl) (pa_cons (pv 9) (pa_cons (pv 10) pa_nil))) pe_non (nomark _)) (pe_cmpR op_isN (pe_fo G_factor hr (by decide) (by rfl) (pa_cons (pv 10) (pa_cons (pv 9) pa_nil))) pe_non (nomark _)) (nomark _)))))))))))))))),
  fun δ F0 _ _ => by
    refine sd_seq (sd_asg (P := fun d => ∃ k : Fq, d = .py (lawF k)) (ep_call (C := c__law_field K) (Ps := fun ds => ∃ k : Fq, ds = [I (k.n : Int)]) (ap_cons (P := fun d => ∃ k : Fq, d = I (k.n : Int)) (P2 := fun _ xs => xs = []) (ep_call (C := c__law_pick K) (Ps := fun ds => ds = [.dice, .py (.list (([2, 3, 4, 5, 7, 8, 9] : List Int).map .int))]) (ad_cons (ed_var rfl) (ad_cons (ed_en (en_lst (ds := ([2, 3, 4, 5, 7, 8, 9] : List Int).map .int) (ad_cons ed_int (ad_cons ed_int (ad_cons ed_int (ad_cons ed_int (ad_cons ed_int (ad_cons ed_int (ad_cons ed_int ap_nil))))))) (by decide : 7 ≤ 100000))) ap_nil)) fun ds e => ⟨_, (show ([2, 3, 4, 5, 7, 8, 9] : List Int).map PyData.int ≠ [] ∧ (([2, 3, 4, 5, 7, 8, 9] : List Int).map PyData.int).length ≤ 100000 from ⟨fun z => (by cases z), by decide⟩), e.symm, fun d ⟨e, he, ed⟩ => by
      obtain ⟨i, hi, e2⟩ := List.mem_map.mp he
      obtain ⟨k, hk⟩ := sizes_fq i hi
      exact ⟨k, by rw [ed, ← e2, hk]⟩⟩) (fun _ _ => ap_nil) (by
      rintro _ _ ⟨k, rfl⟩ rfl
      exact ⟨k, rfl⟩)) (by
      rintro _ ⟨k, rfl⟩
      exact ⟨k, trivial, rfl, fun d h => ⟨k, h⟩⟩)) ?_)
    rintro d ⟨k, rfl⟩
    refine sd_seq (sd_tup2P (P := fun d => ∃ r s : Nat, SlOk r s ∧ wdt r s ≤ 9 ∧ d = .py (.tuple [.int (r : Int), .int (s : Int)])) (ep_call (C := c__law_room_slope K) (Ps := fun ds => ds = [.dice, I 9]) (ad_cons (ed_var rfl) (ad_cons ed_int ap_nil)) fun ds e => ⟨(), trivial, e.symm, fun d h => h⟩) ?_)
    rintro d ⟨r, s, h, hw, rfl⟩
    refine ⟨_, _, rfl, ?_⟩
    have h1 := h.r1
    have h2 := h.r2
    have h3 := h.s1
    have h4 := h.s2
    have k9 := k.le9
    refine sd_seq (sd_tupD3 (x := fieldD K k) (y := slopeD K r s) (z := I ((wdt r s : Nat) : Int)) (ed_makeD (c := c_Field___init__ K) k (ad_cons (ed_lawSize (ed_var rfl)) ap_nil) trivial fun _ h => h) (ed_makeD (c := c_Slope___init__ K) (r, s) (ad_cons (ed_var rfl) (ad_cons (ed_var rfl) ap_nil)) ⟨h1, h2, h3, h4⟩ fun _ h => h) ((ed_mul (ed_sub (ed_var rfl) ed_int) (ed_sub (ed_var rfl) ed_int) (cmul_l (a := (r : Int) - 1) (by omega) (by omega))).to (by rw [← wdt_int h1 h3])) ?_)
    show SD _ _ _ _ _ [.fz .dice, .fz (.py (lawF k)), .no, .no, .fz (I (r : Int)), .fz (I (s : Int)), .fz (fieldD K k), .fz (slopeD K r s), .fz (I ((wdt r s : Nat) : Int)), .no, .no, .no, .no, .no] _
    refine sd_seq (sd_two (items := (List.range 2).map fun (i : Nat) => I (i : Int)) (P := fun d => ∃ P : List (List (El k)), Rom (wdt r s) r s P ∧ d = roomD K k r s P) (env_lc (mono := fun _ _ _ _ e ⟨d, p, q⟩ => ⟨d, p, q.mono e⟩) (wi_rngN (n := 2) (ad_cons ed_int ap_nil) (by decide)) (fun d => (wipeS _ [13]).set 13 (.fz d)) (fun d _ => gd_name) (fun j hj => hj) (by decide : 2 ≤ 100000) fun d hd => ep_make (c := c_Room___init__ K) (P := fun d => ∃ P : List (List (El k)), Rom (wdt r s) r s P ∧ d = roomD K k r s P) (Ps := fun ds => ∃ P : List (List (El k)), Rom (wdt r s) r s P ∧ ds = [fieldD K k, slopeD K r s, .py (rsP P)]) (ap_cons (P := fun d => d = fieldD K k) (P2 := fun _ zs => ∃ P : List (List (El k)), Rom (wdt r s) r s P ∧ zs = [slopeD K r s, .py (rsP P)]) ((ed_var rfl).ep rfl) (fun _ _ => ap_cons (P := fun d => d = slopeD K r s) (P2 := fun _ zs => ∃ P : List (List (El k)), Rom (wdt r s) r s P ∧ zs = [.py (rsP P)]) ((ed_var rfl).ep rfl) (fun _ _ => ap_cons (P := fun d => ∃ P : List (List (El k)), d = .py (rsP P) ∧ Rom (wdt r s) r s P) (P2 := fun _ zs => zs = []) (ep_call (C := c__law_room_drawn K) (Ps := fun ds => ds = [.dice, .py (lawF k), I (r : Int), I (s : Int)]) (ad_cons (ed_var rfl) (ad_cons (ed_var rfl) (ad_cons (ed_var rfl) (ad_cons (ed_var rfl) ap_nil)))) fun ds e => ⟨⟨k, r, s⟩, h, e.symm, fun d h => h⟩) (fun _ _ => ap_nil) (by
      rintro _ _ ⟨P, rfl, hP⟩ rfl
      exact ⟨P, hP, rfl⟩)) (by
      rintro _ _ rfl ⟨P, hP, rfl⟩
      exact ⟨P, hP, rfl⟩)) (by
      rintro _ _ rfl ⟨P, hP, rfl⟩
      exact ⟨P, hP, rfl⟩)) (by
      rintro _ ⟨P, hP, rfl⟩
      have hs := hP.rl.self
      have hlP := hP.rl.le
      refine ⟨⟨k, r, s, P⟩, (show SlOk r s ∧ (∀ x, x ∈ P → x.length = wdt r s) ∧ P.length ≤ 60 ∧ Rom (wdt r s) r s (rref P) from ⟨h, hP.rl.len, by omega, by rw [hs]; exact hP⟩), rfl, fun es he => ⟨P, hP, he.trans ?_⟩⟩
      show roomD K k r s (rref P) = roomD K k r s P
      rw [hs])) rfl ?_)
    rintro _ _ ⟨P, hP, rfl⟩ ⟨Q, hQ, rfl⟩
    show SD _ _ _ _ _ [.fz .dice, .fz (.py (lawF k)), .no, .no, .fz (I (r : Int)), .fz (I (s : Int)), .fz (fieldD K k), .fz (slopeD K r s), .fz (I ((wdt r s : Nat) : Int)), .fz (roomD K k r s P), .fz (roomD K k r s Q), .no, .no, .no] _
    refine sd_seq (sd_par (ep_call (C := c__law_first_row K) (Ps := fun ds => ds = [.dice, .py (lawF k), I ((wdt r s : Nat) : Int)]) (P := fun d => ∃ g : List (El k), d = .py (rP g) ∧ g.length = wdt r s ∧ (0 < wdt r s → co g 0 ≠ 0)) (ad_cons (ed_var rfl) (ad_cons (ed_var rfl) (ad_cons (ed_var rfl) ap_nil))) fun ds e => ⟨⟨k, wdt r s⟩, (show wdt r s ≤ 60 by omega), e.symm, fun d h => h⟩) (fun _ _ => (ep_call (C := c__law_first_row K) (Ps := fun ds => ds = [.dice, .py (lawF k), I ((wdt r s : Nat) : Int)]) (P := fun d => ∃ g : List (El k), d = .py (rP g) ∧ g.length = wdt r s ∧ (0 < wdt r s → co g 0 ≠ 0)) (ad_cons (ed_var rfl) (ad_cons (ed_var rfl) (ad_cons (ed_var rfl) ap_nil))) fun ds e => ⟨⟨k, wdt r s⟩, (show wdt r s ≤ 60 by omega), e.symm, fun d h => h⟩)) ?_)
    rintro _ _ ⟨g, rfl, lg, g0⟩ ⟨g2, rfl, lg2, g20⟩
    have lP := hP.rl.le
    have hPl := hP.rl.len
    have hB : Rom (wdt r s) r s (byR P g) := by_rom hP lg g0
    have lB := hB.rl.le
    have hBl := hB.rl.len
    show SD _ _ _ _ _ [.fz .dice, .fz (.py (lawF k)), .no, .no, .fz (I (r : Int)), .fz (I (s : Int)), .fz (fieldD K k), .fz (slopeD K r s), .fz (I ((wdt r s : Nat) : Int)), .fz (roomD K k r s P), .fz (roomD K k r s Q), .fz (.py (rP g)), .fz (.py (rP g2)), .no] _
    refine sd_seq (sd_asgD (ed_meth (C := c_Room_by_row K) ⟨k, r, s, P, g⟩ (ed_var rfl) (ad_cons (ed_var rfl) ap_nil) rfl (show SlOk r s ∧ Rom (wdt r s) r s (P) ∧ (g).length = wdt r s ∧ (0 < wdt r s → co (g) 0 ≠ 0) from ⟨h, hP, lg, g0⟩) fun _ h => h) ?_)
    show SD _ _ _ _ _ [.fz .dice, .fz (.py (lawF k)), .fz (roomD K k r s (byR P g)), .no, .fz (I (r : Int)), .fz (I (s : Int)), .fz (fieldD K k), .fz (slopeD K r s), .fz (I ((wdt r s : Nat) : Int)), .fz (roomD K k r s P), .fz (roomD K k r s Q), .fz (.py (rP g)), .fz (.py (rP g2)), .no] _
    have eS : gapsR (wdt r s) (byR P g) = gapsR (wdt r s) P := by unfold gapsR; rw [by_ords hP.rl lg g0]
    refine sd_seq (sd_ifD (b := false) (BD.to (bd_or (bd_B (ed_neS (ed_repr (P := byR P g) (n := wdt r s) (ed_prop (C := c_Room_basis K) ⟨k, r, s, byR P g⟩ (ed_var rfl) rfl trivial fun _ h => h) (fun x hx => Nat.le_of_eq (hBl x hx)) (by omega) (by omega)) (ed_repr (P := byR P g) (n := wdt r s) (ed_call (C := c__law_product K) ⟨k, wdt r s, P, g⟩ (ad_cons (ed_var rfl) (ad_cons (ed_var rfl) (ad_cons (ed_prop (C := c_Room_basis K) ⟨k, r, s, P⟩ (ed_var rfl) rfl trivial fun _ h => h) (ad_cons (ed_var rfl) ap_nil)))) (show (∀ x, x ∈ P → x.length = wdt r s) ∧ g.length = wdt r s ∧ wdt r s ≤ 60 ∧ P.length ≤ 60 from ⟨hPl, lg, by omega, by omega⟩) fun _ h => h) (fun x hx => Nat.le_of_eq (hBl x hx)) (by omega) (by omega)))) fun _ => bd_test (ed_neO (C := c_Shelf___eq__ K) (b := true) (r, s, (gapsR (wdt r s) (byR P g), leastL (gapsR (wdt r s) (byR P g)) r), (gapsR (wdt r s) P, leastL (gapsR (wdt r s) P) r)) (ed_prop (C := c_Room_shelf K) ⟨k, r, s, byR P g⟩ (ed_var rfl) rfl (show SlOk r s ∧ Rom (wdt r s) r s (byR P g) from ⟨h, hB⟩) fun _ h => h) (ed_prop (C := c_Room_shelf K) ⟨k, r, s, P⟩ (ed_var rfl) rfl (show SlOk r s ∧ Rom (wdt r s) r s (P) from ⟨h, hP⟩) fun _ h => h) nf_self rfl trivial (fun _ z => z.trans (by show D.py (.bool (decide (gapsR (wdt r s) (byR P g) = gapsR (wdt r s) P))) = D.py (.bool true); rw [decide_eq_true eS])))) rfl) (fun e => by cases e) fun _ => sd_nx ?_)
    have lp := (prodP_ok lg lg2).1
    have p0 : 0 < wdt r s → co (prodP g g2) 0 ≠ 0 := prod_lead lg lg2 g0 g20
    refine sd_seq (sd_ifD (b := false) (bd_test (ed_neO (C := c_Room___eq__ K) (b := true) ⟨k, r, s, byR (byR P g) g2, byR P (prodP g g2)⟩ (ed_meth (C := c_Room_by_row K) ⟨k, r, s, byR P g, g2⟩ (ed_var rfl) (ad_cons (ed_var rfl) ap_nil) rfl (show SlOk r s ∧ Rom (wdt r s) r s (byR P g) ∧ (g2).length = wdt r s ∧ (0 < wdt r s → co (g2) 0 ≠ 0) from ⟨h, hB, lg2, g20⟩) fun _ h => h) (ed_meth (C := c_Room_by_row K) ⟨k, r, s, P, prodP g g2⟩ (ed_var rfl) (ad_cons ((ed_call (C := c__law_row_product K) ⟨k, wdt r s, g, g2⟩ (ad_cons (ed_var rfl) (ad_cons (ed_var rfl) (ad_cons (ed_var rfl) ap_nil))) (show g.length = wdt r s ∧ g2.length = wdt r s ∧ wdt r s ≤ 60 from ⟨lg, lg2, by omega⟩) fun _ h => h).to (by show D.py (rP (prodL g g2)) = D.py (rP (prodP g g2)); rw [prodL_eq lg lg2])) ap_nil) rfl (show SlOk r s ∧ Rom (wdt r s) r s (P) ∧ (prodP g g2).length = wdt r s ∧ (0 < wdt r s → co (prodP g g2) 0 ≠ 0) from ⟨h, hP, lp, p0⟩) fun _ h => h) nf_self rfl trivial (fun _ z => z.trans (by show D.py (.bool (decide ((byR (byR P g) g2) = byR P (prodP g g2)))) = D.py (.bool true); rw [decide_eq_true (by_by hPl lg lg2)])))) (fun e => by cases e) fun _ => sd_nx ?_)
    obtain ⟨li, _, i0⟩ := invL_ok lg g0
    refine sd_seq (sd_asgD (d := .py (rP (invL g))) (ed_if (bd_B (ed_gt (ed_var rfl) ed_int)) (fun e => ?_) fun e => ?_) ?_)
    · have hn : 0 < wdt r s := by have z : (0 : Int) < ((wdt r s : Nat) : Int) := of_decide_eq_true e; omega
      exact ed_call (C := c__law_row_inverse K) ⟨k, g⟩ (ad_cons (ed_var rfl) (ad_cons (ed_var rfl) ap_nil)) (show 0 < g.length ∧ g.length ≤ 60 ∧ co g 0 ≠ 0 from ⟨by omega, by omega, g0 hn⟩) fun _ h => h
    · have hn : wdt r s = 0 := by have z : ¬ (0 : Int) < ((wdt r s : Nat) : Int) := of_decide_eq_false e; omega
      have hg : g = [] := List.length_eq_zero_iff.mp (by omega)
      exact (ed_tup (ds := []) ap_nil (by decide)).to (by rw [hg]; rfl)
    show SD _ _ _ _ _ [.fz .dice, .fz (.py (lawF k)), .fz (roomD K k r s (byR P g)), .fz (.py (rP (invL g))), .fz (I (r : Int)), .fz (I (s : Int)), .fz (fieldD K k), .fz (slopeD K r s), .fz (I ((wdt r s : Nat) : Int)), .fz (roomD K k r s P), .fz (roomD K k r s Q), .fz (.py (rP g)), .fz (.py (rP g2)), .no] _
    have eI := by_inv hP.rl lg g0
    have hA : Rom (wdt r s) r s (addR P Q) := add_rom hP hQ
    have hQB : Rom (wdt r s) r s (byR Q g) := by_rom hQ lg g0
    have eA := by_add hPl hQ.rl.len lg
    refine sd_seq (sd_ifD (b := false) (BD.to (bd_or (bd_test (ed_neO (C := c_Room___eq__ K) (b := true) ⟨k, r, s, byR (byR P g) (invL g), P⟩ (ed_meth (C := c_Room_by_row K) ⟨k, r, s, byR P g, invL g⟩ (ed_var rfl) (ad_cons (ed_var rfl) ap_nil) rfl (show SlOk r s ∧ Rom (wdt r s) r s (byR P g) ∧ (invL g).length = wdt r s ∧ (0 < wdt r s → co (invL g) 0 ≠ 0) from ⟨h, hB, li, i0⟩) fun _ h => h) (ed_var rfl) nf_self rfl trivial (fun _ z => z.trans (by show D.py (.bool (decide ((byR (byR P g) (invL g)) = P))) = D.py (.bool true); rw [decide_eq_true eI])))) fun _ => bd_test (ed_neO (C := c_Room___eq__ K) (b := true) ⟨k, r, s, byR (addR P Q) g, addR (byR P g) (byR Q g)⟩ (ed_meth (C := c_Room_by_row K) ⟨k, r, s, addR P Q, g⟩ (ed_addO (C := c_Room___add__ K) ⟨k, r, s, P, Q⟩ (ed_var rfl) (ed_var rfl) rfl (show SlOk r s ∧ Rom (wdt r s) r s P ∧ Rom (wdt r s) r s Q from ⟨h, hP, hQ⟩) fun _ h => h) (ad_cons (ed_var rfl) ap_nil) rfl (show SlOk r s ∧ Rom (wdt r s) r s (addR P Q) ∧ (g).length = wdt r s ∧ (0 < wdt r s → co (g) 0 ≠ 0) from ⟨h, hA, lg, g0⟩) fun _ h => h) (ed_addO (C := c_Room___add__ K) ⟨k, r, s, byR P g, byR Q g⟩ (ed_var rfl) (ed_meth (C := c_Room_by_row K) ⟨k, r, s, Q, g⟩ (ed_var rfl) (ad_cons (ed_var rfl) ap_nil) rfl (show SlOk r s ∧ Rom (wdt r s) r s (Q) ∧ (g).length = wdt r s ∧ (0 < wdt r s → co (g) 0 ≠ 0) from ⟨h, hQ, lg, g0⟩) fun _ h => h) rfl (show SlOk r s ∧ Rom (wdt r s) r s (byR P g) ∧ Rom (wdt r s) r s (byR Q g) from ⟨h, hB, hQB⟩) fun _ h => h) nf_self rfl trivial (fun _ z => z.trans (by show D.py (.bool (decide ((byR (addR P Q) g) = addR (byR P g) (byR Q g)))) = D.py (.bool true); rw [decide_eq_true eA])))) rfl) (fun e => by cases e) fun _ => sd_nx ?_)
    have f1 : (facR (wdt r s) P (byR P g)).isNone = false := fac_yes hP hB lg g0 rfl
    have f2 : (facR (wdt r s) (byR P g) P).isNone = false := fac_yes hB hP li i0 eI
    have f3 : (facR (wdt r s) P P).isNone = false := fac_yes hP hP (prodP_ok lg li).1 (prod_lead lg li g0 i0) (by rw [← by_by hPl lg li]; exact eI)
    refine sd_seq (sd_ifD (b := false) (BD.to (bd_or (bd_B ((ed_isN (ed_call (C := c_factor K) ⟨k, r, s, P, byR P g⟩ (ad_cons (ed_var rfl) (ad_cons (ed_var rfl) ap_nil)) (show SlOk r s ∧ Rom (wdt r s) r s (P) ∧ Rom (wdt r s) r s (byR P g) from ⟨h, hP, hB⟩) fun _ h => h)).to (d' := Bo (facR (wdt r s) (P) (byR P g)).isNone) (by rw [nonFac]))) fun _ => bd_or (bd_B ((ed_isN (ed_call (C := c_factor K) ⟨k, r, s, byR P g, P⟩ (ad_cons (ed_var rfl) (ad_cons (ed_var rfl) ap_nil)) (show SlOk r s ∧ Rom (wdt r s) r s (byR P g) ∧ Rom (wdt r s) r s (P) from ⟨h, hB, hP⟩) fun _ h => h)).to (d' := Bo (facR (wdt r s) (byR P g) (P)).isNone) (by rw [nonFac]))) fun _ => bd_B ((ed_isN (ed_call (C := c_factor K) ⟨k, r, s, P, P⟩ (ad_cons (ed_var rfl) (ad_cons (ed_var rfl) ap_nil)) (show SlOk r s ∧ Rom (wdt r s) r s (P) ∧ Rom (wdt r s) r s (P) from ⟨h, hP, hP⟩) fun _ h => h)).to (d' := Bo (facR (wdt r s) (P) (P)).isNone) (by rw [nonFac]))) (by rw [f1, f2, f3]; rfl)) (fun e => by cases e) fun _ => sd_nx ?_)
    refine sd_seq (sd_ifD (b := false) (BD.to (bd_or (bd_not (bd_test (ed_call (C := c__law_is_factor K) ⟨k, r, s, P, byR P g⟩ (ad_cons (ed_var rfl) (ad_cons (ed_var rfl) (ad_cons (ed_var rfl) (ad_cons (ed_var rfl) ap_nil)))) (show SlOk r s ∧ Rom (wdt r s) r s P ∧ Rom (wdt r s) r s (byR P g) from ⟨h, hP, hB⟩) fun _ h => h))) fun _ => bd_not (bd_test (ed_call (C := c__law_is_factor K) ⟨k, r, s, P, Q⟩ (ad_cons (ed_var rfl) (ad_cons (ed_var rfl) (ad_cons (ed_var rfl) (ad_cons (ed_var rfl) ap_nil)))) ⟨h, hP, hQ⟩ fun _ h => h))) rfl) (fun e => by cases e) fun _ => sd_nx ?_)
    refine sd_retD (ed_eqB ((ed_isN (ed_call (C := c_factor K) ⟨k, r, s, P, Q⟩ (ad_cons (ed_var rfl) (ad_cons (ed_var rfl) ap_nil)) (show SlOk r s ∧ Rom (wdt r s) r s (P) ∧ Rom (wdt r s) r s (Q) from ⟨h, hP, hQ⟩) fun _ h => h)).to (d' := Bo (facR (wdt r s) P Q).isNone) (by rw [nonFac])) ((ed_isN (ed_call (C := c_factor K) ⟨k, r, s, Q, P⟩ (ad_cons (ed_var rfl) (ad_cons (ed_var rfl) ap_nil)) (show SlOk r s ∧ Rom (wdt r s) r s (Q) ∧ Rom (wdt r s) r s (P) from ⟨h, hQ, hP⟩) fun _ h => h)).to (d' := Bo (facR (wdt r s) Q P).isNone) (by rw [nonFac]))) ?_
    show D.py (.bool (decide ((facR (wdt r s) P Q).isNone = (facR (wdt r s) Q P).isNone))) = D.py (.bool true)
    rw [decide_eq_true (fac_same hP hQ)]⟩
end
end Dl
set_option linter.unusedVariables false
namespace Rm
/-! ### the law's three rooms of 2:3 over two elements -/
def A1 : List (List (El .f2)) := [[1, 0]]
def A2 : List (List (El .f2)) := [[1, 0], [0, 1]]
def A3 : List (List (El .f2)) := [[1, 1]]
theorem lnA : (∀ x, x ∈ A1 → x.length = 2) ∧ (∀ x, x ∈ A2 → x.length = 2) ∧ ∀ x, x ∈ A3 → x.length = 2 := ⟨by decide, by decide, by decide⟩
theorem rA {P : List (List (El .f2))} (hl : ∀ x, x ∈ P → x.length = 2) (h : lpl 2 P = P) : rref P = P := (lpl_rref hl).symm.trans h
theorem romA {P : List (List (El .f2))} (hl : ∀ x, x ∈ P → x.length = 2) (h : lpl 2 P = P) (h2 : lpl 2 (P ++ P.map fun r => mvR r 2) = P) (h3 : lpl 2 (P ++ P.map fun r => mvR r 3) = P) (h0 : lead0 P = true) : Rom 2 2 3 P := by
  have rl : RL 2 P := by
    have z := rref_rl hl
    rw [rA hl h] at z
    exact z
  refine ⟨rl, ?_, ?_, fun _ => h0⟩
  · refine (clsd_iff rl).mp (decide_eq_true ?_)
    exact (lpl_rref (app_len hl fun x hx => by rw [len_mvR]; exact hx)).symm.trans h2
  · refine (clsd_iff rl).mp (decide_eq_true ?_)
    exact (lpl_rref (app_len hl fun x hx => by rw [len_mvR]; exact hx)).symm.trans h3
theorem rA1 : rref A1 = A1 := rA lnA.1 (by decide +kernel)
theorem rA2 : rref A2 = A2 := rA lnA.2.1 (by decide +kernel)
theorem rA3 : rref A3 = A3 := rA lnA.2.2 (by decide +kernel)
theorem romA1 : Rom 2 2 3 A1 := romA lnA.1 (by decide +kernel) (by decide +kernel) (by decide +kernel) (by decide +kernel)
theorem romA2 : Rom 2 2 3 A2 := romA lnA.2.1 (by decide +kernel) (by decide +kernel) (by decide +kernel) (by decide +kernel)
theorem romA3 : Rom 2 2 3 A3 := romA lnA.2.2 (by decide +kernel) (by decide +kernel) (by decide +kernel) (by decide +kernel)
theorem fA12 : facR 2 A1 A2 = none := by
  unfold facR
  rw [if_neg (by decide), if_neg (by decide)]
theorem byA (g : List (El .f2)) (hg : g.length = 2) : byR A1 g = lpl 2 (A1.map fun x => prodP x g) := (lpl_rref (by_len lnA.1 hg)).symm
theorem allA : ∀ a b : El .f2, a ≠ 0 → lpl 2 (A1.map fun x => prodP x [a, b]) = A3 → [a, b] = [1, 1] := by decide +kernel
theorem fA13 : facR 2 A1 A3 = some [1, 1] := by
  cases q : facR 2 A1 A3 with
  | none =>
    obtain ⟨_, h⟩ := fac_none romA1 romA3 q
    exact absurd ((byA [1, 1] rfl).trans (by decide +kernel)) (h [1, 1] rfl (by decide +kernel))
  | some g =>
    obtain ⟨lg, g0, eg⟩ := fac_some romA1 romA3 (by decide) q
    match g, lg with
    | [a, b], _ =>
      rw [byA [a, b] rfl] at eg
      rw [allA a b g0 eg]
end Rm
set_option Elab.async false
set_option linter.all false
set_option maxRecDepth 100000
set_option maxHeartbeats 4000000
namespace Dl
open PySem PySem.Spec PyProof.Rows L2 SlX Rm
section
variable {P : Program} {w : World} {K : PySem.W.Frag} {mg : Str → Option Value} {base : Heap}
def spN (K : PySem.W.Frag) (C : Con) : Sp := fun vs H Q _ => ∃ (F : Hp) (a : C.α), C.ok a ∧ Reps K none F vs (C.args a) ∧ Wd none F H ∧ ∀ v d F' H', C.R a d → Rep K none F' v d → Stp none F H F' H' → Q v H'
theorem bodyN_run {t : TS} {N : List Str} {vs : List V} {H : Hp} {Q : VK} {E : XK} {C : Con} (h : spN K C vs H Q E)
    (k : ∀ (F0 : Hp) (a : C.α), C.ok a → SD K none F0 H t ((C.args a).map .fz ++ List.replicate (N.length - (C.args a).length) .no) { N := fun _ => C.R a (.py .none), R := C.R a }) : t { nx := fun _ H' => Q .non H', rt := Q } (L2.start N vs) H := by
  obtain ⟨F, a, p, r, w, q⟩ := h
  have hl := reps_len r
  refine k F a p (L2.start N vs) F H _ ?_ w w.refl ⟨fun σ' H' ⟨F', ρ', po, re, s, w', _⟩ => q .non _ F' H' po (.py .non) s, fun v d F' H' po rv s w' => q v d F' H' po rv s, fun σ' H' ⟨_, _, z, _⟩ => z.elim, fun σ' H' ⟨_, _, z, _⟩ => z.elim⟩
  unfold L2.start
  rw [hl]
  exact repE_start _ r
theorem sl23 : SlOk 2 3 := ⟨by decide, by decide, by decide, by decide, by decide, by decide⟩
theorem sl14 : SlOk 1 4 := ⟨by decide, by decide, by decide, by decide, by decide, by decide⟩
theorem rref_nil : rref ([] : List (List (El .f2))) = [] := rl_zero (rref_rl fun x hx => by cases hx)
theorem fac0 : facR (wdt 1 4) ([] : List (List (El .f2))) [] = some [] := by unfold facR; rw [if_pos (by decide)]
theorem mm_eq (a : Nat) : (if (if (a : Int) < 5 then (a : Int) else 5) > 1 then (if (a : Int) < 5 then (a : Int) else 5) else 1) = ((max 1 (min 5 a) : Nat) : Int) := by
  have e : (if (a : Int) < (5 : Int) then (a : Int) else 5) = ((min 5 a : Nat) : Int) := by split <;> omega
  rw [e]
  split <;> omega
def c_law (K : PySem.W.Frag) : Con := { α := List Int, ok := fun ns => ns.length ≤ 100000, args := fun ns => [.py (.list (ns.map .int))], R := fun _ d => d = Bo true }
abbrev s_law : Stmt := tp 109
theorem sc_law : FnScope ["_law_script", "_law_spot", "_law_two", "_law_slope", "_law_one", "_law_whole"] ["_law_script"] (defScope s_law) := ⟨rfl, rfl, rfl, by decide +kernel, rfl, by decide +kernel, by decide +kernel⟩
theorem fg_law {f fR : Addr} {fd fdR : FuncData} (F : FD K "law" s_law f fd) (T : Tk K mg) (FR : FnG P w K mg base 15 fR fdR ["_law_dice_here"] (spD K (c__law_right K))) (hmR : mg "_law_right" = some (.ref fR)) (hkR : PySem.W.keepIn K (.ref fR) = true) (hbR : Binds K fdR ["_law_dice_here"] []) (GD : FOS P w K mg base 1 "_law_dice" (spDice K)) (G_factor : FO P w K mg base 9 "factor" (c_factor K)) (G_Room___init__ : CO P w K mg base 11 "Room" (c_Room___init__ K)) (G_Slope___init__ : CO P w K mg base 4 "Slope" (c_Slope___init__ K)) (G_Field___init__ : CO P w K mg base 3 "Field" (c_Field___init__ K)) : FnG P w K mg base 16 f fd ["_law_script"] (spN K (c_law K)) :=
  fng_of F sc_law (fun vs H Q E ⟨F, ns, _, r, _⟩ => by rw [reps_len r]; rfl) fun cdv A outer s H vs Q E hr hgd hsp => ⟨_,
    PSs.nox (pss_cons (ps_for PassesOwn.never rfl (pi_range1 (by rfl) T.range_ (pa_cons (pe_callB (call_max2 rfl) (by rfl) T.max_ (by decide +kernel) (pa_cons pe_int (pa_cons (pe_callB (call_min2 rfl) (by rfl) T.min_ (by decide +kernel) (pa_cons pe_int (pa_cons (pe_callB ((call_len_seq)) (by rfl) T.len_ (by decide +kernel) (pa_cons (pv 0) pa_nil)) pa_nil))) pa_nil))) pa_nil)) (pg_name (i := 1) sc_law.nd rfl (Or.inl rfl)) (pss_one (ps_if (pt_not (pt_val (pe_fg FR (hr.mono (by decide)) hgd (by rfl) hmR hkR hbR (pa_cons (pe_fos GD hr (by decide) (by rfl) (pa_cons (pv 0) (pa_cons (pv 1) pa_nil))) pa_nil)))) (pss_one (ps_ret pe_bl)) pss_nil)))
    (pss_cons (ps_par (i := 2) (j := 3) rfl sc_law.nd rfl rfl (by decide) rfl rfl (pa_cons (pe_co G_Field___init__ hr (by decide) (by rfl) (pa_cons pe_int pa_nil)) (pa_cons (pe_co G_Slope___init__ hr (by decide) (by rfl) (pa_cons pe_int (pa_cons pe_int pa_nil))) pa_nil)) (by rfl))
    (pss_cons (ps_par (i := 4) (j := 5) rfl sc_law.nd rfl rfl (by decide) rfl rfl (pa_cons (pe_co G_Room___init__ hr (by decide) (by rfl) (pa_cons (pv 2) (pa_cons (pv 3) (pa_cons (pe_tup (pa_cons (pe_tup (pa_cons pe_int (pa_cons pe_int pa_nil))) pa_nil)) pa_nil)))) (pa_cons (pe_co G_Room___init__ hr (by decide) (by rfl) (pa_cons (pv 2) (pa_cons (pv 3) (pa_cons (pe_tup (pa_cons (pe_tup (pa_cons pe_int (pa_cons pe_int pa_nil))) (pa_cons (pe_tup (pa_cons pe_int (pa_cons pe_int pa_nil))) pa_nil))) pa_nil)))) pa_nil)) (by rfl))
    (pss_cons (ps_if (PW.pt (pw_or (pt_cmpR op_notN (pe_fo G_factor hr (by decide) (by rfl) (pa_cons (pv 4) (pa_cons (pv 5) pa_nil))) pe_non (nomark _)) (pw_or1 (pt_cmpR (op_neD hr.units) (pe_fo G_factor hr (by decide) (by rfl) (pa_cons (pe_co G_Room___init__ hr (by decide) (by rfl) (pa_cons (pv 2) (pa_cons (pe_co G_Slope___init__ hr (by decide) (by rfl) (pa_cons pe_int (pa_cons pe_int pa_nil))) (pa_cons (pe_tup pa_nil) pa_nil)))) (pa_cons (pe_co G_Room___init__ hr (by decide) (by rfl) (pa_cons (pv 2) (pa_cons (pe_co G_Slope___init__ hr (by decide) (by rfl) (pa_cons pe_int (pa_cons pe_int pa_nil))) (pa_cons (pe_tup pa_nil) pa_nil)))) pa_nil))) (pe_tup pa_nil) (nomark _))))) (pss_one (ps_ret pe_bl)) pss_nil)
    (pss_one (ps_ret (pe_cmpR (op_eqD hr.units) (pe_fo G_factor hr (by decide) (by rfl) (pa_cons (pv 4) (pa_cons (pe_co G_Room___init__ hr (by decide) (by rfl) (pa_cons (pv 2) (pa_cons (pv 3) (pa_cons (pe_tup (pa_cons (pe_tup (pa_cons pe_int (pa_cons pe_int pa_nil))) pa_nil)) pa_nil)))) pa_nil))) (pe_tup (pa_cons pe_int (pa_cons pe_int pa_nil))) (nomark _)))))))), bodyN_run hsp fun F0 (ns : List Int) ok => by
    have hns : ns.length ≤ 100000 := ok
    refine sd_seq (sd_forR (n := max 1 (min 5 ns.length)) (ad_cons ((ed_max2 ed_int (ed_min2 ed_int (ed_lenL (el_fz (ed_var rfl))))).to (by rw [List.length_map, mm_eq])) ap_nil) (by omega) (fun i ρ1 => ∃ u, ρ1 = [.fz (.py (.list (ns.map .int))), u, .no, .no, .no, .no]) ⟨_, rfl⟩ ?_ ?_)
    · rintro i ρ1 hi ⟨u, rfl⟩
      exact sd_ifD (bd_not (bd_test (ed_callDice (C := c__law_right K) () (ad_cons (ed_var rfl) (ad_cons (ed_var rfl) ap_nil)) (by omega) trivial rfl fun _ h => h))) (fun e => by cases e) fun _ => sd_nx ⟨_, rfl⟩
    rintro ρ1 ⟨u, rfl⟩
    refine sd_seq (sd_parD (ed_makeD (c := c_Field___init__ K) .f2 (ad_cons (ed_int.to (d' := I ((Fq.n .f2 : Nat) : Int)) rfl) ap_nil) trivial fun _ h => h) (ed_makeD (c := c_Slope___init__ K) (2, 3) (ad_cons (ed_int.to (d' := I ((2 : Nat) : Int)) rfl) (ad_cons (ed_int.to (d' := I ((3 : Nat) : Int)) rfl) ap_nil)) (show 1 ≤ 2 ∧ 2 ≤ 60 ∧ 1 ≤ 3 ∧ 3 ≤ 60 from by decide) fun _ h => h) ?_)
    show SD _ _ _ _ _ [.fz (.py (.list (ns.map .int))), u, .fz (fieldD K .f2), .fz (slopeD K 2 3), .no, .no] _
    refine sd_seq (sd_parD (ed_makeD (c := c_Room___init__ K) ⟨.f2, 2, 3, A1⟩ (ad_cons (ed_var rfl) (ad_cons (ed_var rfl) (ad_cons (ED.to (d' := .py (rsP A1)) (ed_tup (ds := [.tuple [.int 1, .int 0]]) (ad_cons (ed_tup (ds := [.int 1, .int 0]) (ad_cons ed_int (ad_cons ed_int ap_nil)) (by decide : 2 ≤ 100000)) ap_nil) (by decide : 1 ≤ 100000)) (by unfold A1; show D.py (.tuple [.tuple [.int 1, .int 0]]) = D.py (.tuple [.tuple [.int (inI (1 : El .f2)), .int (inI (0 : El .f2))]]); simp only [inI_1, inI_0])) ap_nil))) (show SlOk 2 3 ∧ (∀ x, x ∈ A1 → x.length = wdt 2 3) ∧ List.length A1 ≤ 60 ∧ Rom (wdt 2 3) 2 3 (rref A1) from ⟨sl23, lnA.1, by decide, by rw [rA1]; exact romA1⟩) fun _ z => z.trans (by show roomD K .f2 2 3 (rref A1) = roomD K .f2 2 3 A1; rw [rA1])) (ed_makeD (c := c_Room___init__ K) ⟨.f2, 2, 3, A2⟩ (ad_cons (ed_var rfl) (ad_cons (ed_var rfl) (ad_cons (ED.to (d' := .py (rsP A2)) (ed_tup (ds := [.tuple [.int 1, .int 0], .tuple [.int 0, .int 1]]) (ad_cons (ed_tup (ds := [.int 1, .int 0]) (ad_cons ed_int (ad_cons ed_int ap_nil)) (by decide : 2 ≤ 100000)) (ad_cons (ed_tup (ds := [.int 0, .int 1]) (ad_cons ed_int (ad_cons ed_int ap_nil)) (by decide : 2 ≤ 100000)) ap_nil)) (by decide : 2 ≤ 100000)) (by unfold A2; show D.py (.tuple [.tuple [.int 1, .int 0], .tuple [.int 0, .int 1]]) = D.py (.tuple [.tuple [.int (inI (1 : El .f2)), .int (inI (0 : El .f2))], .tuple [.int (inI (0 : El .f2)), .int (inI (1 : El .f2))]]); simp only [inI_1, inI_0])) ap_nil))) (show SlOk 2 3 ∧ (∀ x, x ∈ A2 → x.length = wdt 2 3) ∧ List.length A2 ≤ 60 ∧ Rom (wdt 2 3) 2 3 (rref A2) from ⟨sl23, lnA.2.1, by decide, by rw [rA2]; exact romA2⟩) fun _ z => z.trans (by show roomD K .f2 2 3 (rref A2) = roomD K .f2 2 3 A2; rw [rA2])) ?_)
    show SD _ _ _ _ _ [.fz (.py (.list (ns.map .int))), u, .fz (fieldD K .f2), .fz (slopeD K 2 3), .fz (roomD K .f2 2 3 A1), .fz (roomD K .f2 2 3 A2)] _
    refine sd_seq (sd_ifD (b := false) (BD.to (bd_or (bd_B ((ed_notN (ed_call (C := c_factor K) ⟨.f2, 2, 3, A1, A2⟩ (ad_cons (ed_var rfl) (ad_cons (ed_var rfl) ap_nil)) (show SlOk 2 3 ∧ Rom (wdt 2 3) 2 3 A1 ∧ Rom (wdt 2 3) 2 3 A2 from ⟨sl23, romA1, romA2⟩) fun _ h => h)).to (d' := Bo (!(facR 2 A1 A2).isNone)) (by rw [nonFac]; rfl))) fun _ => bd_test (ed_neRow (k := .f2) (x := []) (y := []) ((ed_call (C := c_factor K) ⟨.f2, 1, 4, ([] : List (List (El .f2))), ([] : List (List (El .f2)))⟩ (ad_cons (ed_makeD (c := c_Room___init__ K) ⟨.f2, 1, 4, ([] : List (List (El .f2)))⟩ (ad_cons (ed_var rfl) (ad_cons (ed_makeD (c := c_Slope___init__ K) (1, 4) (ad_cons (ed_int.to (d' := I ((1 : Nat) : Int)) rfl) (ad_cons (ed_int.to (d' := I ((4 : Nat) : Int)) rfl) ap_nil)) (show 1 ≤ 1 ∧ 1 ≤ 60 ∧ 1 ≤ 4 ∧ 4 ≤ 60 from by decide) fun _ h => h) (ad_cons (ed_tup (ds := []) ap_nil (by decide)) ap_nil))) (show SlOk 1 4 ∧ (∀ x, x ∈ ([] : List (List (El .f2))) → x.length = wdt 1 4) ∧ List.length ([] : List (List (El .f2))) ≤ 60 ∧ Rom (wdt 1 4) 1 4 (rref ([] : List (List (El .f2)))) from ⟨sl14, (fun x hx => by cases hx), by decide, by rw [rref_nil]; exact rom_nil⟩) fun _ z => z.trans (by show roomD K .f2 1 4 (rref ([] : List (List (El .f2)))) = roomD K .f2 1 4 ([] : List (List (El .f2))); rw [rref_nil])) (ad_cons (ed_makeD (c := c_Room___init__ K) ⟨.f2, 1, 4, ([] : List (List (El .f2)))⟩ (ad_cons (ed_var rfl) (ad_cons (ed_makeD (c := c_Slope___init__ K) (1, 4) (ad_cons (ed_int.to (d' := I ((1 : Nat) : Int)) rfl) (ad_cons (ed_int.to (d' := I ((4 : Nat) : Int)) rfl) ap_nil)) (show 1 ≤ 1 ∧ 1 ≤ 60 ∧ 1 ≤ 4 ∧ 4 ≤ 60 from by decide) fun _ h => h) (ad_cons (ed_tup (ds := []) ap_nil (by decide)) ap_nil))) (show SlOk 1 4 ∧ (∀ x, x ∈ ([] : List (List (El .f2))) → x.length = wdt 1 4) ∧ List.length ([] : List (List (El .f2))) ≤ 60 ∧ Rom (wdt 1 4) 1 4 (rref ([] : List (List (El .f2)))) from ⟨sl14, (fun x hx => by cases hx), by decide, by rw [rref_nil]; exact rom_nil⟩) fun _ z => z.trans (by show roomD K .f2 1 4 (rref ([] : List (List (El .f2)))) = roomD K .f2 1 4 ([] : List (List (El .f2))); rw [rref_nil])) ap_nil)) (show SlOk 1 4 ∧ Rom (wdt 1 4) 1 4 ([] : List (List (El .f2))) ∧ Rom (wdt 1 4) 1 4 ([] : List (List (El .f2))) from ⟨sl14, rom_nil, rom_nil⟩) fun _ h => h).to (by show facD (facR (wdt 1 4) ([] : List (List (El .f2))) []) = _; rw [fac0]; rfl)) (ed_tup (ds := []) ap_nil (by decide)))) (by rw [fA12]; rfl)) (fun e => by cases e) fun _ => sd_nx ?_)
    refine sd_retD (ed_eqRow (k := .f2) (x := [1, 1]) (y := [1, 1]) ((ed_call (C := c_factor K) ⟨.f2, 2, 3, A1, A3⟩ (ad_cons (ed_var rfl) (ad_cons (ed_makeD (c := c_Room___init__ K) ⟨.f2, 2, 3, A3⟩ (ad_cons (ed_var rfl) (ad_cons (ed_var rfl) (ad_cons (ED.to (d' := .py (rsP A3)) (ed_tup (ds := [.tuple [.int 1, .int 1]]) (ad_cons (ed_tup (ds := [.int 1, .int 1]) (ad_cons ed_int (ad_cons ed_int ap_nil)) (by decide : 2 ≤ 100000)) ap_nil) (by decide : 1 ≤ 100000)) (by unfold A3; show D.py (.tuple [.tuple [.int 1, .int 1]]) = D.py (.tuple [.tuple [.int (inI (1 : El .f2)), .int (inI (1 : El .f2))]]); simp only [inI_1, inI_0])) ap_nil))) (show SlOk 2 3 ∧ (∀ x, x ∈ A3 → x.length = wdt 2 3) ∧ List.length A3 ≤ 60 ∧ Rom (wdt 2 3) 2 3 (rref A3) from ⟨sl23, lnA.2.2, by decide, by rw [rA3]; exact romA3⟩) fun _ z => z.trans (by show roomD K .f2 2 3 (rref A3) = roomD K .f2 2 3 A3; rw [rA3])) ap_nil)) (show SlOk 2 3 ∧ Rom (wdt 2 3) 2 3 A1 ∧ Rom (wdt 2 3) 2 3 A3 from ⟨sl23, romA1, romA3⟩) fun _ h => h).to (by show facD (facR 2 A1 A3) = _; rw [fA13]; rfl)) (ED.to (ed_tup (ds := [.int 1, .int 1]) (ad_cons ed_int (ad_cons ed_int ap_nil)) (by decide : 2 ≤ 100000)) (by show D.py (.tuple [.int 1, .int 1]) = D.py (.tuple [.int (inI (1 : El .f2)), .int (inI (1 : El .f2))]); rw [inI_1]))) ?_
    show D.py (.bool (decide (([1, 1] : List (El .f2)) = [1, 1]))) = D.py (.bool true)
    rw [decide_eq_true rfl]⟩
end
end Dl
set_option Elab.async false
set_option linter.all false
set_option maxRecDepth 100000
set_option maxHeartbeats 0
namespace Dl
open PySem PySem.Spec PyProof.Rows L2 SlX Rm
section
variable {P : Program} {w : World} {K : PySem.W.Frag} {mg : Str → Option Value} {h : Heap}
theorem tk_of (X : K.In h) (G : h.Ns mainGlobals mg) (c : SaysM fa fn K) : Tk K mg where
  isinstance_ := fm_free X G (c.fact 0 (f := .free "isinstance"))
  len_ := fm_free X G (c.fact 1 (f := .free "len"))
  range_ := fm_free X G (c.fact 2 (f := .free "range"))
  zip_ := fm_free X G (c.fact 3 (f := .free "zip"))
  enumerate_ := fm_free X G (c.fact 4 (f := .free "enumerate"))
  tuple_ := fm_free X G (c.fact 5 (f := .free "tuple"))
  list_ := fm_free X G (c.fact 6 (f := .free "list"))
  int_ := fm_free X G (c.fact 7 (f := .free "int"))
  bool_ := fm_free X G (c.fact 8 (f := .free "bool"))
  all_ := fm_free X G (c.fact 9 (f := .free "all"))
  any_ := fm_free X G (c.fact 10 (f := .free "any"))
  sorted_ := fm_free X G (c.fact 11 (f := .free "sorted"))
  abs_ := fm_free X G (c.fact 12 (f := .free "abs"))
  max_ := fm_free X G (c.fact 13 (f := .free "max"))
  min_ := fm_free X G (c.fact 14 (f := .free "min"))
  repr_ := fm_free X G (c.fact 15 (f := .free "repr"))
  GREATEST := fm_dat X G (c.fact 139 (f := .dat "GREATEST" (.inl (10 ^ 60))))
  MAX_SIDE := fm_dat X G (c.fact 140 (f := .dat "MAX_SIDE" (.inl 60)))
  MAX_LENGTH := fm_dat X G (c.fact 141 (f := .dat "MAX_LENGTH" (.inl 60)))
  MAX_ROWS := fm_dat X G (c.fact 142 (f := .dat "MAX_ROWS" (.inl 60)))
  MAX_WIDTH := fm_dat X G (c.fact 143 (f := .dat "MAX_WIDTH" (.inl 24)))
  SIZES := fm_dat X G (c.fact 144 (f := .dat "SIZES" (.inr [2, 3, 4, 5, 7, 8, 9])))
  PRIMES := fm_dic X G (c.fact 145 (f := .dic "PRIMES" [(2, .inl 2), (3, .inl 3), (4, .inl 2), (5, .inl 5), (7, .inl 7), (8, .inl 2), (9, .inl 3)]))
  CARRIES := fm_dic X G (c.fact 146 (f := .dic "CARRIES" [(4, .inr [1, 1]), (8, .inr [1, 1, 0]), (9, .inr [2, 0])]))
  cSlope := fm_cls X G (c.fact 16 (f := .glo "Slope")) (c.fact 17 (f := .scls "Slope"))
  slope_common := fm_slot (c.fact 95 (f := .slot "Slope" "own_common" 0))
  slope_rises := fm_slot (c.fact 96 (f := .slot "Slope" "own_rises" 1))
  slope_steps := fm_slot (c.fact 97 (f := .slot "Slope" "own_steps" 2))
  neSlope := fm_nee (c.fact 133 (f := .nee "Slope"))
  cShelf := fm_cls X G (c.fact 18 (f := .glo "Shelf")) (c.fact 19 (f := .scls "Shelf"))
  shelf_gaps := fm_slot (c.fact 98 (f := .slot "Shelf" "own_gaps" 0))
  shelf_least := fm_slot (c.fact 99 (f := .slot "Shelf" "own_least" 1))
  shelf_slope := fm_slot (c.fact 100 (f := .slot "Shelf" "own_slope" 2))
  neShelf := fm_nee (c.fact 134 (f := .nee "Shelf"))
  cField := fm_cls X G (c.fact 20 (f := .glo "Field")) (c.fact 21 (f := .scls "Field"))
  field_members := fm_slot (c.fact 101 (f := .slot "Field" "own_members" 1))
  field_inverses := fm_slot (c.fact 102 (f := .slot "Field" "own_inverses" 0))
  field_negatives := fm_slot (c.fact 103 (f := .slot "Field" "own_negatives" 2))
  field_plus := fm_slot (c.fact 104 (f := .slot "Field" "own_plus" 3))
  field_size := fm_slot (c.fact 105 (f := .slot "Field" "own_size" 4))
  field_times := fm_slot (c.fact 106 (f := .slot "Field" "own_times" 5))
  neField := fm_nee (c.fact 135 (f := .nee "Field"))
  cRoom := fm_cls X G (c.fact 22 (f := .glo "Room")) (c.fact 23 (f := .scls "Room"))
  room_basis := fm_slot (c.fact 107 (f := .slot "Room" "own_basis" 0))
  room_field := fm_slot (c.fact 108 (f := .slot "Room" "own_field" 1))
  room_slope := fm_slot (c.fact 109 (f := .slot "Room" "own_slope" 2))
  neRoom := fm_nee (c.fact 136 (f := .nee "Room"))
  sfRoom := fm_sef (c.fact 137 (f := .sef "Room"))
  gcd_ := fm_blt X G (c.fact 138 (f := .blt "gcd" "math.gcd"))
theorem SaysM.defN {fa : List Fm} {fn : List (Bool × DefM)} {K : PySem.W.Frag} (c : SaysM fa fn K) (i : Nat) {d : DefM} (h : fn[i]? = some (false, d) := by rfl) : ∃ fd, FunD K d.name d.qual (defArgs d.st) (defBody d.st) (defScope d.st) [] [] (adOf K d.at_) fd := by
  obtain ⟨fd, dvs, e, _, F⟩ := c.def_ i h
  have z := e rfl
  subst z
  exact ⟨fd, F⟩
theorem binds_shelf {f : Addr} {fd : FuncData} {dvs : List V} (hd : dvs.length = 1) (F : FunD K "__init__" "Shelf.__init__" (defArgs s_Shelf___init__) (defBody s_Shelf___init__) (defScope s_Shelf___init__) dvs [] f fd) : L2.Binds K fd ["self", "slope", "gaps"] [] := by
  obtain ⟨ds, v, b⟩ := FunD.binds1 (ps := ["self", "slope", "gaps"]) F 3 1 (fun z => by rw [z] at hd; cases hd) (by rw [hd]; rfl) fun T kV doc pm an cdv ct us its hu hi => match us, hu, its, (hi.trans hd) with
    | [_, _, _], _, [_], _ => ⟨_, rfl, rfl⟩
  have e : dvs.drop 1 = [] := by rw [List.drop_eq_nil_iff]; omega
  rw [e] at v
  cases v
  exact b
theorem facts {fL : Addr} (X : K.In h) (G : h.Ns mainGlobals mg) (hfa : mg ("law" : Str) = some (.ref fL)) (c : SaysM fa fn K) :
    ∃ fd : FuncData, (∀ (s : Shared) (u : Value), BindsTo s fd ⟨[u], []⟩ [("_law_script", u)]) ∧ ∀ base : Heap, K.In base → base.Ns mainGlobals mg → FnG P w K mg base 16 fL fd ["_law_script"] (spN K (c_law K)) := by
  have T := tk_of X G c
  obtain ⟨fd_is_integer, F_is_integer⟩ := c.defN 0 (d := ⟨.glo "is_integer", "is_integer", "is_integer", tp 14, []⟩)
  obtain ⟨fd_require_integer, F_require_integer⟩ := c.defN 1 (d := ⟨.glo "require_integer", "require_integer", "require_integer", tp 15, []⟩)
  obtain ⟨fd_is_from, F_is_from⟩ := c.defN 2 (d := ⟨.glo "is_from", "is_from", "is_from", tp 16, []⟩)
  obtain ⟨fd_require_from, F_require_from⟩ := c.defN 3 (d := ⟨.glo "require_from", "require_from", "require_from", tp 17, []⟩)
  obtain ⟨fd_Slope___init__, F_Slope___init__⟩ := c.defN 71 (d := ⟨.met "Slope" "__init__", "__init__", "Slope.__init__", L2.inClass (tp 22) 1, []⟩)
  obtain ⟨fd_Slope___eq__, F_Slope___eq__⟩ := c.defN 72 (d := ⟨.met "Slope" "__eq__", "__eq__", "Slope.__eq__", L2.inClass (tp 22) 9, []⟩)
  obtain ⟨fd_Slope_rises, F_Slope_rises⟩ := c.defN 85 (d := ⟨.prp "Slope" "rises", "rises", "Slope.rises", L2.inClass (tp 22) 3, []⟩)
  obtain ⟨fd_Slope_steps, F_Slope_steps⟩ := c.defN 86 (d := ⟨.prp "Slope" "steps", "steps", "Slope.steps", L2.inClass (tp 22) 4, []⟩)
  obtain ⟨fd_require_slope, F_require_slope⟩ := c.defN 6 (d := ⟨.glo "require_slope", "require_slope", "require_slope", tp 23, []⟩)
  obtain ⟨fd_require_coprime, F_require_coprime⟩ := c.defN 7 (d := ⟨.glo "require_coprime", "require_coprime", "require_coprime", tp 24, []⟩)
  obtain ⟨fd_digits_of, F_digits_of⟩ := c.defN 10 (d := ⟨.glo "digits_of", "digits_of", "digits_of", tp 39, []⟩)
  obtain ⟨fd_element_of, F_element_of⟩ := c.defN 11 (d := ⟨.glo "element_of", "element_of", "element_of", tp 40, []⟩)
  obtain ⟨fd_sum_in, F_sum_in⟩ := c.defN 12 (d := ⟨.glo "sum_in", "sum_in", "sum_in", tp 41, []⟩)
  obtain ⟨fd_product_in, F_product_in⟩ := c.defN 13 (d := ⟨.glo "product_in", "product_in", "product_in", tp 42, []⟩)
  obtain ⟨fd_Field___contains__, F_Field___contains__⟩ := c.defN 78 (d := ⟨.met "Field" "__contains__", "__contains__", "Field.__contains__", L2.inClass (tp 43) 14, []⟩)
  obtain ⟨fd_Field___eq__, F_Field___eq__⟩ := c.defN 79 (d := ⟨.met "Field" "__eq__", "__eq__", "Field.__eq__", L2.inClass (tp 43) 17, []⟩)
  obtain ⟨fd_require_field, F_require_field⟩ := c.defN 14 (d := ⟨.glo "require_field", "require_field", "require_field", tp 44, []⟩)
  obtain ⟨fd_require_elements, F_require_elements⟩ := c.defN 15 (d := ⟨.glo "require_elements", "require_elements", "require_elements", tp 45, []⟩)
  obtain ⟨fd_Field_plus, F_Field_plus⟩ := c.defN 76 (d := ⟨.met "Field" "plus", "plus", "Field.plus", L2.inClass (tp 43) 6, []⟩)
  obtain ⟨fd_Field_times, F_Field_times⟩ := c.defN 77 (d := ⟨.met "Field" "times", "times", "Field.times", L2.inClass (tp 43) 8, []⟩)
  obtain ⟨fd_is_row_of, F_is_row_of⟩ := c.defN 16 (d := ⟨.glo "is_row_of", "is_row_of", "is_row_of", tp 48, []⟩)
  obtain ⟨fd_are_rows_of, F_are_rows_of⟩ := c.defN 17 (d := ⟨.glo "are_rows_of", "are_rows_of", "are_rows_of", tp 49, []⟩)
  obtain ⟨fd_order_of_row, F_order_of_row⟩ := c.defN 18 (d := ⟨.glo "order_of_row", "order_of_row", "order_of_row", tp 50, []⟩)
  obtain ⟨fd_added_times, F_added_times⟩ := c.defN 19 (d := ⟨.glo "added_times", "added_times", "added_times", tp 51, []⟩)
  obtain ⟨fd_row_less, F_row_less⟩ := c.defN 20 (d := ⟨.glo "row_less", "row_less", "row_less", tp 52, []⟩)
  obtain ⟨fd_scaled, F_scaled⟩ := c.defN 21 (d := ⟨.glo "scaled", "scaled", "scaled", tp 53, []⟩)
  obtain ⟨fd_reduced, F_reduced⟩ := c.defN 22 (d := ⟨.glo "reduced", "reduced", "reduced", tp 54, []⟩)
  obtain ⟨fd_plain_by_orders, F_plain_by_orders⟩ := c.defN 23 (d := ⟨.glo "plain_by_orders", "plain_by_orders", "plain_by_orders", tp 55, []⟩)
  obtain ⟨fd_plain_of, F_plain_of⟩ := c.defN 24 (d := ⟨.glo "plain_of", "plain_of", "plain_of", tp 56, []⟩)
  obtain ⟨fd_across_of, F_across_of⟩ := c.defN 25 (d := ⟨.glo "across_of", "across_of", "across_of", tp 57, []⟩)
  obtain ⟨fd_require_rows, F_require_rows⟩ := c.defN 26 (d := ⟨.glo "require_rows", "require_rows", "require_rows", tp 58, []⟩)
  obtain ⟨fd_require_row, F_require_row⟩ := c.defN 27 (d := ⟨.glo "require_row", "require_row", "require_row", tp 59, []⟩)
  obtain ⟨fd_plain_rows, F_plain_rows⟩ := c.defN 28 (d := ⟨.glo "plain_rows", "plain_rows", "plain_rows", tp 60, []⟩)
  obtain ⟨fd_across, F_across⟩ := c.defN 29 (d := ⟨.glo "across", "across", "across", tp 61, []⟩)
  obtain ⟨fd_product_of_rows, F_product_of_rows⟩ := c.defN 30 (d := ⟨.glo "product_of_rows", "product_of_rows", "product_of_rows", tp 63, []⟩)
  obtain ⟨fd_row_product, F_row_product⟩ := c.defN 31 (d := ⟨.glo "row_product", "row_product", "row_product", tp 64, []⟩)
  obtain ⟨fd_moved_row, F_moved_row⟩ := c.defN 32 (d := ⟨.glo "moved_row", "moved_row", "moved_row", tp 65, []⟩)
  obtain ⟨fd_row_moved, F_row_moved⟩ := c.defN 33 (d := ⟨.glo "row_moved", "row_moved", "row_moved", tp 66, []⟩)
  obtain ⟨fd_width_of, F_width_of⟩ := c.defN 34 (d := ⟨.glo "width_of", "width_of", "width_of", tp 71, []⟩)
  obtain ⟨fd_order_of, F_order_of⟩ := c.defN 35 (d := ⟨.glo "order_of", "order_of", "order_of", tp 72, []⟩)
  obtain ⟨fd_moved_rows, F_moved_rows⟩ := c.defN 36 (d := ⟨.glo "moved_rows", "moved_rows", "moved_rows", tp 73, []⟩)
  obtain ⟨fd_is_closed, F_is_closed⟩ := c.defN 37 (d := ⟨.glo "is_closed", "is_closed", "is_closed", tp 74, []⟩)
  obtain ⟨fd_is_room_basis, F_is_room_basis⟩ := c.defN 38 (d := ⟨.glo "is_room_basis", "is_room_basis", "is_room_basis", tp 75, []⟩)
  obtain ⟨fd_are_room_rows, F_are_room_rows⟩ := c.defN 39 (d := ⟨.glo "are_room_rows", "are_room_rows", "are_room_rows", tp 76, []⟩)
  obtain ⟨fd_require_place, F_require_place⟩ := c.defN 40 (d := ⟨.glo "require_place", "require_place", "require_place", tp 77, []⟩)
  obtain ⟨fd_are_integers, F_are_integers⟩ := c.defN 4 (d := ⟨.glo "are_integers", "are_integers", "are_integers", tp 18, []⟩)
  obtain ⟨fd_are_ascending, F_are_ascending⟩ := c.defN 5 (d := ⟨.glo "are_ascending", "are_ascending", "are_ascending", tp 19, []⟩)
  obtain ⟨fd_are_gaps, F_are_gaps⟩ := c.defN 8 (d := ⟨.glo "are_gaps", "are_gaps", "are_gaps", tp 26, []⟩)
  obtain ⟨fd_least_by, F_least_by⟩ := c.defN 9 (d := ⟨.glo "least_by", "least_by", "least_by", tp 27, []⟩)
  obtain ⟨fd_Shelf___init__, dvs_S, _, eS, F_Shelf___init__⟩ := c.def_ 73 (one := true) (d := ⟨.met "Shelf" "__init__", "__init__", "Shelf.__init__", L2.inClass (tp 29) 1, []⟩)
  obtain ⟨fd_Shelf___eq__, F_Shelf___eq__⟩ := c.defN 74 (d := ⟨.met "Shelf" "__eq__", "__eq__", "Shelf.__eq__", L2.inClass (tp 29) 20, []⟩)
  obtain ⟨fd_Field___init__, F_Field___init__⟩ := c.defN 75 (d := ⟨.met "Field" "__init__", "__init__", "Field.__init__", L2.inClass (tp 43) 1, []⟩)
  obtain ⟨fd_Room___init__, F_Room___init__⟩ := c.defN 80 (d := ⟨.met "Room" "__init__", "__init__", "Room.__init__", L2.inClass (tp 78) 1, []⟩)
  obtain ⟨fd_Room_basis, F_Room_basis⟩ := c.defN 87 (d := ⟨.prp "Room" "basis", "basis", "Room.basis", L2.inClass (tp 78) 6, []⟩)
  obtain ⟨fd_Room_orders, F_Room_orders⟩ := c.defN 88 (d := ⟨.prp "Room" "orders", "orders", "Room.orders", L2.inClass (tp 78) 7, []⟩)
  obtain ⟨fd_Room_shelf, F_Room_shelf⟩ := c.defN 89 (d := ⟨.prp "Room" "shelf", "shelf", "Room.shelf", L2.inClass (tp 78) 8, []⟩)
  obtain ⟨fd_Room_by_row, F_Room_by_row⟩ := c.defN 81 (d := ⟨.met "Room" "by_row", "by_row", "Room.by_row", L2.inClass (tp 78) 11, []⟩)
  obtain ⟨fd_require_room, F_require_room⟩ := c.defN 41 (d := ⟨.glo "require_room", "require_room", "require_room", tp 79, []⟩)
  obtain ⟨fd_require_like_room, F_require_like_room⟩ := c.defN 42 (d := ⟨.glo "require_like_room", "require_like_room", "require_like_room", tp 80, []⟩)
  obtain ⟨fd_Room___add__, F_Room___add__⟩ := c.defN 82 (d := ⟨.met "Room" "__add__", "__add__", "Room.__add__", L2.inClass (tp 78) 14, []⟩)
  obtain ⟨fd_Room___len__, F_Room___len__⟩ := c.defN 83 (d := ⟨.met "Room" "__len__", "__len__", "Room.__len__", L2.inClass (tp 78) 16, []⟩)
  obtain ⟨fd_Room___eq__, F_Room___eq__⟩ := c.defN 84 (d := ⟨.met "Room" "__eq__", "__eq__", "Room.__eq__", L2.inClass (tp 78) 17, []⟩)
  obtain ⟨fd_sum_of_products, F_sum_of_products⟩ := c.defN 43 (d := ⟨.glo "sum_of_products", "sum_of_products", "sum_of_products", tp 81, []⟩)
  obtain ⟨fd_conditions_for, F_conditions_for⟩ := c.defN 44 (d := ⟨.glo "conditions_for", "conditions_for", "conditions_for", tp 82, []⟩)
  obtain ⟨fd_maps_between, F_maps_between⟩ := c.defN 45 (d := ⟨.glo "maps_between", "maps_between", "maps_between", tp 83, []⟩)
  obtain ⟨fd_factor, F_factor⟩ := c.defN 46 (d := ⟨.glo "factor", "factor", "factor", tp 84, []⟩)
  obtain ⟨fd__law_field_shape, F__law_field_shape⟩ := c.defN 50 (d := ⟨.glo "_law_field_shape", "_law_field_shape", "_law_field_shape", tp 89, []⟩)
  obtain ⟨fd__law_field_digits, F__law_field_digits⟩ := c.defN 51 (d := ⟨.glo "_law_field_digits", "_law_field_digits", "_law_field_digits", tp 90, []⟩)
  obtain ⟨fd__law_field_element, F__law_field_element⟩ := c.defN 52 (d := ⟨.glo "_law_field_element", "_law_field_element", "_law_field_element", tp 91, []⟩)
  obtain ⟨fd__law_field_product, F__law_field_product⟩ := c.defN 53 (d := ⟨.glo "_law_field_product", "_law_field_product", "_law_field_product", tp 92, []⟩)
  obtain ⟨fd__law_field, F__law_field⟩ := c.defN 54 (d := ⟨.glo "_law_field", "_law_field", "_law_field", tp 93, []⟩)
  obtain ⟨fd__law_row_plus, F__law_row_plus⟩ := c.defN 55 (d := ⟨.glo "_law_row_plus", "_law_row_plus", "_law_row_plus", tp 94, []⟩)
  obtain ⟨fd__law_row_moved, F__law_row_moved⟩ := c.defN 57 (d := ⟨.glo "_law_row_moved", "_law_row_moved", "_law_row_moved", tp 96, []⟩)
  obtain ⟨fd__law_row_product, F__law_row_product⟩ := c.defN 58 (d := ⟨.glo "_law_row_product", "_law_row_product", "_law_row_product", tp 97, []⟩)
  obtain ⟨fd__law_row_inverse, F__law_row_inverse⟩ := c.defN 59 (d := ⟨.glo "_law_row_inverse", "_law_row_inverse", "_law_row_inverse", tp 98, []⟩)
  obtain ⟨fd__law_plain, F__law_plain⟩ := c.defN 60 (d := ⟨.glo "_law_plain", "_law_plain", "_law_plain", tp 99, []⟩)
  obtain ⟨fd__law_all_rows, F__law_all_rows⟩ := c.defN 61 (d := ⟨.glo "_law_all_rows", "_law_all_rows", "_law_all_rows", tp 100, []⟩)
  obtain ⟨fd__law_room_closed, F__law_room_closed⟩ := c.defN 62 (d := ⟨.glo "_law_room_closed", "_law_room_closed", "_law_room_closed", tp 101, []⟩)
  obtain ⟨fd__law_product, F__law_product⟩ := c.defN 66 (d := ⟨.glo "_law_product", "_law_product", "_law_product", tp 105, []⟩)
  obtain ⟨fd__law_roll, F__law_roll⟩ := c.defN 48 (d := ⟨.glo "_law_roll", "_law_roll", "_law_roll", tp 87, []⟩)
  obtain ⟨fd__law_pick, F__law_pick⟩ := c.defN 49 (d := ⟨.glo "_law_pick", "_law_pick", "_law_pick", tp 88, []⟩)
  obtain ⟨fd__law_row_drawn, F__law_row_drawn⟩ := c.defN 56 (d := ⟨.glo "_law_row_drawn", "_law_row_drawn", "_law_row_drawn", tp 95, []⟩)
  obtain ⟨fd__law_first_row, F__law_first_row⟩ := c.defN 65 (d := ⟨.glo "_law_first_row", "_law_first_row", "_law_first_row", tp 104, []⟩)
  obtain ⟨fd__law_room_drawn, F__law_room_drawn⟩ := c.defN 64 (d := ⟨.glo "_law_room_drawn", "_law_room_drawn", "_law_room_drawn", tp 103, []⟩)
  obtain ⟨fd__law_room_slope, F__law_room_slope⟩ := c.defN 63 (d := ⟨.glo "_law_room_slope", "_law_room_slope", "_law_room_slope", tp 102, []⟩)
  obtain ⟨fd__law_leads, F__law_leads⟩ := c.defN 67 (d := ⟨.glo "_law_leads", "_law_leads", "_law_leads", tp 106, []⟩)
  obtain ⟨fd__law_is_factor, F__law_is_factor⟩ := c.defN 68 (d := ⟨.glo "_law_is_factor", "_law_is_factor", "_law_is_factor", tp 107, []⟩)
  obtain ⟨fd__law_dice, F__law_dice⟩ := c.defN 47 (d := ⟨.glo "_law_dice", "_law_dice", "_law_dice", tp 86, []⟩)
  obtain ⟨fd__law_right, F__law_right⟩ := c.defN 69 (d := ⟨.glo "_law_right", "_law_right", "_law_right", tp 108, []⟩)
  obtain ⟨fd_law, F_law⟩ := c.defN 70 (d := ⟨.glo "law", "law", "law", tp 109, []⟩)
  have g_is_integer := (fm_glo X G (c.fact 24 (f := .glo "is_integer"))).1
  have g_require_integer := (fm_glo X G (c.fact 25 (f := .glo "require_integer"))).1
  have g_is_from := (fm_glo X G (c.fact 26 (f := .glo "is_from"))).1
  have g_require_from := (fm_glo X G (c.fact 27 (f := .glo "require_from"))).1
  have g_require_slope := (fm_glo X G (c.fact 30 (f := .glo "require_slope"))).1
  have g_require_coprime := (fm_glo X G (c.fact 31 (f := .glo "require_coprime"))).1
  have g_digits_of := (fm_glo X G (c.fact 34 (f := .glo "digits_of"))).1
  have g_element_of := (fm_glo X G (c.fact 35 (f := .glo "element_of"))).1
  have g_sum_in := (fm_glo X G (c.fact 36 (f := .glo "sum_in"))).1
  have g_product_in := (fm_glo X G (c.fact 37 (f := .glo "product_in"))).1
  have g_require_field := (fm_glo X G (c.fact 38 (f := .glo "require_field"))).1
  have g_require_elements := (fm_glo X G (c.fact 39 (f := .glo "require_elements"))).1
  have g_is_row_of := (fm_glo X G (c.fact 40 (f := .glo "is_row_of"))).1
  have g_are_rows_of := (fm_glo X G (c.fact 41 (f := .glo "are_rows_of"))).1
  have g_order_of_row := (fm_glo X G (c.fact 42 (f := .glo "order_of_row"))).1
  have g_added_times := (fm_glo X G (c.fact 43 (f := .glo "added_times"))).1
  have g_row_less := (fm_glo X G (c.fact 44 (f := .glo "row_less"))).1
  have g_scaled := (fm_glo X G (c.fact 45 (f := .glo "scaled"))).1
  have g_reduced := (fm_glo X G (c.fact 46 (f := .glo "reduced"))).1
  have g_plain_by_orders := (fm_glo X G (c.fact 47 (f := .glo "plain_by_orders"))).1
  have g_plain_of := (fm_glo X G (c.fact 48 (f := .glo "plain_of"))).1
  have g_across_of := (fm_glo X G (c.fact 49 (f := .glo "across_of"))).1
  have g_require_rows := (fm_glo X G (c.fact 50 (f := .glo "require_rows"))).1
  have g_require_row := (fm_glo X G (c.fact 51 (f := .glo "require_row"))).1
  have g_plain_rows := (fm_glo X G (c.fact 52 (f := .glo "plain_rows"))).1
  have g_across := (fm_glo X G (c.fact 53 (f := .glo "across"))).1
  have g_product_of_rows := (fm_glo X G (c.fact 54 (f := .glo "product_of_rows"))).1
  have g_row_product := (fm_glo X G (c.fact 55 (f := .glo "row_product"))).1
  have g_moved_row := (fm_glo X G (c.fact 56 (f := .glo "moved_row"))).1
  have g_row_moved := (fm_glo X G (c.fact 57 (f := .glo "row_moved"))).1
  have g_width_of := (fm_glo X G (c.fact 58 (f := .glo "width_of"))).1
  have g_order_of := (fm_glo X G (c.fact 59 (f := .glo "order_of"))).1
  have g_moved_rows := (fm_glo X G (c.fact 60 (f := .glo "moved_rows"))).1
  have g_is_closed := (fm_glo X G (c.fact 61 (f := .glo "is_closed"))).1
  have g_is_room_basis := (fm_glo X G (c.fact 62 (f := .glo "is_room_basis"))).1
  have g_are_room_rows := (fm_glo X G (c.fact 63 (f := .glo "are_room_rows"))).1
  have g_require_place := (fm_glo X G (c.fact 64 (f := .glo "require_place"))).1
  have g_are_integers := (fm_glo X G (c.fact 28 (f := .glo "are_integers"))).1
  have g_are_ascending := (fm_glo X G (c.fact 29 (f := .glo "are_ascending"))).1
  have g_are_gaps := (fm_glo X G (c.fact 32 (f := .glo "are_gaps"))).1
  have g_least_by := (fm_glo X G (c.fact 33 (f := .glo "least_by"))).1
  have g_require_room := (fm_glo X G (c.fact 65 (f := .glo "require_room"))).1
  have g_require_like_room := (fm_glo X G (c.fact 66 (f := .glo "require_like_room"))).1
  have g_sum_of_products := (fm_glo X G (c.fact 67 (f := .glo "sum_of_products"))).1
  have g_conditions_for := (fm_glo X G (c.fact 68 (f := .glo "conditions_for"))).1
  have g_maps_between := (fm_glo X G (c.fact 69 (f := .glo "maps_between"))).1
  have g_factor := (fm_glo X G (c.fact 70 (f := .glo "factor"))).1
  have g__law_field_shape := (fm_glo X G (c.fact 74 (f := .glo "_law_field_shape"))).1
  have g__law_field_digits := (fm_glo X G (c.fact 75 (f := .glo "_law_field_digits"))).1
  have g__law_field_element := (fm_glo X G (c.fact 76 (f := .glo "_law_field_element"))).1
  have g__law_field_product := (fm_glo X G (c.fact 77 (f := .glo "_law_field_product"))).1
  have g__law_field := (fm_glo X G (c.fact 78 (f := .glo "_law_field"))).1
  have g__law_row_plus := (fm_glo X G (c.fact 79 (f := .glo "_law_row_plus"))).1
  have g__law_row_moved := (fm_glo X G (c.fact 81 (f := .glo "_law_row_moved"))).1
  have g__law_row_product := (fm_glo X G (c.fact 82 (f := .glo "_law_row_product"))).1
  have g__law_row_inverse := (fm_glo X G (c.fact 83 (f := .glo "_law_row_inverse"))).1
  have g__law_plain := (fm_glo X G (c.fact 84 (f := .glo "_law_plain"))).1
  have g__law_all_rows := (fm_glo X G (c.fact 85 (f := .glo "_law_all_rows"))).1
  have g__law_room_closed := (fm_glo X G (c.fact 86 (f := .glo "_law_room_closed"))).1
  have g__law_product := (fm_glo X G (c.fact 90 (f := .glo "_law_product"))).1
  have g__law_roll := (fm_glo X G (c.fact 72 (f := .glo "_law_roll"))).1
  have g__law_pick := (fm_glo X G (c.fact 73 (f := .glo "_law_pick"))).1
  have g__law_row_drawn := (fm_glo X G (c.fact 80 (f := .glo "_law_row_drawn"))).1
  have g__law_first_row := (fm_glo X G (c.fact 89 (f := .glo "_law_first_row"))).1
  have g__law_room_drawn := (fm_glo X G (c.fact 88 (f := .glo "_law_room_drawn"))).1
  have g__law_room_slope := (fm_glo X G (c.fact 87 (f := .glo "_law_room_slope"))).1
  have g__law_leads := (fm_glo X G (c.fact 91 (f := .glo "_law_leads"))).1
  have g__law_is_factor := (fm_glo X G (c.fact 92 (f := .glo "_law_is_factor"))).1
  have g__law_dice := (fm_glo X G (c.fact 71 (f := .glo "_law_dice"))).1
  have g__law_right := (fm_glo X G (c.fact 93 (f := .glo "_law_right"))).1
  have g_law := (fm_glo X G (c.fact 94 (f := .glo "law"))).1
  have eL := hfa.symm.trans g_law
  cases eL
  have bL := FunD.bindsA (ps := ["_law_script"]) F_law fun _ _ _ _ _ _ us hl => match us, hl with | [_], _ => rfl
  refine ⟨fd_law, fun s v => bL s [v] rfl, fun base _ _ => ?_⟩
  have G_is_integer := fo_is_integer (P := P) (w := w) (base := base) F_is_integer g_is_integer T 
  have G_require_integer := fo_require_integer (P := P) (w := w) (base := base) F_require_integer g_require_integer T G_is_integer
  have G_is_from := fo_is_from (P := P) (w := w) (base := base) F_is_from g_is_from T G_is_integer
  have G_require_from := fo_require_from (P := P) (w := w) (base := base) F_require_from g_require_from T G_is_from
  have G_Slope___init__ := fo_Slope___init__ (P := P) (w := w) (base := base) (fm_mkr (c.fact 129 (f := .mkr "Slope"))) F_Slope___init__ (FunD.bindsN (ps := ["self", "rises", "steps"]) F_Slope___init__ fun _ _ _ _ _ _ us hl => match us, hl with | [_, _, _], _ => rfl) T G_require_from
  have G_Slope___eq__ := fo_Slope___eq__ (P := P) (w := w) (base := base) ⟨fm_meth (c.fact 111 (f := .meth "Slope" "__eq__")), F_Slope___eq__⟩ T 
  have G_Slope_rises := fo_Slope_rises (P := P) (w := w) (base := base) (let z := fm_prop (c.fact 124 (f := .prop "Slope" "rises")); ⟨z.1, z.2.1, z.2.2.1, z.2.2.2, F_Slope_rises⟩) T 
  have G_Slope_steps := fo_Slope_steps (P := P) (w := w) (base := base) (let z := fm_prop (c.fact 125 (f := .prop "Slope" "steps")); ⟨z.1, z.2.1, z.2.2.1, z.2.2.2, F_Slope_steps⟩) T 
  have G_require_slope := fo_require_slope (P := P) (w := w) (base := base) F_require_slope g_require_slope T 
  have G_require_coprime := fo_require_coprime (P := P) (w := w) (base := base) F_require_coprime g_require_coprime T 
  have G_digits_of := fo_digits_of (P := P) (w := w) (base := base) F_digits_of g_digits_of T 
  have G_element_of := fo_element_of (P := P) (w := w) (base := base) F_element_of g_element_of T 
  have G_sum_in := fo_sum_in (P := P) (w := w) (base := base) F_sum_in g_sum_in T G_element_of G_digits_of
  have G_product_in := fo_product_in (P := P) (w := w) (base := base) F_product_in g_product_in T G_element_of G_digits_of
  have G_Field___contains__ := fo_Field___contains__ (P := P) (w := w) (base := base) ⟨fm_meth (c.fact 117 (f := .meth "Field" "__contains__")), F_Field___contains__⟩ T G_is_from
  have G_Field___eq__ := fo_Field___eq__ (P := P) (w := w) (base := base) ⟨fm_meth (c.fact 118 (f := .meth "Field" "__eq__")), F_Field___eq__⟩ T 
  have G_require_field := fo_require_field (P := P) (w := w) (base := base) F_require_field g_require_field T 
  have G_require_elements := fo_require_elements (P := P) (w := w) (base := base) F_require_elements g_require_elements T G_Field___contains__
  have G_Field_plus := fo_Field_plus (P := P) (w := w) (base := base) ⟨fm_meth (c.fact 115 (f := .meth "Field" "plus")), F_Field_plus⟩ T G_require_elements
  have G_Field_times := fo_Field_times (P := P) (w := w) (base := base) ⟨fm_meth (c.fact 116 (f := .meth "Field" "times")), F_Field_times⟩ T G_require_elements
  have G_is_row_of := fo_is_row_of (P := P) (w := w) (base := base) F_is_row_of g_is_row_of T G_Field___contains__
  have G_are_rows_of := fo_are_rows_of (P := P) (w := w) (base := base) F_are_rows_of g_are_rows_of T G_is_row_of
  have G_order_of_row := fo_order_of_row (P := P) (w := w) (base := base) F_order_of_row g_order_of_row T 
  have G_added_times := fo_added_times (P := P) (w := w) (base := base) F_added_times g_added_times T 
  have G_row_less := fo_row_less (P := P) (w := w) (base := base) F_row_less g_row_less T G_added_times
  have G_scaled := fo_scaled (P := P) (w := w) (base := base) F_scaled g_scaled T 
  have G_reduced := fo_reduced (P := P) (w := w) (base := base) F_reduced g_reduced T G_row_less
  have G_plain_by_orders := fo_plain_by_orders (P := P) (w := w) (base := base) F_plain_by_orders g_plain_by_orders T G_reduced G_scaled G_order_of_row
  have G_plain_of := fo_plain_of (P := P) (w := w) (base := base) F_plain_of g_plain_of T G_plain_by_orders
  have G_across_of := fo_across_of (P := P) (w := w) (base := base) F_across_of g_across_of T G_plain_of G_plain_by_orders
  have G_require_rows := fo_require_rows (P := P) (w := w) (base := base) F_require_rows g_require_rows T G_are_rows_of G_require_from G_require_field
  have G_require_row := fo_require_row (P := P) (w := w) (base := base) F_require_row g_require_row T G_is_row_of G_require_field
  have G_plain_rows := fo_plain_rows (P := P) (w := w) (base := base) F_plain_rows g_plain_rows T G_plain_of G_require_rows
  have G_across := fo_across (P := P) (w := w) (base := base) F_across g_across T G_across_of G_require_rows
  have G_product_of_rows := fo_product_of_rows (P := P) (w := w) (base := base) F_product_of_rows g_product_of_rows T G_added_times
  have G_row_product := fo_row_product (P := P) (w := w) (base := base) F_row_product g_row_product T G_product_of_rows G_is_row_of G_require_row
  have G_moved_row := fo_moved_row (P := P) (w := w) (base := base) F_moved_row g_moved_row T 
  have G_row_moved := fo_row_moved (P := P) (w := w) (base := base) F_row_moved g_row_moved T G_moved_row G_require_integer G_require_row
  have G_width_of := fo_width_of (P := P) (w := w) (base := base) F_width_of g_width_of T G_Slope_rises G_Slope_steps G_require_coprime
  have G_order_of := fo_order_of (P := P) (w := w) (base := base) F_order_of g_order_of T 
  have G_moved_rows := fo_moved_rows (P := P) (w := w) (base := base) F_moved_rows g_moved_rows T G_row_moved
  have G_is_closed := fo_is_closed (P := P) (w := w) (base := base) F_is_closed g_is_closed T G_Slope_steps G_Slope_rises G_plain_rows G_moved_rows G_width_of
  have G_is_room_basis := fo_is_room_basis (P := P) (w := w) (base := base) F_is_room_basis g_is_room_basis T G_is_closed G_width_of
  have G_are_room_rows := fo_are_room_rows (P := P) (w := w) (base := base) F_are_room_rows g_are_room_rows T G_is_room_basis G_plain_rows G_are_rows_of G_width_of
  have G_require_place := fo_require_place (P := P) (w := w) (base := base) F_require_place g_require_place T G_width_of G_require_slope G_require_field
  have G_are_integers := fo_are_integers (P := P) (w := w) (base := base) F_are_integers g_are_integers T G_is_integer
  have G_are_ascending := fo_are_ascending (P := P) (w := w) (base := base) F_are_ascending g_are_ascending T 
  have G_are_gaps := fo_are_gaps (P := P) (w := w) (base := base) F_are_gaps g_are_gaps T G_are_ascending G_are_integers
  have G_least_by := fo_least_by (P := P) (w := w) (base := base) F_least_by g_least_by T 
  have G_Shelf___init__ := fo_Shelf___init__ (P := P) (w := w) (base := base) (fm_mkr (c.fact 130 (f := .mkr "Shelf"))) F_Shelf___init__ (binds_shelf (eS rfl) F_Shelf___init__) T G_least_by G_are_gaps G_require_coprime G_require_slope
  have G_Shelf___eq__ := fo_Shelf___eq__ (P := P) (w := w) (base := base) ⟨fm_meth (c.fact 113 (f := .meth "Shelf" "__eq__")), F_Shelf___eq__⟩ T G_Slope___eq__
  have G_Field___init__ := fo_Field___init__ (P := P) (w := w) (base := base) (fm_mkr (c.fact 131 (f := .mkr "Field"))) F_Field___init__ (FunD.bindsN (ps := ["self", "size"]) F_Field___init__ fun _ _ _ _ _ _ us hl => match us, hl with | [_, _], _ => rfl) T G_product_in G_sum_in G_is_integer
  have G_Room___init__ := fo_Room___init__ (P := P) (w := w) (base := base) (fm_mkr (c.fact 132 (f := .mkr "Room"))) F_Room___init__ (FunD.bindsN (ps := ["self", "field", "slope", "rows"]) F_Room___init__ fun _ _ _ _ _ _ us hl => match us, hl with | [_, _, _, _], _ => rfl) T G_plain_rows G_width_of G_are_room_rows G_require_place
  have G_Room_basis := fo_Room_basis (P := P) (w := w) (base := base) (let z := fm_prop (c.fact 126 (f := .prop "Room" "basis")); ⟨z.1, z.2.1, z.2.2.1, z.2.2.2, F_Room_basis⟩) T 
  have G_Room_orders := fo_Room_orders (P := P) (w := w) (base := base) (let z := fm_prop (c.fact 127 (f := .prop "Room" "orders")); ⟨z.1, z.2.1, z.2.2.1, z.2.2.2, F_Room_orders⟩) T G_order_of
  have G_Room_shelf := fo_Room_shelf (P := P) (w := w) (base := base) (let z := fm_prop (c.fact 128 (f := .prop "Room" "shelf")); ⟨z.1, z.2.1, z.2.2.1, z.2.2.2, F_Room_shelf⟩) T G_Shelf___init__ G_width_of G_Room_orders
  have G_Room_by_row := fo_Room_by_row (P := P) (w := w) (base := base) ⟨fm_meth (c.fact 120 (f := .meth "Room" "by_row")), F_Room_by_row⟩ T G_Room___init__ G_row_product G_is_row_of G_width_of
  have G_require_room := fo_require_room (P := P) (w := w) (base := base) F_require_room g_require_room T 
  have G_require_like_room := fo_require_like_room (P := P) (w := w) (base := base) F_require_like_room g_require_like_room T G_Slope___eq__ G_Field___eq__
  have G_Room___add__ := fo_Room___add__ (P := P) (w := w) (base := base) ⟨fm_meth (c.fact 121 (f := .meth "Room" "__add__")), F_Room___add__⟩ T G_Room___init__ G_require_like_room
  have G_Room___len__ := fo_Room___len__ (P := P) (w := w) (base := base) ⟨fm_meth (c.fact 122 (f := .meth "Room" "__len__")), F_Room___len__⟩ T 
  have G_Room___eq__ := fo_Room___eq__ (P := P) (w := w) (base := base) ⟨fm_meth (c.fact 123 (f := .meth "Room" "__eq__")), F_Room___eq__⟩ T G_Slope___eq__ G_Field___eq__
  have G_sum_of_products := fo_sum_of_products (P := P) (w := w) (base := base) F_sum_of_products g_sum_of_products T G_Field_plus G_Field_times
  have G_conditions_for := fo_conditions_for (P := P) (w := w) (base := base) F_conditions_for g_conditions_for T G_sum_of_products
  have G_maps_between := fo_maps_between (P := P) (w := w) (base := base) F_maps_between g_maps_between T G_across G_plain_rows G_conditions_for G_width_of
  have G_factor := fo_factor (P := P) (w := w) (base := base) F_factor g_factor T G_Room___len__ G_maps_between G_width_of G_require_like_room G_require_room
  have G__law_field_shape := fo__law_field_shape (P := P) (w := w) (base := base) F__law_field_shape g__law_field_shape T 
  have G__law_field_digits := fo__law_field_digits (P := P) (w := w) (base := base) F__law_field_digits g__law_field_digits T G__law_field_shape
  have G__law_field_element := fo__law_field_element (P := P) (w := w) (base := base) F__law_field_element g__law_field_element T G__law_field_shape
  have G__law_field_product := fo__law_field_product (P := P) (w := w) (base := base) F__law_field_product g__law_field_product T G__law_field_element G__law_field_digits
  have G__law_field := fo__law_field (P := P) (w := w) (base := base) F__law_field g__law_field T G__law_field_product G__law_field_element G__law_field_digits
  have G__law_row_plus := fo__law_row_plus (P := P) (w := w) (base := base) F__law_row_plus g__law_row_plus T 
  have G__law_row_moved := fo__law_row_moved (P := P) (w := w) (base := base) F__law_row_moved g__law_row_moved T 
  have G__law_row_product := fo__law_row_product (P := P) (w := w) (base := base) F__law_row_product g__law_row_product T 
  have G__law_row_inverse := fo__law_row_inverse (P := P) (w := w) (base := base) F__law_row_inverse g__law_row_inverse T 
  have G__law_plain := fo__law_plain (P := P) (w := w) (base := base) F__law_plain g__law_plain T G__law_row_plus
  have G__law_all_rows := fo__law_all_rows (P := P) (w := w) (base := base) F__law_all_rows g__law_all_rows T 
  have G__law_room_closed := fo__law_room_closed (P := P) (w := w) (base := base) F__law_room_closed g__law_room_closed T G__law_plain G__law_row_moved
  have G__law_product := fo__law_product (P := P) (w := w) (base := base) F__law_product g__law_product T G__law_plain G__law_row_product
  have G__law_roll := fo__law_roll (P := P) (w := w) (base := base) F__law_roll g__law_roll T 
  have G__law_pick := fo__law_pick (P := P) (w := w) (base := base) F__law_pick g__law_pick T G__law_roll
  have G__law_row_drawn := fo__law_row_drawn (P := P) (w := w) (base := base) F__law_row_drawn g__law_row_drawn T G__law_roll
  have G__law_first_row := fo__law_first_row (P := P) (w := w) (base := base) F__law_first_row g__law_first_row T G__law_roll G__law_row_drawn
  have G__law_room_drawn := fo__law_room_drawn (P := P) (w := w) (base := base) F__law_room_drawn g__law_room_drawn T G__law_room_closed G__law_roll G__law_row_drawn
  have G__law_room_slope := fo__law_room_slope (P := P) (w := w) (base := base) F__law_room_slope g__law_room_slope T G__law_pick G__law_roll
  have G__law_leads := fo__law_leads (P := P) (w := w) (base := base) F__law_leads g__law_leads T G__law_product
  have G__law_is_factor := fo__law_is_factor (P := P) (w := w) (base := base) F__law_is_factor g__law_is_factor T G__law_all_rows G__law_leads G_Room_basis G_Room___eq__ G_Room_by_row G_factor
  have GD := fs__law_dice (P := P) (w := w) (base := base) F__law_dice g__law_dice T
  have FR := fg__law_right (P := P) (w := w) (base := base) F__law_right T G_factor G__law_is_factor G_Room___eq__ G_Room_by_row G_Room___add__ G__law_row_inverse G__law_row_product G_Shelf___eq__ G_Room_shelf G_Room_basis G__law_product G__law_first_row G_Room___init__ G__law_room_drawn G_Slope___init__ G_Field___init__ G__law_room_slope G__law_field G__law_pick
  have bR := FunD.bindsN (ps := ["_law_dice_here"]) F__law_right fun _ _ _ _ _ _ us hl => match us, hl with | [_], _ => rfl
  exact fg_law F_law T FR g__law_right F__law_right.kp bR GD G_factor G_Room___init__ G_Slope___init__ G_Field___init__
end
end Dl
open PySem PySem.W PySem.Calls PyProof.Rows
set_option maxRecDepth 100000 in
set_option maxHeartbeats 0 in
theorem PySem.Challenge.cw_slantways_k63_whole_rooms_by_rows_and_fa_holds : PySem.Challenge.rw_slantways_k63_whole_rooms_by_rows_and_fa.Holds := by
  w_on; o_law
  refine HandSHeadRun.head_imp (r := Dh.R) (q := Dh.qv) (H := Dh.hk) (ob := Dh.ob) (M := 20000) (loose := Dh.names) (d := HandSHeadRun.topDef Dh.R.prog 109) (kwd := []) Dh.ob_eq Dh.run (by kernel_rfl) (by kernel_rfl) (by kernel_rfl) (by rfl) (by first | assumption | decide +kernel) (by decide +kernel) ⟨rfl, rfl, rfl, rfl, rfl, by decide +kernel⟩ ?hw ?hc
  case hw => w_witness2
  case hc =>
    refine Dl.walk_ofG (l := PySem.Challenge.rw_slantways_k63_whole_rooms_by_rows_and_fa) (n := 63) (k := 16) (x := "_law_script") rfl (by decide) (by kernel_rfl) ⟨rfl, by decide, by decide⟩ ?F
    intro w mg fa h Y G hmg0
    obtain ⟨K, KX, c⟩ := Y
    have hmg : mg ("law" : PySem.Str) = some (.ref fa) := by
      have e : (HandSHeadRun.topDef Dh.R.prog 109).name = ("law" : PySem.Str) := by kernel_rfl
      rw [← e]
      exact hmg0
    obtain ⟨fd, hb, hF⟩ := Dl.facts (P := PySem.Challenge.rw_slantways_k63_whole_rooms_by_rows_and_fa.prog) (w := w) KX G hmg c
    refine ⟨K, fd, Dl.spN K (Dl.c_law K), KX, hb, fun H a ns hl _ hS => ?_, hF⟩
    exact ⟨H, ns, (show ns.length ≤ 100000 by omega), .cons (.py (.lst hS (Dl.dpa_ofInts ns))) .nil, ⟨Dl.Ex.refl H, fun a e => (by cases e), fun a e => (by cases e)⟩, fun v d F' H' hd hv _ => by
      cases (show d = Dl.Bo true from hd)
      exact Dl.rep_bool hv⟩
