import PyProof.Rows.All
import Wide.All
import OpenK.AllK
import Wide.FinOn
import HandS.ForMost
import HandS.Flow
import HandS.Style
import HandS.IsInst
import HandS.Wide
import HandS.Strs
import HandS.Property
import HandS.Star
import HandS.Defaults
import HandS.SetFor
import HandS.SortInts
import HandS.Small
import KE.KStateDown
import HandS.ForExc
import HandS.Head0
import HandS.Head1
import HandS.Head2
import HandS.HeadEnd
import HandS.HeadHook1
import HandS.HeadHook2
import PySem.Challenge.RW_whatcomesfree_k68_rules_that_keep
set_option Elab.async false
set_option linter.all false
set_option maxRecDepth 100000
set_option maxHeartbeats 4000000
/-! DL0: data over the hand layer: values by what they hold, the owned objects apart; readings without a heap. -/
namespace DL
open PySem PySem.Spec PyProof.Rows L2
abbrev Frag := PySem.W.Frag

/-- a value as data -/
inductive D where
  | non | bl (b : Bool) | int (i : Int) | str (x : Str) | ty (n : String) | ref (a : Addr)
  | lst (xs : List D) | tup (xs : List D) | dic (kvs : List (Key × D)) | obj (C : Addr) (fs : List (Str × D)) | scr (xs : List D)

mutual
inductive Rep (K : Frag) (F : Hp) : V → D → Prop
  | non : Rep K F .non .non
  | bl (b : Bool) : Rep K F (.bl b) (.bl b)
  | int (i : Int) : Rep K F (.int i) (.int i)
  | str (x : Str) : Rep K F (.str x) (.str x)
  | ty (n : String) : Rep K F (.ty n) (.ty n)
  | ref (a : Addr) : Rep K F (.ref a) (.ref a)
  | lst {a : Addr} {xs : List V} {ds : List D} : F a = some (.lst xs) → RepL K F xs ds → Rep K F (.ref a) (.lst ds)
  | scr {a : Addr} {xs : List V} {ds : List D} : SqL K F a xs → RepL K F xs ds → Rep K F (.ref a) (.scr ds)
  | tup {a : Addr} {xs : List V} {ds : List D} : SqT K F a xs → RepL K F xs ds → Rep K F (.ref a) (.tup ds)
  | dic {a : Addr} {kvs : List (Key × V)} {kds : List (Key × D)} : Rd F a (.dK kvs) → RepK K F kvs kds → Rep K F (.ref a) (.dic kds)
  | obj {a C dx : Addr} {fs : List (Str × V)} {fds : List (Str × D)} : F a = some (.ins C dx fs) → RepF K F fs fds → Rep K F (.ref a) (.obj C fds)
inductive RepL (K : Frag) (F : Hp) : List V → List D → Prop
  | nil : RepL K F [] []
  | cons {v : V} {d : D} {vs : List V} {ds : List D} : Rep K F v d → RepL K F vs ds → RepL K F (v :: vs) (d :: ds)
inductive RepK (K : Frag) (F : Hp) : List (Key × V) → List (Key × D) → Prop
  | nil : RepK K F [] []
  | cons {k : Key} {v : V} {d : D} {vs : List (Key × V)} {ds : List (Key × D)} : Rep K F v d → RepK K F vs ds → RepK K F ((k, v) :: vs) ((k, d) :: ds)
inductive RepF (K : Frag) (F : Hp) : List (Str × V) → List (Str × D) → Prop
  | nil : RepF K F [] []
  | cons {k : Str} {v : V} {d : D} {vs : List (Str × V)} {ds : List (Str × D)} : Rep K F v d → RepF K F vs ds → RepF K F ((k, v) :: vs) ((k, d) :: ds)
end

/-- a dict that a walk holds fast is still that dict -/
def unf : HO → HO
  | .frz _ (.dK kvs) => .dK kvs
  | .frz _ (.dT kvs) => .dT kvs
  | u => u
/-- what F knows H' knows -/
def Sm (F F' : Hp) : Prop := ∀ a u, F a = some u → ∃ u', F' a = some u' ∧ unf u' = unf u
theorem Sm.refl (F : Hp) : Sm F F := fun a u h => ⟨u, h, rfl⟩
theorem Sm.trans {F F1 F2 : Hp} (a : Sm F F1) (b : Sm F1 F2) : Sm F F2 := fun x u h => by
  obtain ⟨u1, h1, e1⟩ := a x u h
  obtain ⟨u2, h2, e2⟩ := b x u1 h1
  exact ⟨u2, h2, e2.trans e1⟩
theorem Sm.of_same {F F' : Hp} (h : Same F F') : Sm F F' := fun a u e => ⟨u, h a u e, rfl⟩
theorem unf_lst {u : HO} {xs : List V} (h : unf u = .lst xs) : u = .lst xs := by
  cases u with
  | frz o w => cases w <;> simp [unf] at h
  | _ => simpa [unf] using h
theorem unf_tup {u : HO} {xs : List V} (h : unf u = .tup xs) : u = .tup xs := by
  cases u with
  | frz o w => cases w <;> simp [unf] at h
  | _ => simpa [unf] using h
theorem unf_ins {u : HO} {C dx : Addr} {fs : List (Str × V)} (h : unf u = .ins C dx fs) : u = .ins C dx fs := by
  cases u with
  | frz o w => cases w <;> simp [unf] at h
  | _ => simpa [unf] using h
theorem unf_frzL {u : HO} {o : Obj} {xs : List V} (h : unf u = .frz o (.lst xs)) : u = .frz o (.lst xs) := by
  cases u with
  | frz o' w => cases w <;> simp [unf] at h <;> simp [h]
  | _ => simp [unf] at h
theorem unf_frzT {u : HO} {o : Obj} {xs : List V} (h : unf u = .frz o (.tup xs)) : u = .frz o (.tup xs) := by
  cases u with
  | frz o' w => cases w <;> simp [unf] at h <;> simp [h]
  | _ => simp [unf] at h
theorem unf_dK {u : HO} {kvs : List (Key × V)} (h : unf u = .dK kvs) : u = .dK kvs ∨ ∃ o, u = .frz o (.dK kvs) := by
  cases u with
  | frz o w =>
    cases w with
    | dK k => simp [unf] at h; right; exact ⟨o, by rw [h]⟩
    | _ => simp [unf] at h
  | dK k => left; simpa [unf] using h
  | _ => simp [unf] at h
section
variable {K : Frag} {F F' : Hp} {a : Addr}
theorem Sm.rdL {xs : List V} (s : Sm F F') (h : Rd F a (.lst xs)) : Rd F' a (.lst xs) := by
  rcases h with h | ⟨o, h⟩
  · obtain ⟨u, e, q⟩ := s _ _ h
    exact .inl (by rw [e, unf_lst q])
  · obtain ⟨u, e, q⟩ := s _ _ h
    exact .inr ⟨o, by rw [e, unf_frzL q]⟩
theorem Sm.rdT {xs : List V} (s : Sm F F') (h : Rd F a (.tup xs)) : Rd F' a (.tup xs) := by
  rcases h with h | ⟨o, h⟩
  · obtain ⟨u, e, q⟩ := s _ _ h
    exact .inl (by rw [e, unf_tup q])
  · obtain ⟨u, e, q⟩ := s _ _ h
    exact .inr ⟨o, by rw [e, unf_frzT q]⟩
theorem Sm.rdK {kvs : List (Key × V)} (s : Sm F F') (h : Rd F a (.dK kvs)) : Rd F' a (.dK kvs) := by
  have q : ∃ u, F a = some u ∧ unf u = .dK kvs := by
    rcases h with h | ⟨o, h⟩
    · exact ⟨_, h, rfl⟩
    · exact ⟨_, h, rfl⟩
  obtain ⟨u, h, e⟩ := q
  obtain ⟨u', h', e'⟩ := s _ _ h
  rcases unf_dK (e'.trans e) with q | ⟨o, q⟩
  · exact .inl (by rw [h', q])
  · exact .inr ⟨o, by rw [h', q]⟩
theorem Sm.ins {C dx : Addr} {fs : List (Str × V)} (s : Sm F F') (h : F a = some (.ins C dx fs)) : F' a = some (.ins C dx fs) := by
  obtain ⟨u, e, q⟩ := s _ _ h
  rw [e, unf_ins q]
theorem Sm.lst {xs : List V} (s : Sm F F') (h : F a = some (.lst xs)) : F' a = some (.lst xs) := by
  obtain ⟨u, e, q⟩ := s _ _ h
  rw [e, unf_lst q]
theorem Sm.sqL {xs : List V} (s : Sm F F') (h : SqL K F a xs) : SqL K F' a xs := by
  rcases h with h | h
  · exact .inl (s.rdL h)
  · exact .inr h
theorem Sm.sqT {xs : List V} (s : Sm F F') (h : SqT K F a xs) : SqT K F' a xs := by
  rcases h with h | h
  · exact .inl (s.rdT h)
  · exact .inr h
theorem Sm.none (s : Sm F F') (h : F' a = none) : F a = none := by
  cases q : F a with
  | none => rfl
  | some u =>
    obtain ⟨u', e, _⟩ := s _ _ q
    rw [h] at e; cases e
end
mutual
theorem Rep.mono {K : Frag} {F F' : Hp} (s : Sm F F') : ∀ {v : V} {d : D}, Rep K F v d → Rep K F' v d
  | _, _, .non => .non
  | _, _, .bl b => .bl b
  | _, _, .int i => .int i
  | _, _, .str x => .str x
  | _, _, .ty n => .ty n
  | _, _, .ref a => .ref a
  | _, _, .lst h r => .lst (s.lst h) (RepL.mono s r)
  | _, _, .scr h r => .scr (s.sqL h) (RepL.mono s r)
  | _, _, .tup h r => .tup (s.sqT h) (RepL.mono s r)
  | _, _, .dic h r => .dic (s.rdK h) (RepK.mono s r)
  | _, _, .obj h r => .obj (s.ins h) (RepF.mono s r)
theorem RepL.mono {K : Frag} {F F' : Hp} (s : Sm F F') : ∀ {v : List V} {d : List D}, RepL K F v d → RepL K F' v d
  | _, _, .nil => .nil
  | _, _, .cons h r => .cons (Rep.mono s h) (RepL.mono s r)
theorem RepK.mono {K : Frag} {F F' : Hp} (s : Sm F F') : ∀ {v : List (Key × V)} {d : List (Key × D)}, RepK K F v d → RepK K F' v d
  | _, _, .nil => .nil
  | _, _, .cons h r => .cons (Rep.mono s h) (RepK.mono s r)
theorem RepF.mono {K : Frag} {F F' : Hp} (s : Sm F F') : ∀ {v : List (Str × V)} {d : List (Str × D)}, RepF K F v d → RepF K F' v d
  | _, _, .nil => .nil
  | _, _, .cons h r => .cons (Rep.mono s h) (RepF.mono s r)
end
section
variable {K : Frag} {F : Hp}
theorem RepL.length : ∀ {vs : List V} {ds : List D}, RepL K F vs ds → vs.length = ds.length
  | _, _, .nil => rfl
  | _, _, .cons _ r => congrArg Nat.succ (RepL.length r)
theorem RepK.length : ∀ {vs : List (Key × V)} {ds : List (Key × D)}, RepK K F vs ds → vs.length = ds.length
  | _, _, .nil => rfl
  | _, _, .cons _ r => congrArg Nat.succ (RepK.length r)
theorem RepF.length : ∀ {vs : List (Str × V)} {ds : List (Str × D)}, RepF K F vs ds → vs.length = ds.length
  | _, _, .nil => rfl
  | _, _, .cons _ r => congrArg Nat.succ (RepF.length r)
theorem RepL.get : ∀ {vs : List V} {ds : List D} {i : Nat} {d : D}, RepL K F vs ds → ds[i]? = some d → ∃ v, vs[i]? = some v ∧ Rep K F v d
  | _, _, _, _, .nil, e => by simp at e
  | _, _, 0, _, .cons h _, e => by simp at e; subst e; exact ⟨_, rfl, h⟩
  | _, _, i + 1, _, .cons _ r, e => by
    obtain ⟨v, q, h⟩ := RepL.get (i := i) r (by simpa using e)
    exact ⟨v, by simpa using q, h⟩
theorem RepL.app : ∀ {vs ws : List V} {ds es : List D}, RepL K F vs ds → RepL K F ws es → RepL K F (vs ++ ws) (ds ++ es)
  | _, _, _, _, .nil, h => h
  | _, _, _, _, .cons h r, q => .cons h (RepL.app r q)
theorem RepL.set {v : V} {d : D} (h : Rep K F v d) : ∀ {vs : List V} {ds : List D} (i : Nat), RepL K F vs ds → RepL K F (vs.set i v) (ds.set i d)
  | _, _, _, .nil => .nil
  | _, _, 0, .cons _ r => .cons h r
  | _, _, i + 1, .cons q r => .cons q (RepL.set h i r)
theorem RepL.drop : ∀ {vs : List V} {ds : List D} (i : Nat), RepL K F vs ds → RepL K F (vs.drop i) (ds.drop i)
  | _, _, 0, r => r
  | _, _, i + 1, .nil => .nil
  | _, _, i + 1, .cons _ r => RepL.drop i r
theorem RepL.take : ∀ {vs : List V} {ds : List D} (i : Nat), RepL K F vs ds → RepL K F (vs.take i) (ds.take i)
  | _, _, 0, r => .nil
  | _, _, i + 1, .nil => .nil
  | _, _, i + 1, .cons h r => .cons h (RepL.take i r)
theorem RepL.rev : ∀ {vs : List V} {ds : List D}, RepL K F vs ds → RepL K F vs.reverse ds.reverse
  | _, _, .nil => .nil
  | _, _, .cons h r => by
    rw [List.reverse_cons, List.reverse_cons]
    exact (RepL.rev r).app (.cons h .nil)
theorem RepL.dropLast : ∀ {vs : List V} {ds : List D}, RepL K F vs ds → RepL K F vs.dropLast ds.dropLast := fun {vs ds} r => by
  rw [List.dropLast_eq_take, List.dropLast_eq_take, r.length]
  exact r.take _
theorem RepF.look {f : Str} : ∀ {vs : List (Str × V)} {ds : List (Str × D)} {d : D}, RepF K F vs ds → ds.lookup f = some d → ∃ v, vs.lookup f = some v ∧ Rep K F v d
  | _, _, _, .nil, e => by cases e
  | _, _, d, .cons (k := k) (v := v) h r, e => by
    rw [List.lookup_cons] at e ⊢
    cases q : f == k with
    | true =>
      rw [q] at e
      simp only at e
      cases e
      exact ⟨v, rfl, h⟩
    | false =>
      rw [q] at e
      exact RepF.look r e
theorem RepF.lookN {f : Str} : ∀ {vs : List (Str × V)} {ds : List (Str × D)}, RepF K F vs ds → ds.lookup f = none → vs.lookup f = none
  | _, _, .nil, e => rfl
  | _, _, .cons (k := k) (v := v) h r, e => by
    rw [List.lookup_cons] at e ⊢
    cases q : f == k with
    | true => rw [q] at e; cases e
    | false =>
      rw [q] at e
      exact RepF.lookN r e
/-- ints -/
theorem RepL.ints : ∀ {vs : List V} {ns : List Int}, RepL K F vs (ns.map D.int) → vs = ns.map V.int
  | _, [], .nil => rfl
  | _, n :: ns, .cons h r => by
    cases h
    rw [RepL.ints r]
    rfl
theorem RepL.of_ints : ∀ (ns : List Int), RepL K F (ns.map V.int) (ns.map D.int)
  | [] => .nil
  | n :: ns => .cons (.int n) (RepL.of_ints ns)
theorem RepL.bools : ∀ {vs : List V} {ns : List Bool}, RepL K F vs (ns.map D.bl) → vs = ns.map V.bl
  | _, [], .nil => rfl
  | _, n :: ns, .cons h r => by
    cases h
    rw [RepL.bools r]
    rfl
end

/-! ### owned objects -/
inductive OC where
  | lst (ds : List D) | dic (kds : List (Key × D)) | ins (C : Addr) (fds : List (Str × D))
abbrev OM := Addr → Option OC
def updO (O : OM) (p : Addr) (c : OC) : OM := fun q => if q = p then some c else O q
@[simp] theorem updO_same {O : OM} {p : Addr} {c : OC} : updO O p c p = some c := by unfold updO; rw [if_pos rfl]
theorem updO_ne {O : OM} {p q : Addr} {c : OC} (h : q ≠ p) : updO O p c q = O q := by unfold updO; rw [if_neg h]
@[simp] theorem updO_updO {O : OM} {p : Addr} {c c' : OC} : updO (updO O p c) p c' = updO O p c' := by
  funext q; unfold updO; split <;> rfl
theorem updO_comm {O : OM} {p q : Addr} {c c' : OC} (h : p ≠ q) : updO (updO O p c) q c' = updO (updO O q c') p c := by
  funext x; unfold updO
  by_cases e1 : x = q
  · by_cases e2 : x = p
    · exact absurd (e2.symm.trans e1) h
    · rw [if_pos e1, if_neg e2, if_pos e1]
  · by_cases e2 : x = p
    · rw [if_neg e1, if_pos e2, if_pos e2]
    · rw [if_neg e1, if_neg e2, if_neg e2, if_neg e1]
/-- no more owned -/
def delO (O : OM) (p : Addr) : OM := fun q => if q = p then none else O q
def OcAt (K : Frag) (F H : Hp) (p : Addr) : OC → Prop
  | .lst ds => ∃ xs, H p = some (.lst xs) ∧ RepL K F xs ds
  | .dic kds => ∃ kvs, H p = some (.dK kvs) ∧ RepK K F kvs kds
  | .ins C fds => ∃ dx fs, H p = some (.ins C dx fs) ∧ RepF K F fs fds
theorem OcAt.mono {K : Frag} {F F' H H' : Hp} {p : Addr} {c : OC} (s : Sm F F') (e : H' p = H p) (h : OcAt K F H p c) : OcAt K F' H' p c := by
  cases c with
  | lst ds => obtain ⟨xs, q, r⟩ := h; exact ⟨xs, e.trans q, r.mono s⟩
  | dic ds => obtain ⟨xs, q, r⟩ := h; exact ⟨xs, e.trans q, r.mono s⟩
  | ins C ds => obtain ⟨dx, xs, q, r⟩ := h; exact ⟨dx, xs, e.trans q, r.mono s⟩
theorem OcAt.some {K : Frag} {F H : Hp} {p : Addr} {c : OC} (h : OcAt K F H p c) : H p ≠ none := by
  cases c with
  | lst ds => obtain ⟨xs, q, r⟩ := h; rw [q]; exact fun z => by cases z
  | dic ds => obtain ⟨xs, q, r⟩ := h; rw [q]; exact fun z => by cases z
  | ins C ds => obtain ⟨dx, xs, q, r⟩ := h; rw [q]; exact fun z => by cases z

/-- the world: F the known part that never changes, H the heap, O what is owned -/
structure Wd (K : Frag) (F H : Hp) (O : OM) : Prop where
  sm : Sm F H
  own : ∀ p c, O p = some c → F p = none ∧ OcAt K F H p c
structure Step (F H : Hp) (O : OM) (F' H' : Hp) (O' : OM) : Prop where
  ff : Sm F F'
  keep : ∀ p u, H p = some u → O p = none → ∃ u', H' p = some u' ∧ unf u' = unf u
  newF : ∀ p, F' p ≠ none → F p ≠ none ∨ H p = none ∨ O p ≠ none
  newO : ∀ p, O' p ≠ none → O p ≠ none ∨ H p = none
theorem Step.refl {F H : Hp} {O : OM} : Step F H O F H O := ⟨Sm.refl F, fun p u h _ => ⟨u, h, rfl⟩, fun p h => .inl h, fun p h => .inl h⟩
theorem Step.trans {F H F1 H1 F2 H2 : Hp} {O O1 O2 : OM} (a : Step F H O F1 H1 O1) (b : Step F1 H1 O1 F2 H2 O2) : Step F H O F2 H2 O2 where
  ff := a.ff.trans b.ff
  keep := fun p u h n => by
    obtain ⟨u1, h1, e1⟩ := a.keep p u h n
    have n1 : O1 p = none := by
      cases q : O1 p with
      | none => rfl
      | some c =>
        rcases a.newO p (by rw [q]; exact fun z => by cases z) with z | z
        · exact absurd n z
        · rw [h] at z; cases z
    obtain ⟨u2, h2, e2⟩ := b.keep p u1 h1 n1
    exact ⟨u2, h2, e2.trans e1⟩
  newF := fun p h => by
    rcases b.newF p h with z | z | z
    · exact a.newF p z
    · by_cases n : O p = none
      · cases q : H p with
        | none => exact .inr (.inl rfl)
        | some u =>
          obtain ⟨u1, h1, _⟩ := a.keep p u q n
          rw [z] at h1; cases h1
      · exact .inr (.inr n)
    · rcases a.newO p z with z | z
      · exact .inr (.inr z)
      · exact .inr (.inl z)
  newO := fun p h => by
    rcases b.newO p h with z | z
    · exact a.newO p z
    · by_cases n : O p = none
      · cases q : H p with
        | none => exact .inr rfl
        | some u =>
          obtain ⟨u1, h1, _⟩ := a.keep p u q n
          rw [z] at h1; cases h1
      · exact .inl n
section
variable {K : Frag} {F H : Hp} {O : OM} {p : Addr}
theorem Wd.freeF (w : Wd K F H O) (h : H p = none) : F p = none := w.sm.none h
theorem Wd.freeO (w : Wd K F H O) (h : H p = none) : O p = none := by
  cases q : O p with
  | none => rfl
  | some c => exact absurd h (w.own p c q).2.some
/-- a new object, known from here on -/
theorem Wd.newF (w : Wd K F H O) (h : H p = none) (o : HO) : Wd K (upd F p o) (upd H p o) O := by
  have sF : Sm F (upd F p o) := fun a u e => ⟨u, by rw [upd_ne (fun z => by subst z; rw [w.freeF h] at e; cases e)]; exact e, rfl⟩
  refine ⟨fun a u e => ?_, fun q c e => ?_⟩
  · by_cases z : a = p
    · subst z
      rw [upd_same] at e ⊢
      exact ⟨u, e, rfl⟩
    · rw [upd_ne z] at e ⊢
      exact w.sm a u e
  · have z : q ≠ p := fun z => by subst z; rw [w.freeO h] at e; cases e
    obtain ⟨h1, h2⟩ := w.own q c e
    exact ⟨by rw [upd_ne z]; exact h1, h2.mono sF (upd_ne z)⟩
theorem Wd.newF_step (w : Wd K F H O) (h : H p = none) (o : HO) : Step F H O (upd F p o) (upd H p o) O where
  ff := fun a u e => ⟨u, by rw [upd_ne (fun z => by subst z; rw [w.freeF h] at e; cases e)]; exact e, rfl⟩
  keep := fun a u e n => ⟨u, by rw [upd_ne (fun z => by subst z; rw [h] at e; cases e)]; exact e, rfl⟩
  newF := fun q n => by
    by_cases z : q = p
    · subst z; exact .inr (.inl h)
    · rw [upd_ne z] at n; exact .inl n
  newO := fun q n => .inl n
/-- a new object, owned -/
theorem Wd.newO (w : Wd K F H O) (h : H p = none) {o : HO} {c : OC} (hc : OcAt K F (upd H p o) p c) : Wd K F (upd H p o) (updO O p c) := by
  refine ⟨fun a u e => ?_, fun q c' e => ?_⟩
  · have z : a ≠ p := fun z => by subst z; rw [w.freeF h] at e; cases e
    rw [upd_ne z]
    exact w.sm a u e
  · by_cases z : q = p
    · subst z
      rw [updO_same] at e
      cases e
      exact ⟨w.freeF h, hc⟩
    · rw [updO_ne z] at e
      obtain ⟨h1, h2⟩ := w.own q c' e
      exact ⟨h1, h2.mono (Sm.refl F) (upd_ne z)⟩
theorem Wd.newO_step (w : Wd K F H O) (h : H p = none) (o : HO) (c : OC) : Step F H O F (upd H p o) (updO O p c) where
  ff := Sm.refl F
  keep := fun a u e n => ⟨u, by rw [upd_ne (fun z => by subst z; rw [h] at e; cases e)]; exact e, rfl⟩
  newF := fun q n => .inl n
  newO := fun q n => by
    by_cases z : q = p
    · subst z; exact .inr h
    · rw [updO_ne z] at n; exact .inl n
/-- an owned object changes -/
theorem Wd.put (w : Wd K F H O) {c0 c : OC} (h : O p = some c0) {o : HO} (hc : OcAt K F (upd H p o) p c) : Wd K F (upd H p o) (updO O p c) := by
  have fp := (w.own p c0 h).1
  refine ⟨fun a u e => ?_, fun q c' e => ?_⟩
  · have z : a ≠ p := fun z => by subst z; rw [fp] at e; cases e
    rw [upd_ne z]
    exact w.sm a u e
  · by_cases z : q = p
    · subst z
      rw [updO_same] at e
      cases e
      exact ⟨fp, hc⟩
    · rw [updO_ne z] at e
      obtain ⟨h1, h2⟩ := w.own q c' e
      exact ⟨h1, h2.mono (Sm.refl F) (upd_ne z)⟩
theorem Wd.put_step (w : Wd K F H O) {c0 c : OC} (h : O p = some c0) (o : HO) : Step F H O F (upd H p o) (updO O p c) where
  ff := Sm.refl F
  keep := fun a u e n => ⟨u, by rw [upd_ne (fun z => by subst z; rw [h] at n; cases n)]; exact e, rfl⟩
  newF := fun q n => .inl n
  newO := fun q n => by
    by_cases z : q = p
    · subst z; exact .inl (by rw [h]; exact fun z => by cases z)
    · rw [updO_ne z] at n; exact .inl n
/-- an owned list is known from here on -/
theorem Wd.freeze (w : Wd K F H O) {c : OC} {o : HO} (h : O p = some c) (ho : H p = some o) : Wd K (upd F p o) H (delO O p) := by
  have fp := (w.own p c h).1
  have sF : Sm F (upd F p o) := fun a u e => ⟨u, by rw [upd_ne (fun z => by subst z; rw [fp] at e; cases e)]; exact e, rfl⟩
  refine ⟨fun a u e => ?_, fun q c' e => ?_⟩
  · by_cases z : a = p
    · subst z
      rw [upd_same] at e
      cases e
      exact ⟨_, ho, rfl⟩
    · rw [upd_ne z] at e
      exact w.sm a u e
  · by_cases z : q = p
    · subst z
      unfold delO at e
      rw [if_pos rfl] at e; cases e
    · unfold delO at e
      rw [if_neg z] at e
      obtain ⟨h1, h2⟩ := w.own q c' e
      exact ⟨by rw [upd_ne z]; exact h1, h2.mono sF rfl⟩
theorem Wd.freeze_step (w : Wd K F H O) {c : OC} {o : HO} (h : O p = some c) : Step F H O (upd F p o) H (delO O p) where
  ff := fun a u e => ⟨u, by rw [upd_ne (fun z => by subst z; rw [(w.own _ _ h).1] at e; cases e)]; exact e, rfl⟩
  keep := fun a u e n => ⟨u, e, rfl⟩
  newF := fun q n => by
    by_cases z : q = p
    · subst z; exact .inr (.inr (by rw [h]; exact fun z => by cases z))
    · rw [upd_ne z] at n; exact .inl n
  newO := fun q n => by
    unfold delO at n
    by_cases z : q = p
    · rw [if_pos z] at n; exact absurd rfl n
    · rw [if_neg z] at n; exact .inl n
end
/-- what is wanted behind, by data -/
def Cn (K : Frag) (F H : Hp) (O : OM) (Φ : D → OM → Prop) (Q : VK) : Prop :=
  ∀ v F' H' O' d, Step F H O F' H' O' → Wd K F' H' O' → Rep K F' v d → Φ d O' → Q v H'
section
variable {K : Frag} {F H F' H' : Hp} {O O' : OM} {Φ : D → OM → Prop} {Q : VK} {v : V} {d : D} {p : Addr}
theorem Cn.here (c : Cn K F H O Φ Q) (w : Wd K F H O) (r : Rep K F v d) (h : Φ d O) : Q v H := c v F H O d Step.refl w r h
theorem Cn.after (c : Cn K F H O Φ Q) (s : Step F H O F' H' O') : Cn K F' H' O' Φ Q := fun v F2 H2 O2 d s2 => c v F2 H2 O2 d (s.trans s2)
/-- a new tuple -/
theorem Cn.tup (c : Cn K F H O Φ Q) (w : Wd K F H O) {xs : List V} {ds : List D} (r : RepL K F xs ds) (h : Φ (.tup ds) O) (hp : H p = none) : Q (.ref p) (upd H p (.tup xs)) := by
  have s := w.newF_step hp (.tup xs)
  exact c (.ref p) _ _ O _ s (w.newF hp _) (.tup (SqT.of upd_same) (r.mono s.ff)) h
/-- a new list, known -/
theorem Cn.lst (c : Cn K F H O Φ Q) (w : Wd K F H O) {xs : List V} {ds : List D} (r : RepL K F xs ds) (h : Φ (.lst ds) O) (hp : H p = none) : Q (.ref p) (upd H p (.lst xs)) := by
  have s := w.newF_step hp (.lst xs)
  exact c (.ref p) _ _ O _ s (w.newF hp _) (.lst upd_same (r.mono s.ff)) h
/-- a new list, owned -/
theorem Cn.lstO (c : Cn K F H O Φ Q) (w : Wd K F H O) {xs : List V} {ds : List D} (r : RepL K F xs ds) (h : ∀ p, O p = none → Φ (.ref p) (updO O p (.lst ds))) (hp : H p = none) : Q (.ref p) (upd H p (.lst xs)) :=
  c (.ref p) _ _ _ _ (w.newO_step hp _ (.lst ds)) (w.newO hp ⟨xs, upd_same, r⟩) (.ref p) (h p (w.freeO hp))
end
end DL

set_option maxHeartbeats 4000000
/-! DL1: readings without a heap, their rules. -/
namespace DL
open PySem PySem.Spec PyProof.Rows L2

abbrev EnvD := List (Option D)
structure EnvOk (K : Frag) (F : Hp) (σ : L2.St) (ds : EnvD) : Prop where
  len : σ.length = ds.length
  at_ : ∀ (i : Nat) (d : D), ds[i]? = some (some d) → ∃ v, σ[i]? = some (some v) ∧ Rep K F v d
theorem EnvOk.mono {K : Frag} {F F' : Hp} {σ : L2.St} {ds : EnvD} (s : Sm F F') (h : EnvOk K F σ ds) : EnvOk K F' σ ds :=
  ⟨h.len, fun i d e => by obtain ⟨v, q, r⟩ := h.at_ i d e; exact ⟨v, q, r.mono s⟩⟩
theorem EnvOk.set {K : Frag} {F : Hp} {σ : L2.St} {ds : EnvD} {v : V} {d : D} (h : EnvOk K F σ ds) (r : Rep K F v d) (i : Nat) : EnvOk K F (σ.set i (some v)) (ds.set i (some d)) := by
  refine ⟨by rw [List.length_set, List.length_set]; exact h.len, fun j e q => ?_⟩
  by_cases z : i = j
  · subst z
    by_cases l : i < ds.length
    · rw [List.getElem?_set_self l] at q
      cases q
      exact ⟨v, by rw [List.getElem?_set_self (by rw [h.len]; exact l)], r⟩
    · rw [List.getElem?_eq_none (by rw [List.length_set]; omega)] at q
      cases q
  · rw [List.getElem?_set_ne z] at q ⊢
    exact h.at_ j e q
/-- a slot; a slot stored -/
@[reducible] def nthD : EnvD → Nat → Option D
  | [], _ => none
  | d :: _, 0 => d
  | _ :: r, i + 1 => nthD r i
@[reducible] def setD : EnvD → Nat → Option D → EnvD
  | [], _, _ => []
  | _ :: r, 0, x => x :: r
  | d :: r, i + 1, x => d :: setD r i x
theorem nthD_at : ∀ {ds : EnvD} {i : Nat} {d : D}, nthD ds i = some d → ds[i]? = some (some d)
  | [], _, _, h => by cases h
  | x :: _, 0, _, h => by
    have h : x = some _ := h
    rw [h]; rfl
  | _ :: r, i + 1, _, h => by
    rw [List.getElem?_cons_succ]
    exact nthD_at (ds := r) (i := i) h
theorem setD_eq : ∀ (ds : EnvD) (i : Nat) (x : Option D), setD ds i x = ds.set i x
  | [], _, _ => rfl
  | _ :: _, 0, _ => rfl
  | d :: r, i + 1, x => by
    show d :: setD r i x = d :: r.set i x
    rw [setD_eq r i x]
/-- some slots forgotten -/
@[reducible] def wipeD (ds : EnvD) : List Nat → EnvD
  | [] => ds
  | v :: vs => setD (wipeD ds vs) v none
theorem wipeD_len (ds : EnvD) : ∀ vs : List Nat, (wipeD ds vs).length = ds.length
  | [] => rfl
  | v :: vs => by unfold wipeD; rw [setD_eq, List.length_set, wipeD_len ds vs]
theorem EnvOk.wipe {K : Frag} {F : Hp} {σ : L2.St} {ds : EnvD} (h : EnvOk K F σ ds) : ∀ vs : List Nat, EnvOk K F (L2.wipe σ vs) (wipeD ds vs)
  | [] => h
  | v :: vs => by
    have q := h.wipe vs
    refine ⟨by rw [wipe_length, wipeD_len]; exact h.len, fun j e z => ?_⟩
    unfold wipeD at z
    rw [setD_eq] at z
    unfold L2.wipe
    by_cases y : v = j
    · subst y
      by_cases l : v < (wipeD ds vs).length
      · rw [List.getElem?_set_self l] at z; cases z
      · rw [List.getElem?_eq_none (by rw [List.length_set]; omega)] at z; cases z
    · rw [List.getElem?_set_ne y] at z ⊢
      exact q.at_ j e z

theorem wipe_get (σ : L2.St) (i : Nat) : ∀ vs : List Nat, (L2.wipe σ vs)[i]? = if i ∈ vs then (σ[i]?).map (fun _ => none) else σ[i]?
  | [] => by simp [L2.wipe]
  | v :: vs => by
    unfold L2.wipe
    by_cases z : v = i
    · subst z
      have l := wipe_length σ vs
      by_cases h : v < σ.length
      · rw [List.getElem?_set_self (by rw [l]; exact h), if_pos List.mem_cons_self, List.getElem?_eq_getElem h]
        rfl
      · rw [List.getElem?_eq_none (by rw [List.length_set, l]; omega), if_pos List.mem_cons_self, List.getElem?_eq_none (by omega)]
        rfl
    · rw [List.getElem?_set_ne z, wipe_get σ i vs]
      have : (i ∈ v :: vs) = (i ∈ vs) := by
        simp only [List.mem_cons, eq_iff_iff]
        exact ⟨fun h => h.resolve_left (fun e => z e.symm), .inr⟩
      simp only [this]
theorem wipe_sub {σ σ' : L2.St} {ws vs : List Nat} (h : L2.wipe σ' ws = L2.wipe σ ws) (s : ∀ i ∈ ws, i ∈ vs) : L2.wipe σ' vs = L2.wipe σ vs := by
  have hl : σ'.length = σ.length := by
    have := congrArg List.length h
    rw [wipe_length, wipe_length] at this
    exact this
  refine List.ext_getElem? fun i => ?_
  rw [wipe_get, wipe_get]
  by_cases z : i ∈ vs
  · rw [if_pos z, if_pos z]
    by_cases l : i < σ.length
    · rw [List.getElem?_eq_getElem l, List.getElem?_eq_getElem (by omega)]
      rfl
    · rw [List.getElem?_eq_none (by omega), List.getElem?_eq_none (by omega)]
  · rw [if_neg z, if_neg z]
    have q := congrArg (fun l => l[i]?) h
    simp only [wipe_get, if_neg (fun y => z (s i y))] at q
    exact q
theorem wipe_idem (σ : L2.St) (vs : List Nat) : L2.wipe (L2.wipe σ vs) vs = L2.wipe σ vs := by
  refine List.ext_getElem? fun i => ?_
  rw [wipe_get, wipe_get]
  by_cases z : i ∈ vs
  · rw [if_pos z, if_pos z]
    cases σ[i]? <;> rfl
  · rw [if_neg z, if_neg z]
theorem wipe_set (σ : L2.St) (i : Nat) (x : Option V) : L2.wipe (σ.set i x) [i] = L2.wipe σ [i] := by
  show (σ.set i x).set i none = σ.set i none
  rw [List.set_set]

abbrev TD := EnvD → OM → (D → OM → Prop) → Prop
abbrev TB := EnvD → OM → (Bool → OM → Prop) → Prop
structure EndsD where
  nx : EnvD → OM → Prop
  rt : D → OM → Prop
  bk : EnvD → OM → Prop := fun _ _ => False
  ct : EnvD → OM → Prop := fun _ _ => False
abbrev TSD := EndsD → EnvD → OM → Prop
abbrev TGD := D → EnvD → OM → (EnvD → OM → Prop) → Prop
abbrev TID := EnvD → OM → (List D → OM → Prop) → Prop

def CnB (F H : Hp) (O : OM) (K : Frag) (Φ : Bool → OM → Prop) (Q : Bool → Hp → Prop) : Prop :=
  ∀ b F' H' O', Step F H O F' H' O' → Wd K F' H' O' → Φ b O' → Q b H'
def CnL (K : Frag) (F H : Hp) (O : OM) (n : Nat) (Φ : List D → OM → Prop) (Q : List V → Hp → Prop) : Prop :=
  ∀ vs F' H' O' ds, Step F H O F' H' O' → Wd K F' H' O' → RepL K F' vs ds → ds.length = n → Φ ds O' → Q vs H'
def CnE (K : Frag) (F H : Hp) (O : OM) (Φ : EnvD → OM → Prop) (N : L2.St → Hp → Prop) : Prop :=
  ∀ σ' F' H' O' ds', Step F H O F' H' O' → Wd K F' H' O' → EnvOk K F' σ' ds' → Φ ds' O' → N σ' H'
theorem CnE.after {K : Frag} {F H F' H' : Hp} {O O' : OM} {Φ : EnvD → OM → Prop} {N : L2.St → Hp → Prop} (c : CnE K F H O Φ N) (s : Step F H O F' H' O') : CnE K F' H' O' Φ N := fun σ F2 H2 O2 d s2 => c σ F2 H2 O2 d (s.trans s2)
theorem CnE.here {K : Frag} {F H : Hp} {O : OM} {Φ : EnvD → OM → Prop} {N : L2.St → Hp → Prop} {σ : L2.St} {ds : EnvD} (c : CnE K F H O Φ N) (w : Wd K F H O) (e : EnvOk K F σ ds) (h : Φ ds O) : N σ H := c σ F H O ds Step.refl w e h

def WE (K : Frag) (te : TE) (t : TD) : Prop := ∀ ds O Φ, t ds O Φ → ∀ F H σ Q, Wd K F H O → EnvOk K F σ ds → Cn K F H O Φ Q → te σ H Q
structure PD (X : Cx) (e : Expr) (t : TD) : Prop where
  ex : ∃ te, PE X e te ∧ WE X.K te t
def WB (K : Frag) (te : TT) (t : TB) : Prop := ∀ ds O Φ, t ds O Φ → ∀ F H σ Q, Wd K F H O → EnvOk K F σ ds → CnB F H O K Φ Q → te σ H Q
structure PB (X : Cx) (e : Expr) (t : TB) : Prop where
  ex : ∃ te, PT X e te ∧ WB X.K te t
structure PWB (X : Cx) (e : Expr) (t : TB) : Prop where
  ex : ∃ te, PW X e te ∧ WB X.K te t
theorem PWB.pb {X : Cx} {e : Expr} {t : TB} (h : PWB X e t) : PB X e t := by
  obtain ⟨te, h, w⟩ := h.ex
  exact ⟨te, h.pt, w⟩
@[reducible] def argsW : List TD → EnvD → OM → (List D → OM → Prop) → Prop
  | [], _, O, Φ => Φ [] O
  | a :: as, ds, O, Φ => a ds O fun x O1 => argsW as ds O1 fun xs O2 => Φ (x :: xs) O2
structure PAD (X : Cx) (es : List Expr) (as : List TD) : Prop where
  ex : ∃ ta, PA X es ta ∧ ∀ ds O Φ, argsW as ds O Φ → ∀ F H σ Q, Wd X.K F H O → EnvOk X.K F σ ds → CnL X.K F H O as.length Φ Q → ta σ H Q
/-- ws: the slots that are stored -/
structure PGD (X : Cx) (tg : Expr) (ws : List Nat) (g : TGD) : Prop where
  ex : ∃ tg', PG X tg tg' ∧ ∀ d ds O Φ, g d ds O Φ → ∀ F H σ v N, Wd X.K F H O → EnvOk X.K F σ ds → Rep X.K F v d →
    (∀ σ' F' H' O' ds', L2.wipe σ' ws = L2.wipe σ ws → Step F H O F' H' O' → Wd X.K F' H' O' → EnvOk X.K F' σ' ds' → Φ ds' O' → N σ' H') → tg' v σ H N
structure PGDs (X : Cx) (tg : List Expr) (ws : List Nat) (g : List D → EnvD → OM → (EnvD → OM → Prop) → Prop) : Prop where
  ex : ∃ tg', PGs X tg tg' ∧ ∀ d ds O Φ, g d ds O Φ → ∀ F H σ v N, Wd X.K F H O → EnvOk X.K F σ ds → RepL X.K F v d →
    (∀ σ' F' H' O' ds', L2.wipe σ' ws = L2.wipe σ ws → Step F H O F' H' O' → Wd X.K F' H' O' → EnvOk X.K F' σ' ds' → Φ ds' O' → N σ' H') → tg' v σ H N
structure CnS (K : Frag) (F H : Hp) (O : OM) (E : EndsD) (De : Ends) : Prop where
  nx : CnE K F H O E.nx De.nx
  rt : Cn K F H O E.rt De.rt
  bk : CnE K F H O E.bk De.bk
  ct : CnE K F H O E.ct De.ct
theorem CnS.after {K : Frag} {F H F' H' : Hp} {O O' : OM} {E : EndsD} {De : Ends} (c : CnS K F H O E De) (s : Step F H O F' H' O') : CnS K F' H' O' E De := ⟨c.nx.after s, c.rt.after s, c.bk.after s, c.ct.after s⟩
def WS (K : Frag) (ts : TS) (t : TSD) : Prop := ∀ E ds O, t E ds O → ∀ F H σ De, Wd K F H O → EnvOk K F σ ds → CnS K F H O E De → ts De σ H
structure PSD (X : Cx) (st : Stmt) (t : TSD) : Prop where
  ex : ∃ ts, PS X st ts ∧ WS X.K ts t
structure PSDs (X : Cx) (st : List Stmt) (t : TSD) : Prop where
  ex : ∃ ts, PSs X st ts ∧ WS X.K ts t

section
variable {X : Cx} {pos : Pos}
/-! ### names, constants -/
@[reducible] def eVar (i : Nat) : TD := fun ds O Φ => match nthD ds i with
  | some d => Φ d O
  | none => False
@[reducible] def eC (d : D) : TD := fun _ O Φ => Φ d O
theorem pd_var {i : Nat} {x : Str} (h : PE X (.Name x pos) (tVar i)) : PD X (.Name x pos) (eVar i) := by
  refine ⟨_, h, fun ds O Φ h F H σ Q w e c => ?_⟩
  unfold eVar at h
  split at h
  · rename_i d q
    obtain ⟨v, q, r⟩ := e.at_ i d (nthD_at q)
    exact ⟨v, q, c.here w r h⟩
  · exact h.elim
theorem we_c {K : Frag} {v : V} {d : D} (r : ∀ F, Rep K F v d) : WE K (tC v) (eC d) := fun ds O Φ h F H σ Q w e c => c.here w (r F) h
theorem pd_int {i j} : PD X (.Constant (.int i) j pos) (eC (.int i)) := ⟨_, pe_int, we_c fun _ => .int i⟩
theorem pd_bl {i j} : PD X (.Constant (.bool i) j pos) (eC (.bl i)) := ⟨_, pe_bl, we_c fun _ => .bl i⟩
theorem pd_str {i j} : PD X (.Constant (.str i) j pos) (eC (.str i)) := ⟨_, pe_str, we_c fun _ => .str i⟩
theorem pd_non {j} : PD X (.Constant .none j pos) (eC .non) := ⟨_, pe_non, we_c fun _ => .non⟩
/-- a built-in class as a value -/
theorem pd_ty {x : Str} {n : String} (hg : Gl X x) (hm : X.mg x = none) (hv : bootBuiltins x = some (.type n)) (hn : x ≠ "__name__" := by decide) (hd : (x == ("__debug__" : Str)) = false := by decide) : PD X (.Name x pos) (eC (.ty n)) :=
  ⟨_, pe_bltn hg hm hv (v := .ty n) rfl hn hd, we_c fun _ => .ty n⟩

/-! ### operators by data -/
def OpD (X : Cx) (f : Value → Value → Sem Value) (m : D → D → OM → (D → OM → Prop) → Prop) : Prop :=
  OpR X f fun x y H Q => ∃ F O d e Φ, Wd X.K F H O ∧ Rep X.K F x d ∧ Rep X.K F y e ∧ m d e O Φ ∧ Cn X.K F H O Φ Q
@[reducible] def eOp (m : D → D → OM → (D → OM → Prop) → Prop) (a b : TD) : TD := fun ds O Φ => a ds O fun x O1 => b ds O1 fun y O2 => m x y O2 Φ
theorem we_op {K : Frag} {m : D → D → OM → (D → OM → Prop) → Prop} {ta tb : TE} {a b : TD} (ha : WE K ta a) (hb : WE K tb b) :
    WE K (tOp (fun x y H Q => ∃ F O d e Φ, Wd K F H O ∧ Rep K F x d ∧ Rep K F y e ∧ m d e O Φ ∧ Cn K F H O Φ Q) ta tb) (eOp m a b) := by
  intro ds O Φ h F H σ Q w e c
  refine ha ds O _ h F H σ _ w e fun v F1 H1 O1 x s1 w1 r1 h1 => ?_
  refine hb ds O1 _ h1 F1 H1 σ _ w1 (e.mono s1.ff) fun u F2 H2 O2 y s2 w2 r2 h2 => ?_
  exact ⟨F2, O2, x, y, Φ, w2, r1.mono s2.ff, r2, h2, (c.after s1).after s2⟩
theorem pd_op {op : Operator} {m : D → D → OM → (D → OM → Prop) → Prop} {a b : Expr} {ta tb : TD} (ho : OpD X (binaryOp op) m) (ha : PD X a ta) (hb : PD X b tb) : PD X (.BinOp a op b pos) (eOp m ta tb) := by
  obtain ⟨sa, pa, wa⟩ := ha.ex
  obtain ⟨sb, pb, wb⟩ := hb.ex
  exact ⟨_, pe_op ho pa pb, we_op wa wb⟩
theorem pd_cmp {op : CmpOp} {m : D → D → OM → (D → OM → Prop) → Prop} {a b : Expr} {ta tb : TD} (ho : OpD X (compareOp op) m) (ha : PD X a ta) (hb : PD X b tb) (hm : behindInMarks op b = false) : PD X (.Compare a [op] [b] pos) (eOp m ta tb) := by
  obtain ⟨sa, pa, wa⟩ := ha.ex
  obtain ⟨sb, pb, wb⟩ := hb.ex
  exact ⟨_, pe_cmpR ho pa pb hm, we_op wa wb⟩
/-- a value that is a bool, as a test -/
@[reducible] def bVal (t : TD) : TB := fun ds O Φ => t ds O fun d O1 => match d with
  | .bl b => Φ b O1
  | _ => False
theorem wb_test {K : Frag} {te : TE} {t : TD} (h : WE K te t) : WB K (tTest te) (bVal t) := by
  intro ds O Φ hd F H σ Q w e c
  refine h ds O _ hd F H σ _ w e fun v F1 H1 O1 d s1 w1 r1 h1 => ?_
  cases r1 with
  | bl b => exact ⟨b, rfl, c b F1 H1 O1 s1 w1 h1⟩
  | _ => exact h1.elim
theorem wb_tB {K : Frag} {te : TE} {t : TD} (h : WE K te t) : WB K (tB te) (bVal t) := wb_test h
theorem pb_cmp {op : CmpOp} {m : D → D → OM → (D → OM → Prop) → Prop} {a b : Expr} {ta tb : TD} (ho : OpD X (compareOp op) m) (ha : PD X a ta) (hb : PD X b tb) (hm : behindInMarks op b = false) : PB X (.Compare a [op] [b] pos) (bVal (eOp m ta tb)) := by
  obtain ⟨sa, pa, wa⟩ := ha.ex
  obtain ⟨sb, pb, wb⟩ := hb.ex
  exact ⟨_, pt_cmpR ho pa pb hm, wb_test (we_op wa wb)⟩
theorem pb_val {e : Expr} {t : TD} (h : PD X e t) (he : ∀ whole, isTrue e X.env whole = (do let v ← whole; standAt e.pos; holding [v] (truthy v)) := by intro _; rfl) : PB X e (bVal t) := by
  obtain ⟨sa, pa, wa⟩ := h.ex
  exact ⟨_, pt_val pa he, wb_tB wa⟩
/-- a chain of two -/
@[reducible] def eChain (m m' : D → D → OM → (D → OM → Prop) → Prop) (a b c : TD) : TD := fun ds O Φ => a ds O fun x O1 => b ds O1 fun y O2 => m x y O2 fun k O3 => match k with
  | .bl true => c ds O3 fun z O4 => m' y z O4 Φ
  | .bl false => Φ (.bl false) O3
  | _ => False
theorem pd_chain {op op' : CmpOp} {m m' : D → D → OM → (D → OM → Prop) → Prop} {a b c : Expr} {ta tb tc : TD} (ho : OpD X (compareOp op) m) (ho' : OpD X (compareOp op') m') (ha : PD X a ta) (hb : PD X b tb) (hc : PD X c tc) (hl : lastMarks [op, op'] [b, c] = false := by rfl) :
    PD X (.Compare a [op, op'] [b, c] pos) (eChain m m' ta tb tc) := by
  obtain ⟨sa, pa, wa⟩ := ha.ex
  obtain ⟨sb, pb, wb⟩ := hb.ex
  obtain ⟨sc, pc, wc⟩ := hc.ex
  refine ⟨_, pe_chain ho ho' pa pb pc hl, ?_⟩
  intro ds O Φ h F H σ Q w e cn
  refine wa ds O _ h F H σ _ w e fun v F1 H1 O1 x s1 w1 r1 h1 => ?_
  refine wb ds O1 _ h1 F1 H1 σ _ w1 (e.mono s1.ff) fun u F2 H2 O2 y s2 w2 r2 h2 => ?_
  refine ⟨F2, O2, x, y, _, w2, r1.mono s2.ff, r2, h2, fun k F3 H3 O3 kd s3 w3 r3 h3 => ?_⟩
  cases r3 with
  | bl b =>
    refine ⟨b, rfl, ?_⟩
    cases b with
    | true =>
      rw [if_pos rfl]
      refine wc ds O3 _ h3 F3 H3 σ _ w3 (((e.mono s1.ff).mono s2.ff).mono s3.ff) fun z F4 H4 O4 zd s4 w4 r4 h4 => ?_
      exact ⟨F4, O4, y, zd, Φ, w4, (r2.mono s3.ff).mono s4.ff, r4, h4, (((cn.after s1).after s2).after s3).after s4⟩
    | false =>
      rw [if_neg Bool.false_ne_true]
      exact (((cn.after s1).after s2).after s3).here w3 (.bl false) h3
  | _ => exact h3.elim
/-! ### and, or, not -/
@[reducible] def bAnd (t u : TB) : TB := fun ds O Φ => t ds O fun b O1 => if b = true then u ds O1 Φ else Φ false O1
@[reducible] def bOr (t u : TB) : TB := fun ds O Φ => t ds O fun b O1 => if b = true then Φ true O1 else u ds O1 Φ
@[reducible] def bNot (t : TB) : TB := fun ds O Φ => t ds O fun b O1 => Φ (!b) O1
theorem wb_and {K : Frag} {t u : TT} {a b : TB} (ha : WB K t a) (hb : WB K u b) : WB K (tAnd t u) (bAnd a b) := by
  intro ds O Φ h F H σ Q w e c
  refine ha ds O _ h F H σ _ w e fun v F1 H1 O1 s1 w1 h1 => ?_
  cases v with
  | true => exact hb ds O1 _ h1 F1 H1 σ _ w1 (e.mono s1.ff) fun v F2 H2 O2 s2 w2 h2 => c v F2 H2 O2 (s1.trans s2) w2 h2
  | false => exact c false F1 H1 O1 s1 w1 h1
theorem wb_or {K : Frag} {t u : TT} {a b : TB} (ha : WB K t a) (hb : WB K u b) : WB K (tOr t u) (bOr a b) := by
  intro ds O Φ h F H σ Q w e c
  refine ha ds O _ h F H σ _ w e fun v F1 H1 O1 s1 w1 h1 => ?_
  cases v with
  | false => exact hb ds O1 _ h1 F1 H1 σ _ w1 (e.mono s1.ff) fun v F2 H2 O2 s2 w2 h2 => c v F2 H2 O2 (s1.trans s2) w2 h2
  | true => exact c true F1 H1 O1 s1 w1 h1
theorem pb_not {a : Expr} {t : TB} (ha : PB X a t) : PB X (.UnaryOp .Not a pos) (bNot t) := by
  obtain ⟨sa, pa, wa⟩ := ha.ex
  exact ⟨_, pt_not pa, fun ds O Φ h F H σ Q w e c => wa ds O _ h F H σ _ w e fun v F1 H1 O1 s1 w1 h1 => c (!v) F1 H1 O1 s1 w1 h1⟩
theorem pw_and1 {a : Expr} {t : TB} (ha : PB X a t) : PWB X (.BoolOp .And [a] pos) t := by
  obtain ⟨sa, pa, wa⟩ := ha.ex
  exact ⟨_, L2.pw_and1 pa, wa⟩
theorem pw_or1 {a : Expr} {t : TB} (ha : PB X a t) : PWB X (.BoolOp .Or [a] pos) t := by
  obtain ⟨sa, pa, wa⟩ := ha.ex
  exact ⟨_, L2.pw_or1 pa, wa⟩
theorem pw_and {a b : Expr} {rest : List Expr} {t u : TB} (ha : PB X a t) (hb : PWB X (.BoolOp .And (b :: rest) pos) u) : PWB X (.BoolOp .And (a :: b :: rest) pos) (bAnd t u) := by
  obtain ⟨sa, pa, wa⟩ := ha.ex
  obtain ⟨sb, pb, wb⟩ := hb.ex
  exact ⟨_, L2.pw_and pa pb, wb_and wa wb⟩
theorem pw_or {a b : Expr} {rest : List Expr} {t u : TB} (ha : PB X a t) (hb : PWB X (.BoolOp .Or (b :: rest) pos) u) : PWB X (.BoolOp .Or (a :: b :: rest) pos) (bOr t u) := by
  obtain ⟨sa, pa, wa⟩ := ha.ex
  obtain ⟨sb, pb, wb⟩ := hb.ex
  exact ⟨_, L2.pw_or pa pb, wb_or wa wb⟩
/-- as values -/
@[reducible] def eAnd (a b : TD) : TD := fun ds O Φ => a ds O fun x O1 => match x with
  | .bl true => b ds O1 Φ
  | .bl false => Φ (.bl false) O1
  | _ => False
@[reducible] def eOr (a b : TD) : TD := fun ds O Φ => a ds O fun x O1 => match x with
  | .bl true => Φ (.bl true) O1
  | .bl false => b ds O1 Φ
  | _ => False
@[reducible] def eNot (a : TD) : TD := fun ds O Φ => a ds O fun x O1 => match x with
  | .bl b => Φ (.bl (!b)) O1
  | _ => False
theorem pd_one {op} {a : Expr} {t : TD} (h : PD X a t) : PD X (.BoolOp op [a] pos) t := by
  obtain ⟨sa, pa, wa⟩ := h.ex
  exact ⟨_, pe_one pa, wa⟩
theorem pd_and {a b : Expr} {rest : List Expr} {t u : TD} (ha : PD X a t) (hb : PD X (.BoolOp .And (b :: rest) pos) u) : PD X (.BoolOp .And (a :: b :: rest) pos) (eAnd t u) := by
  obtain ⟨sa, pa, wa⟩ := ha.ex
  obtain ⟨sb, pb, wb⟩ := hb.ex
  refine ⟨_, pe_and pa pb, fun ds O Φ h F H σ Q w e c => ?_⟩
  refine wa ds O _ h F H σ _ w e fun v F1 H1 O1 x s1 w1 r1 h1 => ?_
  cases r1 with
  | bl k =>
    refine ⟨k, rfl, ?_⟩
    cases k with
    | true => rw [if_pos rfl]; exact wb ds O1 _ h1 F1 H1 σ _ w1 (e.mono s1.ff) (c.after s1)
    | false => rw [if_neg Bool.false_ne_true]; exact (c.after s1).here w1 (.bl false) h1
  | _ => exact h1.elim
theorem pd_or {a b : Expr} {rest : List Expr} {t u : TD} (ha : PD X a t) (hb : PD X (.BoolOp .Or (b :: rest) pos) u) : PD X (.BoolOp .Or (a :: b :: rest) pos) (eOr t u) := by
  obtain ⟨sa, pa, wa⟩ := ha.ex
  obtain ⟨sb, pb, wb⟩ := hb.ex
  refine ⟨_, pe_or pa pb, fun ds O Φ h F H σ Q w e c => ?_⟩
  refine wa ds O _ h F H σ _ w e fun v F1 H1 O1 x s1 w1 r1 h1 => ?_
  cases r1 with
  | bl k =>
    refine ⟨k, rfl, ?_⟩
    cases k with
    | false => rw [if_neg Bool.false_ne_true]; exact wb ds O1 _ h1 F1 H1 σ _ w1 (e.mono s1.ff) (c.after s1)
    | true => rw [if_pos rfl]; exact (c.after s1).here w1 (.bl true) h1
  | _ => exact h1.elim
theorem pd_not {a : Expr} {t : TD} (ha : PD X a t) : PD X (.UnaryOp .Not a pos) (eNot t) := by
  obtain ⟨sa, pa, wa⟩ := ha.ex
  refine ⟨_, pe_not pa, fun ds O Φ h F H σ Q w e c => ?_⟩
  refine wa ds O _ h F H σ _ w e fun v F1 H1 O1 x s1 w1 r1 h1 => ?_
  cases r1 with
  | bl k => exact ⟨k, rfl, (c.after s1).here w1 (.bl (!k)) h1⟩
  | _ => exact h1.elim
@[reducible] def eIf (t : TB) (a b : TD) : TD := fun ds O Φ => t ds O fun k O1 => if k = true then a ds O1 Φ else b ds O1 Φ
theorem pd_ifExp {c a b : Expr} {t : TB} {ta tb : TD} (hc : PB X c t) (ha : PD X a ta) (hb : PD X b tb) : PD X (.IfExp c a b pos) (eIf t ta tb) := by
  obtain ⟨sc, pc, wc⟩ := hc.ex
  obtain ⟨sa, pa, wa⟩ := ha.ex
  obtain ⟨sb, pb, wb⟩ := hb.ex
  refine ⟨_, pe_ifExp pc pa pb, fun ds O Φ h F H σ Q w e c => ?_⟩
  refine wc ds O _ h F H σ _ w e fun v F1 H1 O1 s1 w1 h1 => ?_
  cases v with
  | true => exact wa ds O1 _ h1 F1 H1 σ _ w1 (e.mono s1.ff) (c.after s1)
  | false => exact wb ds O1 _ h1 F1 H1 σ _ w1 (e.mono s1.ff) (c.after s1)

/-! ### argument lists, displays -/
theorem pad_nil : PAD X [] [] := ⟨_, pa_nil, fun ds O Φ h F H σ Q w e c => c [] F H O [] Step.refl w .nil rfl h⟩
theorem pad_cons {e : Expr} {es : List Expr} {t : TD} {ts : List TD} (ha : PD X e t) (hr : PAD X es ts) (hs : starEach (e :: es) X.env = (false, eval e X.env) :: starEach es X.env := by rfl) : PAD X (e :: es) (t :: ts) := by
  obtain ⟨sa, pa, wa⟩ := ha.ex
  obtain ⟨sb, pb, wb⟩ := hr.ex
  refine ⟨_, pa_cons pa pb hs, fun ds O Φ h F H σ Q w e c => ?_⟩
  refine wa ds O _ h F H σ _ w e fun v F1 H1 O1 x s1 w1 r1 h1 => ?_
  refine wb ds O1 _ h1 F1 H1 σ _ w1 (e.mono s1.ff) fun vs F2 H2 O2 xs s2 w2 r2 l2 h2 => ?_
  exact c (v :: vs) F2 H2 O2 (x :: xs) (s1.trans s2) w2 (.cons (r1.mono s2.ff) r2) (congrArg Nat.succ l2) h2
@[reducible] def eTup (as : List TD) : TD := fun ds O Φ => argsW as ds O fun xs O1 => Φ (.tup xs) O1
@[reducible] def eLst (as : List TD) : TD := fun ds O Φ => argsW as ds O fun xs O1 => Φ (.lst xs) O1
/-- .. a list that will be changed -/
@[reducible] def eLstO (as : List TD) : TD := fun ds O Φ => argsW as ds O fun xs O1 => ∀ p, O1 p = none → Φ (.ref p) (updO O1 p (.lst xs))
theorem pd_tup {es : List Expr} {as : List TD} {x1} (h : PAD X es as) (hl : as.length ≤ sizeLine := by decide) : PD X (.Tuple es x1 pos) (eTup as) := by
  obtain ⟨sa, pa, wa⟩ := h.ex
  refine ⟨_, pe_tup pa, fun ds O Φ h F H σ Q w e c => ?_⟩
  refine wa ds O _ h F H σ _ w e fun vs F1 H1 O1 xs s1 w1 r1 l1 h1 => ?_
  exact ⟨by rw [r1.length, l1]; exact hl, fun p hp => (c.after s1).tup w1 r1 h1 hp⟩
theorem pd_lst {es : List Expr} {as : List TD} (h : PAD X es as) (hl : as.length ≤ sizeLine := by decide) : PD X (.List es pos) (eLst as) := by
  obtain ⟨sa, pa, wa⟩ := h.ex
  refine ⟨_, pe_lst pa, fun ds O Φ h F H σ Q w e c => ?_⟩
  refine wa ds O _ h F H σ _ w e fun vs F1 H1 O1 xs s1 w1 r1 l1 h1 => ?_
  exact ⟨by rw [r1.length, l1]; exact hl, fun p hp => (c.after s1).lst w1 r1 h1 hp⟩
theorem pd_lstO {es : List Expr} {as : List TD} (h : PAD X es as) (hl : as.length ≤ sizeLine := by decide) : PD X (.List es pos) (eLstO as) := by
  obtain ⟨sa, pa, wa⟩ := h.ex
  refine ⟨_, pe_lst pa, fun ds O Φ h F H σ Q w e c => ?_⟩
  refine wa ds O _ h F H σ _ w e fun vs F1 H1 O1 xs s1 w1 r1 l1 h1 => ?_
  exact ⟨by rw [r1.length, l1]; exact hl, fun p hp => (c.after s1).lstO w1 r1 h1 hp⟩

/-! ### built-in calls by data -/
def CallD (X : Cx) (f : Value) (n : Nat) (m : List D → OM → (D → OM → Prop) → Prop) : Prop :=
  CallR X f fun vs H Q => ∃ F O ds Φ, Wd X.K F H O ∧ RepL X.K F vs ds ∧ ds.length = n ∧ m ds O Φ ∧ Cn X.K F H O Φ Q
@[reducible] def eCB (m : List D → OM → (D → OM → Prop) → Prop) (as : List TD) : TD := fun ds O Φ => argsW as ds O fun xs O1 => m xs O1 Φ
theorem pd_callB {x : Str} {id : String} {m : List D → OM → (D → OM → Prop) → Prop} {p : Pos} {e : Expr} {es : List Expr} {as : List TD} (hc : CallD X (.builtin id) as.length m) (hg : Gl X x) (hm : X.mg x = none) (hv : bootBuiltins x = some (.builtin id)) (ha : PAD X (e :: es) as)
    (hn : x ≠ "__name__" := by decide) (hdb : (x == ("__debug__" : Str)) = false := by decide)
    (he : starEach (e :: es) X.env = (false, eval e X.env) :: starEach es X.env := by rfl) (hpl : (backTo pos (starEach es X.env)).any (·.1) = false := by rfl) : PD X (.Call (.Name x p) (e :: es) [] pos) (eCB m as) := by
  obtain ⟨sa, pa, wa⟩ := ha.ex
  refine ⟨_, pe_callB hc hg hm hv pa hn hdb he hpl, fun ds O Φ h F H σ Q w e c => ?_⟩
  refine wa ds O _ h F H σ _ w e fun vs F1 H1 O1 xs s1 w1 r1 l1 h1 => ?_
  exact ⟨F1, O1, xs, Φ, w1, r1, l1, h1, c.after s1⟩
theorem pd_callTy {x : Str} {T : String} {m : List D → OM → (D → OM → Prop) → Prop} {p : Pos} {e : Expr} {es : List Expr} {as : List TD} (hc : CallD X (.type T) as.length m) (hg : Gl X x) (hm : X.mg x = none) (hv : bootBuiltins x = some (.type T)) (ha : PAD X (e :: es) as)
    (hn : x ≠ "__name__" := by decide) (hdb : (x == ("__debug__" : Str)) = false := by decide)
    (he : starEach (e :: es) X.env = (false, eval e X.env) :: starEach es X.env := by rfl) (hpl : (backTo pos (starEach es X.env)).any (·.1) = false := by rfl) : PD X (.Call (.Name x p) (e :: es) [] pos) (eCB m as) := by
  obtain ⟨sa, pa, wa⟩ := ha.ex
  refine ⟨_, pe_callTy hc hg hm hv pa hn hdb he hpl, fun ds O Φ h F H σ Q w e c => ?_⟩
  refine wa ds O _ h F H σ _ w e fun vs F1 H1 O1 xs s1 w1 r1 l1 h1 => ?_
  exact ⟨F1, O1, xs, Φ, w1, r1, l1, h1, c.after s1⟩

/-! ### statements -/
theorem psd_nil : PSDs X [] (fun E ds O => E.nx ds O) := ⟨_, pss_nil, fun E ds O h F H σ De w e c => c.nx.here w e h⟩
@[reducible] def sSeq (t u : TSD) : TSD := fun E ds O => t { E with nx := u E } ds O
theorem psd_cons {st : Stmt} {rest : List Stmt} {t u : TSD} (h1 : PSD X st t) (h2 : PSDs X rest u) : PSDs X (st :: rest) (sSeq t u) := by
  obtain ⟨sa, pa, wa⟩ := h1.ex
  obtain ⟨sb, pb, wb⟩ := h2.ex
  refine ⟨_, pss_cons pa pb, fun E ds O h F H σ De w e c => ?_⟩
  refine wa _ ds O h F H σ _ w e ⟨fun σ' F' H' O' ds' s' w' e' h' => ?_, c.rt, c.bk, c.ct⟩
  exact wb E ds' O' h' F' H' σ' De w' e' (c.after s')
theorem psd_one {st : Stmt} {t : TSD} (h1 : PSD X st t) : PSDs X [st] t := by
  obtain ⟨sa, pa, wa⟩ := h1.ex
  exact ⟨_, pss_one pa, wa⟩
@[reducible] def sNever : TSD := fun _ _ _ => False
theorem psd_never {sts : List Stmt} : PSDs X sts sNever := ⟨_, pss_never, fun _ _ _ h => h.elim⟩
theorem ps_neverD {st : Stmt} : PSD X st sNever := ⟨_, ps_never, fun _ _ _ h => h.elim⟩
theorem psd_pass : PSD X (.Pass pos) (fun E ds O => E.nx ds O) := ⟨_, ps_pass, fun E ds O h F H σ De w e c => c.nx.here w e h⟩
theorem psd_break : PSD X (.Break pos) (fun E ds O => E.bk ds O) := ⟨_, ps_break, fun E ds O h F H σ De w e c => c.bk.here w e h⟩
theorem psd_continue : PSD X (.Continue pos) (fun E ds O => E.ct ds O) := ⟨_, ps_continue, fun E ds O h F H σ De w e c => c.ct.here w e h⟩
@[reducible] def sRet (t : TD) : TSD := fun E ds O => t ds O E.rt
theorem psd_ret {e : Expr} {t : TD} (h : PD X e t) : PSD X (.Return (some e) pos) (sRet t) := by
  obtain ⟨sa, pa, wa⟩ := h.ex
  exact ⟨_, ps_ret pa, fun E ds O h F H σ De w e c => wa ds O _ h F H σ _ w e c.rt⟩
theorem psd_retN : PSD X (.Return none pos) (fun E ds O => E.rt .non O) := ⟨_, ps_retN, fun E ds O h F H σ De w e c => c.rt.here w .non h⟩
@[reducible] def sExpr (t : TD) : TSD := fun E ds O => t ds O fun _ O1 => E.nx ds O1
theorem psd_expr {e : Expr} {t : TD} (h : PD X e t) (hs : swapsWith e none pos.line X.env = pure false := by rfl) : PSD X (.Expr e pos) (sExpr t) := by
  obtain ⟨sa, pa, wa⟩ := h.ex
  refine ⟨_, ps_expr pa hs, fun E ds O h F H σ De w e c => ?_⟩
  exact wa ds O _ h F H σ _ w e fun v F1 H1 O1 d s1 w1 r1 h1 => (c.nx.after s1).here w1 (e.mono s1.ff) h1
@[reducible] def sIf (t : TB) (a b : TSD) : TSD := fun E ds O => t ds O fun k O1 => if k = true then a E ds O1 else b E ds O1
theorem psd_if {c : Expr} {a b : List Stmt} {t : TB} {ta tb : TSD} (hc : PB X c t) (ha : PSDs X a ta) (hb : PSDs X b tb) : PSD X (.If c a b pos) (sIf t ta tb) := by
  obtain ⟨sc, pc, wc⟩ := hc.ex
  obtain ⟨sa, pa, wa⟩ := ha.ex
  obtain ⟨sb, pb, wb⟩ := hb.ex
  refine ⟨_, ps_if pc pa pb, fun E ds O h F H σ De w e cn => ?_⟩
  refine wc ds O _ h F H σ _ w e fun v F1 H1 O1 s1 w1 h1 => ?_
  cases v with
  | true => exact wa E ds O1 h1 F1 H1 σ De w1 (e.mono s1.ff) (cn.after s1)
  | false => exact wb E ds O1 h1 F1 H1 σ De w1 (e.mono s1.ff) (cn.after s1)
/-! ### targets -/
@[reducible] def dName (i : Nat) : TGD := fun d ds O Φ => Φ (setD ds i (some d)) O
theorem pgd_name {i : Nat} {x : Str} (h : PG X (.Name x pos) (gName i)) : PGD X (.Name x pos) [i] (dName i) :=
  ⟨_, h, fun d ds O Φ h F H σ v N w e r c => c _ F H O _ (wipe_set _ _ _) Step.refl w (e.set r i) (by rw [← setD_eq]; exact h)⟩
@[reducible] def dNil : List D → EnvD → OM → (EnvD → OM → Prop) → Prop := fun xs ds O Φ => match xs with
  | [] => Φ ds O
  | _ => False
@[reducible] def dCons (g : TGD) (r : List D → EnvD → OM → (EnvD → OM → Prop) → Prop) : List D → EnvD → OM → (EnvD → OM → Prop) → Prop := fun xs ds O Φ => match xs with
  | d :: xs => g d ds O fun ds1 O1 => r xs ds1 O1 Φ
  | [] => False
theorem pgds_nil : PGDs X [] [] dNil := by
  refine ⟨_, pgs_nil, fun d ds O Φ h F H σ v N w e r c => ?_⟩
  cases r with
  | nil => exact ⟨rfl, c σ F H O ds rfl Step.refl w e h⟩
  | cons _ _ => exact h.elim
theorem pgds_cons {t : Expr} {ts : List Expr} {g : TGD} {gs : List D → EnvD → OM → (EnvD → OM → Prop) → Prop} {w1 w2 : List Nat} (h1 : PGD X t w1 g) (h2 : PGDs X ts w2 gs)
    (hs : (assignEach (t :: ts) X.env).map (·.2) = assign t X.env :: (assignEach ts X.env).map (·.2) := by rfl) : PGDs X (t :: ts) (w1 ++ w2) (dCons g gs) := by
  obtain ⟨sa, pa, wa⟩ := h1.ex
  obtain ⟨sb, pb, wb⟩ := h2.ex
  refine ⟨_, pgs_cons pa pb hs, fun d ds O Φ h F H σ v N w e r c => ?_⟩
  cases r with
  | nil => exact h.elim
  | cons r rr =>
    refine ⟨_, _, rfl, ?_⟩
    refine wa _ ds O _ h F H σ _ _ w e r fun σ' F' H' O' ds' q' s' w' e' h' => ?_
    refine wb _ ds' O' Φ h' F' H' σ' _ N w' e' (rr.mono s'.ff) fun σ'' F'' H'' O'' ds'' q'' s'' w'' e'' h'' => ?_
    exact c σ'' F'' H'' O'' ds'' ((wipe_sub q'' fun i z => List.mem_append_right _ z).trans (wipe_sub q' fun i z => List.mem_append_left _ z)) (s'.trans s'') w'' e'' h''
@[reducible] def dTup (n : Nat) (g : List D → EnvD → OM → (EnvD → OM → Prop) → Prop) : TGD := fun d ds O Φ => match d with
  | .tup xs => xs.length = n ∧ g xs ds O Φ
  | _ => False
theorem pgd_tup {es : List Expr} {k : Nat} {n : Nat} {g : List D → EnvD → OM → (EnvD → OM → Prop) → Prop} {ws : List Nat} (hc : X.calm = true) (h : PGDs X es ws g)
    (hn : (assignEach es X.env).length = n := by rfl) (hst : (assignEach es X.env).findIdx? (·.1) = none := by rfl) : PGD X (.Tuple es k pos) ws (dTup n g) := by
  obtain ⟨sa, pa, wa⟩ := h.ex
  refine ⟨_, pg_tup hc pa hn hst, fun d ds O Φ h F H σ v N w e r c => ?_⟩
  cases r with
  | tup hq rr =>
    obtain ⟨h1, h2⟩ := h
    exact ⟨_, _, rfl, w.sm.sqT hq, by rw [rr.length]; exact h1, wa _ ds O Φ h2 F H σ _ N w e rr c⟩
  | _ => exact h.elim
/-- a target's reading by data, where it stores is left aside -/
def WG (K : Frag) (tg : TG) (g : TGD) : Prop := ∀ d ds O Φ, g d ds O Φ → ∀ F H σ v N, Wd K F H O → EnvOk K F σ ds → Rep K F v d → CnE K F H O Φ N → tg v σ H N
theorem PGD.wg {tg : Expr} {ws : List Nat} {g : TGD} (h : PGD X tg ws g) : ∃ tg', PG X tg tg' ∧ WG X.K tg' g := by
  obtain ⟨sg, pg, wg⟩ := h.ex
  exact ⟨sg, pg, fun d ds O Φ h F H σ v N w e r c => wg d ds O Φ h F H σ v N w e r fun σ' F' H' O' ds' _ => c σ' F' H' O' ds'⟩
@[reducible] def sAsg (t : TD) (g : TGD) : TSD := fun E ds O => t ds O fun d O1 => g d ds O1 E.nx
theorem ws_asg {K : Frag} {te : TE} {t : TD} {tg : TG} {g : TGD} (ht : WE K te t) (hg : WG K tg g) : WS K (tAsg te tg) (sAsg t g) := by
  intro E ds O h F H σ De w e c
  refine ht ds O _ h F H σ _ w e fun v F1 H1 O1 d s1 w1 r1 h1 => ?_
  exact hg d ds O1 _ h1 F1 H1 σ v _ w1 (e.mono s1.ff) r1 (c.nx.after s1)
theorem psd_asg {tg e : Expr} {t : TD} {g : TGD} {ws : List Nat} (he : PD X e t) (hg : PGD X tg ws g) (hs : swapsWithSole [tg] e pos.line X.env = pure false := by rfl) (hw : swappedStores [tg] e X.env = pure none := by rfl)
    (h1 : (assignEach [tg] X.env).map (·.2) = [assign tg X.env] := by rfl) : PSD X (.Assign [tg] e pos) (sAsg t g) := by
  obtain ⟨sa, pa, wa⟩ := he.ex
  obtain ⟨sb, pb, wb⟩ := hg.wg
  exact ⟨_, ps_asg pa pb hs hw h1, ws_asg wa wb⟩
theorem psd_set {i : Nat} {x : Str} {e : Expr} {t : TD} {pos' : Pos} (hN : X.N.Nodup) (hi : X.N[i]? = some x) (hx : Loc X.env.scope x) (he : PD X e t) (hs : swapsWith e (some (.Name x pos')) pos.line X.env = pure false := by rfl) (hf : X.fn x = true ∨ X.env.scope.names.lookup x = some .local := by first | exact .inl rfl | exact .inr rfl | assumption) :
    PSD X (.Assign [.Name x pos'] e pos) (sAsg t (dName i)) := by
  obtain ⟨sa, pa, wa⟩ := he.ex
  exact ⟨_, ps_set hN hi hx pa hs hf, ws_asg wa fun d ds O Φ h F H σ v N w e r c => c.here w (e.set r i) (by rw [← setD_eq]; exact h)⟩
/-- o[i] = v by data -/
def PSetD (X : Cx) (m : D → D → D → OM → (OM → Prop) → Prop) : Prop :=
  PSet X fun o i v H N => ∃ F O d e z Φ, Wd X.K F H O ∧ Rep X.K F o d ∧ Rep X.K F i e ∧ Rep X.K F v z ∧ m d e z O Φ ∧ ∀ F' H' O', Step F H O F' H' O' → Wd X.K F' H' O' → Φ O' → N H'
@[reducible] def dSub (m : D → D → D → OM → (OM → Prop) → Prop) (a b : TD) : TGD := fun z ds O Φ => a ds O fun d O1 => b ds O1 fun e O2 => m d e z O2 fun O3 => Φ ds O3
theorem pgd_sub {o i : Expr} {a b : TD} {m : D → D → D → OM → (OM → Prop) → Prop} (ho : PD X o a) (hi : PD X i b) (hs : PSetD X m)
    (ha : ∀ v, assign (.Subscript o i pos) X.env v = (do
      let ov ← holding [v] (eval o X.env)
      let iv ← holding [v, ov] (eval i X.env)
      standAt pos
      holding [v, ov, iv] (setItem ov iv v)
      release [v, ov, iv] []) := by intro _; rfl) : PGD X (.Subscript o i pos) [] (dSub m a b) := by
  obtain ⟨sa, pa, wa⟩ := ho.ex
  obtain ⟨sb, pb, wb⟩ := hi.ex
  refine ⟨_, pg_sub pa pb hs ha, fun z ds O Φ h F H σ v N w e r c => ?_⟩
  refine wa ds O _ h F H σ _ w e fun v1 F1 H1 O1 d1 s1 w1 r1 h1 => ?_
  refine wb ds O1 _ h1 F1 H1 σ _ w1 (e.mono s1.ff) fun v2 F2 H2 O2 d2 s2 w2 r2 h2 => ?_
  refine ⟨F2, O2, d1, d2, z, _, w2, r1.mono s2.ff, r2, (r.mono s1.ff).mono s2.ff, h2, fun F3 H3 O3 s3 w3 h3 => ?_⟩
  exact c σ F3 H3 O3 ds rfl ((s1.trans s2).trans s3) w3 (((e.mono s1.ff).mono s2.ff).mono s3.ff) h3
end
end DL

set_option maxHeartbeats 4000000
/-! DL2: loops, comprehensions, defs and their calls, fields. -/
namespace DL
open PySem PySem.Spec PyProof.Rows L2

/-! ### what a loop walks -/
structure IterOk (K : Frag) (J : It) (F : Hp) (xs : List D) : Prop where
  go : ∀ F1 H O i d, Sm F F1 → Wd K F1 H O → xs[i]? = some d → J.go i H ∧ ∀ x H', J.yld i H x H' → ∃ F2, Step F1 H O F2 H' O ∧ Wd K F2 H' O ∧ Rep K F2 x d
  stop : ∀ F1 H O, Sm F F1 → Wd K F1 H O → J.stop xs.length H
structure PID (X : Cx) (tg iter : Expr) (it : TID) : Prop where
  ex : ∃ wi, PI X tg iter wi ∧ ∀ ds O Φ, it ds O Φ → ∀ F H σ R, Wd X.K F H O → EnvOk X.K F σ ds →
    (∀ J F' H' O' xs, Step F H O F' H' O' → Wd X.K F' H' O' → IterOk X.K J F' xs → Φ xs O' → R J H') → wi σ H R
theorem iterL {K : Frag} {F : Hp} {a : Addr} {vs : List V} {ds : List D} (h : SqL K F a vs) (r : RepL K F vs ds) : IterOk K (Itl K a) F ds where
  go := fun F1 H O i d s w e => by
    have q := w.sm.sqL (s.sqL h)
    obtain ⟨v, ev, rv⟩ := r.get e
    refine ⟨⟨vs, v, q, ev⟩, fun x H' y => ?_⟩
    obtain ⟨e1, y⟩ := y
    subst e1
    have z := y vs q
    rw [ev] at z
    cases z
    exact ⟨F1, Step.refl, w, rv.mono s⟩
  stop := fun F1 H O s w => ⟨vs, w.sm.sqL (s.sqL h), by rw [r.length]; exact Nat.le_refl _⟩
theorem iterT {K : Frag} {F : Hp} {a : Addr} {vs : List V} {ds : List D} (h : SqT K F a vs) (r : RepL K F vs ds) : IterOk K (Itt K a) F ds where
  go := fun F1 H O i d s w e => by
    have q := w.sm.sqT (s.sqT h)
    obtain ⟨v, ev, rv⟩ := r.get e
    refine ⟨⟨vs, v, q, ev⟩, fun x H' y => ?_⟩
    obtain ⟨e1, y⟩ := y
    subst e1
    have z := y vs q
    rw [ev] at z
    cases z
    exact ⟨F1, Step.refl, w, rv.mono s⟩
  stop := fun F1 H O s w => ⟨vs, w.sm.sqT (s.sqT h), by rw [r.length]; exact Nat.le_refl _⟩
def rangeD (lo : Int) (n : Nat) : List D := (List.range n).map fun i => D.int (lo + (i : Nat))
theorem rangeD_len (lo : Int) (n : Nat) : (rangeD lo n).length = n := by unfold rangeD; simp
theorem rangeD_get {lo : Int} {n i : Nat} {d : D} (h : (rangeD lo n)[i]? = some d) : i < n ∧ d = .int (lo + (i : Nat)) := by
  unfold rangeD at h
  rw [List.getElem?_map] at h
  by_cases l : i < n
  · rw [List.getElem?_range l] at h
    exact ⟨l, (Option.some.inj h).symm⟩
  · rw [List.getElem?_eq_none (by simp; omega)] at h
    cases h
theorem iterR {K : Frag} {F : Hp} {lo : Int} {n : Nat} : IterOk K (Itr lo n) F (rangeD lo n) where
  go := fun F1 H O i d s w e => by
    obtain ⟨l, e⟩ := rangeD_get e
    subst e
    exact ⟨l, fun x H' y => by
      obtain ⟨e1, e2⟩ := y
      subst e1 e2
      exact ⟨F1, Step.refl, w, .int _⟩⟩
  stop := fun F1 H O s w => by rw [rangeD_len]; exact Nat.le_refl _
theorem iterV {K : Frag} {F : Hp} {a : Addr} {vs : List V} {ds : List D} (h : SqL K F a vs) (r : RepL K F vs ds) : IterOk K (Itv K a vs.length) F ds.reverse where
  go := fun F1 H O i d s w e => by
    have q := w.sm.sqL (s.sqL h)
    have l : i < ds.length := by
      have := (List.getElem?_eq_some_iff.mp e).1
      rw [List.length_reverse] at this
      exact this
    rw [List.getElem?_reverse l] at e
    obtain ⟨v, ev, rv⟩ := r.get e
    have hl := r.length
    have ev' : vs[vs.length - 1 - i]? = some v := by rw [hl]; exact ev
    refine ⟨⟨by omega, vs, v, q, ev'⟩, fun x H' y => ?_⟩
    obtain ⟨e1, y⟩ := y
    subst e1
    have z := y vs q
    rw [ev'] at z
    cases z
    exact ⟨F1, Step.refl, w, rv.mono s⟩
  stop := fun F1 H O s w => by
    show vs.length ≤ ds.reverse.length
    rw [List.length_reverse, r.length]
    exact Nat.le_refl _
def enumD (k : Nat) : List D → List D
  | [] => []
  | d :: ds => .tup [.int (k : Nat), d] :: enumD (k + 1) ds
theorem enumD_len : ∀ (k : Nat) (ds : List D), (enumD k ds).length = ds.length
  | _, [] => rfl
  | k, d :: ds => congrArg Nat.succ (enumD_len (k + 1) ds)
theorem enumD_get : ∀ {k : Nat} {ds : List D} {i : Nat} {d : D}, (enumD k ds)[i]? = some d → ∃ e, ds[i]? = some e ∧ d = .tup [.int ((k + i : Nat) : Int), e]
  | _, [], _, _, h => by simp [enumD] at h
  | k, e :: ds, 0, d, h => by
    simp [enumD] at h
    exact ⟨e, rfl, by rw [← h]; rfl⟩
  | k, e :: ds, i + 1, d, h => by
    simp only [enumD, List.getElem?_cons_succ] at h
    obtain ⟨e', h1, h2⟩ := enumD_get h
    refine ⟨e', by simpa using h1, ?_⟩
    rw [h2]
    have : k + 1 + i = k + (i + 1) := by omega
    rw [this]
theorem iterE {K : Frag} {F : Hp} {a : Addr} {vs : List V} {ds : List D} (h : SqL K F a vs) (r : RepL K F vs ds) : IterOk K (Ite K a) F (enumD 0 ds) where
  go := fun F1 H O i d s w e => by
    have q := w.sm.sqL (s.sqL h)
    obtain ⟨e0, h1, h2⟩ := enumD_get e
    obtain ⟨v, ev, rv⟩ := r.get h1
    refine ⟨⟨vs, v, q, ev⟩, fun x H' y => ?_⟩
    obtain ⟨T, z, e1, hT, e2, y⟩ := y
    subst e1 e2 h2
    have z' := y vs q
    rw [ev] at z'
    cases z'
    have st := w.newF_step hT (.tup [.int (i : Nat), v])
    refine ⟨_, st, w.newF hT _, .tup (SqT.of upd_same) (.cons ?_ (.cons ((rv.mono s).mono st.ff) .nil))⟩
    have : 0 + i = i := by omega
    rw [this]
    exact .int _
  stop := fun F1 H O s w => ⟨vs, w.sm.sqL (s.sqL h), by rw [enumD_len, r.length]; exact Nat.le_refl _⟩
section
variable {X : Cx} {pos p : Pos} {tg : Expr}
/-- the items of a list or tuple -/
@[reducible] def itSeq (t : TD) : TID := fun ds O Φ => t ds O fun d O1 => match d with
  | .lst xs => Φ xs O1
  | .scr xs => Φ xs O1
  | _ => False
@[reducible] def itTup (t : TD) : TID := fun ds O Φ => t ds O fun d O1 => match d with
  | .tup xs => Φ xs O1
  | _ => False
theorem pid_list {l : Expr} {t : TD} (h : PD X l t) : PID X tg l (itSeq t) := by
  obtain ⟨sa, pa, wa⟩ := h.ex
  refine ⟨_, pi_list pa, fun ds O Φ h F H σ R w e c => ?_⟩
  refine wa ds O _ h F H σ _ w e fun v F1 H1 O1 d s1 w1 r1 h1 => ?_
  cases r1 with
  | lst ha r => exact ⟨_, rfl, ⟨_, w1.sm.sqL (SqL.of ha)⟩, c _ F1 H1 O1 _ s1 w1 (iterL (SqL.of ha) r) h1⟩
  | scr ha r => exact ⟨_, rfl, ⟨_, w1.sm.sqL ha⟩, c _ F1 H1 O1 _ s1 w1 (iterL ha r) h1⟩
  | _ => exact h1.elim
theorem pid_tup {l : Expr} {t : TD} (h : PD X l t) : PID X tg l (itTup t) := by
  obtain ⟨sa, pa, wa⟩ := h.ex
  refine ⟨_, pi_tup pa, fun ds O Φ h F H σ R w e c => ?_⟩
  refine wa ds O _ h F H σ _ w e fun v F1 H1 O1 d s1 w1 r1 h1 => ?_
  cases r1 with
  | tup ha r => exact ⟨_, rfl, ⟨_, w1.sm.sqT ha⟩, c _ F1 H1 O1 _ s1 w1 (iterT ha r) h1⟩
  | _ => exact h1.elim
/-- range(n), range(a, b) -/
@[reducible] def itR1 (as : List TD) : TID := fun ds O Φ => argsW as ds O fun xs O1 => match xs with
  | [.int j] => (-(2 ^ 62) ≤ j ∧ j < 2 ^ 62) ∧ Φ (rangeD 0 j.toNat) O1
  | _ => False
@[reducible] def itR2 (as : List TD) : TID := fun ds O Φ => argsW as ds O fun xs O1 => match xs with
  | [.int i, .int j] => (-(2 ^ 62) ≤ i ∧ i < 2 ^ 62 ∧ -(2 ^ 62) ≤ j ∧ j < 2 ^ 62) ∧ Φ (rangeD i (j - i).toNat) O1
  | _ => False
theorem pid_range1 {a : Expr} {as : List TD} (hg : Gl X "range") (hm : X.mg "range" = none) (ha : PAD X [a] as) (hs : starEach [a] X.env = [(false, eval a X.env)] := by rfl) : PID X tg (.Call (.Name "range" p) [a] [] pos) (itR1 as) := by
  obtain ⟨sa, pa, wa⟩ := ha.ex
  refine ⟨_, pi_range1 hg hm pa hs, fun ds O Φ h F H σ R w e c => ?_⟩
  refine wa ds O _ h F H σ _ w e fun vs F1 H1 O1 xs s1 w1 r1 l1 h1 => ?_
  cases r1 with
  | nil => exact h1.elim
  | cons r rr =>
    cases rr with
    | cons r2 rr => cases r <;> exact h1.elim
    | nil =>
      cases r with
      | int j => exact ⟨j, rfl, h1.1.1, h1.1.2, c _ F1 H1 O1 _ s1 w1 iterR h1.2⟩
      | _ => exact h1.elim
theorem pid_range2 {a b : Expr} {as : List TD} (hg : Gl X "range") (hm : X.mg "range" = none) (ha : PAD X [a, b] as) (hs : starEach [a, b] X.env = [(false, eval a X.env), (false, eval b X.env)] := by rfl) (hs2 : starEach [b] X.env = [(false, eval b X.env)] := by rfl) : PID X tg (.Call (.Name "range" p) [a, b] [] pos) (itR2 as) := by
  obtain ⟨sa, pa, wa⟩ := ha.ex
  refine ⟨_, pi_range2 hg hm pa hs hs2, fun ds O Φ h F H σ R w e c => ?_⟩
  refine wa ds O _ h F H σ _ w e fun vs F1 H1 O1 xs s1 w1 r1 l1 h1 => ?_
  cases r1 with
  | nil => exact h1.elim
  | cons r rr =>
    cases rr with
    | nil => cases r <;> exact h1.elim
    | cons r2 rr =>
      cases rr with
      | cons r3 rr => cases r <;> cases r2 <;> exact h1.elim
      | nil =>
        cases r with
        | int i =>
          cases r2 with
          | int j => exact ⟨i, j, rfl, h1.1, c _ F1 H1 O1 _ s1 w1 iterR h1.2⟩
          | _ => exact h1.elim
        | _ => exact h1.elim
/-- reversed(list), enumerate(list) -/
@[reducible] def itRev (as : List TD) : TID := fun ds O Φ => argsW as ds O fun xs O1 => match xs with
  | [.lst xs] => Φ xs.reverse O1
  | _ => False
@[reducible] def itEnum (as : List TD) : TID := fun ds O Φ => argsW as ds O fun xs O1 => match xs with
  | [.lst xs] => Φ (enumD 0 xs) O1
  | _ => False
theorem pid_rev {a : Expr} {as : List TD} (hg : Gl X "reversed") (hm : X.mg "reversed" = none) (ha : PAD X [a] as) (hs : starEach [a] X.env = [(false, eval a X.env)] := by rfl) : PID X tg (.Call (.Name "reversed" p) [a] [] pos) (itRev as) := by
  obtain ⟨sa, pa, wa⟩ := ha.ex
  refine ⟨_, pi_reversed hg hm pa hs, fun ds O Φ h F H σ R w e c => ?_⟩
  refine wa ds O _ h F H σ _ w e fun vs F1 H1 O1 xs s1 w1 r1 l1 h1 => ?_
  cases r1 with
  | nil => exact h1.elim
  | cons r rr =>
    cases rr with
    | cons r2 rr => cases r <;> exact h1.elim
    | nil =>
      cases r with
      | lst ha r => exact ⟨_, _, rfl, w1.sm.sqL (SqL.of ha), c _ F1 H1 O1 _ s1 w1 (iterV (SqL.of ha) r) h1⟩
      | _ => exact h1.elim
theorem pid_enum {a : Expr} {as : List TD} {elts : List Expr} {kk : Nat} {tpos : Pos} (hg : Gl X "enumerate") (hm : X.mg "enumerate" = none) (ha : PAD X [a] as) (hs : starEach [a] X.env = [(false, eval a X.env)] := by rfl) : PID X (.Tuple elts kk tpos) (.Call (.Name "enumerate" p) [a] [] pos) (itEnum as) := by
  obtain ⟨sa, pa, wa⟩ := ha.ex
  refine ⟨_, pi_enum hg hm pa hs, fun ds O Φ h F H σ R w e c => ?_⟩
  refine wa ds O _ h F H σ _ w e fun vs F1 H1 O1 xs s1 w1 r1 l1 h1 => ?_
  cases r1 with
  | nil => exact h1.elim
  | cons r rr =>
    cases rr with
    | cons r2 rr => cases r <;> exact h1.elim
    | nil =>
      cases r with
      | lst ha r => exact ⟨_, _, rfl, w1.sm.sqL (SqL.of ha), c _ F1 H1 O1 _ s1 w1 (iterE (SqL.of ha) r) h1⟩
      | _ => exact h1.elim
end

/-! ### for, while -/
def loopS (g : TGD) (b : TSD) (E : EndsD) : List D → EnvD → OM → Prop
  | [], ds, O => E.nx ds O
  | x :: r, ds, O => g x ds O fun ds1 O1 => b { E with nx := loopS g b E r, ct := loopS g b E r, bk := E.nx } ds1 O1
@[reducible] def sFor (it : TID) (g : TGD) (b : TSD) : TSD := fun E ds O => it ds O fun xs O1 => loopS g b E xs ds O1
section
variable {X : Cx} {pos : Pos}
theorem psd_for {tg iter : Expr} {body : List Stmt} {it : TID} {g : TGD} {b : TSD} (hp : PassesOwn (model X.prog X.w) X.A X.env X.xe) (hc : X.calm = true) {ws : List Nat} (hi : PID X tg iter it) (hg : PGD X tg ws g) (hb : PSDs X body b)
    (hs : ∀ x, foldedSetIterable iter X.env x = pure x := by intro _; rfl) : PSD X (.For tg iter body [] pos) (sFor it g b) := by
  obtain ⟨wi, pi, wwi⟩ := hi.ex
  obtain ⟨sg, pg, wg⟩ := hg.wg
  obtain ⟨sb, pb, wb⟩ := hb.ex
  refine ⟨_, ps_for hp hc pi pg pb hs, fun E ds O h F H σ De w e c => ?_⟩
  refine wwi ds O _ h F H σ _ w e fun J F1 H1 O1 xs s1 w1 ok h1 => ?_
  refine ⟨fun i m σ2 H2 => m = xs.length - i ∧ i ≤ xs.length ∧ ∃ F2 O2 ds2, Step F1 H1 O1 F2 H2 O2 ∧ Wd X.K F2 H2 O2 ∧ EnvOk X.K F2 σ2 ds2 ∧ loopS g b E (xs.drop i) ds2 O2, ⟨xs.length, by simp, Nat.zero_le _, F1, O1, ds, Step.refl, w1, e.mono s1.ff, by simpa using h1⟩, ?_⟩
  rintro i m σ2 H2 ⟨rfl, hi, F2, O2, ds2, s2, w2, e2, h2⟩
  by_cases l : i < xs.length
  · rw [List.drop_eq_getElem_cons l] at h2
    obtain ⟨g1, g2⟩ := ok.go F2 H2 O2 i xs[i] s2.ff w2 (List.getElem?_eq_getElem l)
    refine .inr ⟨g1, fun σ' H' => xs.length - (i + 1) = xs.length - (i + 1) ∧ i + 1 ≤ xs.length ∧ ∃ F2 O2 ds2, Step F1 H1 O1 F2 H' O2 ∧ Wd X.K F2 H' O2 ∧ EnvOk X.K F2 σ' ds2 ∧ loopS g b E (xs.drop (i + 1)) ds2 O2,
      fun σ' H' z => ⟨xs.length - (i + 1), by omega, z⟩, fun x H' y => ?_⟩
    obtain ⟨F3, s3, w3, r3⟩ := g2 x H' y
    refine wg _ ds2 O2 _ h2 F3 H' σ2 x _ w3 (e2.mono s3.ff) r3 fun σ4 F4 H4 O4 ds4 s4 w4 e4 h4 => ?_
    have sall := ((s1.trans s2).trans s3).trans s4
    exact wb _ ds4 O4 h4 F4 H4 σ4 _ w4 e4 ⟨fun σ5 F5 H5 O5 ds5 s5 w5 e5 h5 => ⟨rfl, l, F5, O5, ds5, ((s2.trans s3).trans s4).trans s5, w5, e5, h5⟩, c.rt.after sall, c.nx.after sall,
      fun σ5 F5 H5 O5 ds5 s5 w5 e5 h5 => ⟨rfl, l, F5, O5, ds5, ((s2.trans s3).trans s4).trans s5, w5, e5, h5⟩⟩
  · have e3 : i = xs.length := by omega
    subst e3
    rw [List.drop_length] at h2
    exact .inl ⟨ok.stop F2 H2 O2 s2.ff w2, (c.nx.after (s1.trans s2)).here w2 e2 h2⟩
def whileN (t : TB) (b : TSD) (E : EndsD) : Nat → EnvD → OM → Prop
  | 0, _, _ => False
  | n + 1, ds, O => t ds O fun k O1 => if k = true then b { E with nx := whileN t b E n, ct := whileN t b E n, bk := E.nx } ds O1 else E.nx ds O1
def sWhile (t : TB) (b : TSD) : TSD := fun E ds O => ∃ n, whileN t b E n ds O
theorem psd_while {c : Expr} {body : List Stmt} {t : TB} {b : TSD} (hp : PassesOwn (model X.prog X.w) X.A X.env X.xe) (hc : PB X c t) (hb : PSDs X body b) : PSD X (.While c body [] pos) (sWhile t b) := by
  obtain ⟨sc, pc, wc⟩ := hc.ex
  obtain ⟨sb, pb, wb⟩ := hb.ex
  refine ⟨_, ps_while hp pc pb, fun E ds O h F H σ De w e cn => ?_⟩
  obtain ⟨n, h⟩ := h
  refine ⟨fun m σ2 H2 => ∃ F2 O2 ds2, Step F H O F2 H2 O2 ∧ Wd X.K F2 H2 O2 ∧ EnvOk X.K F2 σ2 ds2 ∧ whileN t b E m ds2 O2, ⟨n, F, O, ds, Step.refl, w, e, h⟩, ?_⟩
  rintro m σ2 H2 ⟨F2, O2, ds2, s2, w2, e2, h2⟩
  cases m with
  | zero => exact h2.elim
  | succ m =>
    refine wc ds2 O2 _ h2 F2 H2 σ2 _ w2 e2 fun k F3 H3 O3 s3 w3 h3 => ?_
    cases k with
    | true =>
      refine ⟨fun σ' H' => ∃ F2 O2 ds2, Step F H O F2 H' O2 ∧ Wd X.K F2 H' O2 ∧ EnvOk X.K F2 σ' ds2 ∧ whileN t b E m ds2 O2, fun σ' H' z => ⟨m, Nat.lt_succ_self m, z⟩, ?_⟩
      exact wb _ ds2 O3 h3 F3 H3 σ2 _ w3 (e2.mono s3.ff) ⟨fun σ5 F5 H5 O5 ds5 s5 w5 e5 h5 => ⟨F5, O5, ds5, (s2.trans s3).trans s5, w5, e5, h5⟩, cn.rt.after (s2.trans s3), cn.nx.after (s2.trans s3), fun σ5 F5 H5 O5 ds5 s5 w5 e5 h5 => ⟨F5, O5, ds5, (s2.trans s3).trans s5, w5, e5, h5⟩⟩
    | false => exact (cn.nx.after (s2.trans s3)).here w3 (e2.mono s3.ff) h3
end

/-! ### list comprehensions -/
def lcS (vs : List Nat) (g : TGD) (t : TB) (e : TD) (ds : EnvD) (Φ : List D → OM → Prop) : List D → List D → OM → Prop
  | [], acc, O => Φ acc O
  | x :: r, acc, O => g x (wipeD ds vs) O fun ds1 O1 => t ds1 O1 fun k O2 => if k = true then e ds1 O2 fun y O3 => acc.length < 100000 ∧ lcS vs g t e ds Φ r (acc ++ [y]) O3 else lcS vs g t e ds Φ r acc O2
/-- the list known; owned -/
@[reducible] def eLc (vs : List Nat) (it : TID) (g : TGD) (t : TB) (e : TD) : TD := fun ds O Φ => it ds O fun xs O1 => lcS vs g t e ds (fun acc O2 => Φ (.lst acc) O2) xs [] O1
@[reducible] def eLcO (vs : List Nat) (it : TID) (g : TGD) (t : TB) (e : TD) : TD := fun ds O Φ => it ds O fun xs O1 => lcS vs g t e ds (fun acc O2 => ∀ p, O2 p = none → Φ (.ref p) (updO O2 p (.lst acc))) xs [] O1
@[reducible] def bYes : TB := fun _ O Φ => Φ true O
structure PBs (X : Cx) (es : List Expr) (t : TB) : Prop where
  ex : ∃ te, PTs X es te ∧ WB X.K te t
section
variable {X : Cx} {pos : Pos}
theorem pbs_nil : PBs X [] bYes := ⟨_, pts_nil, fun ds O Φ h F H σ Q w e c => c true F H O Step.refl w h⟩
theorem pbs_one {c : Expr} {t : TB} (h : PB X c t) : PBs X [c] t := by
  obtain ⟨sa, pa, wa⟩ := h.ex
  exact ⟨_, pts_one pa, wa⟩
theorem we_lc {K : Frag} {wi : TI} {tg : TG} {tt : TT} {te : TE} {vs ws : List Nat} {it : TID} {g : TGD} {t : TB} {e : TD} {fin : List D → (D → OM → Prop) → OM → Prop}
    (hi : ∀ ds O Φ, it ds O Φ → ∀ F H σ R, Wd K F H O → EnvOk K F σ ds → (∀ J F' H' O' xs, Step F H O F' H' O' → Wd K F' H' O' → IterOk K J F' xs → Φ xs O' → R J H') → wi σ H R)
    (hg : ∀ d ds O Φ, g d ds O Φ → ∀ F H σ v N, Wd K F H O → EnvOk K F σ ds → Rep K F v d → (∀ σ' F' H' O' ds', L2.wipe σ' ws = L2.wipe σ ws → Step F H O F' H' O' → Wd K F' H' O' → EnvOk K F' σ' ds' → Φ ds' O' → N σ' H') → tg v σ H N)
    (ht : WB K tt t) (he : WE K te e) (hs : ∀ i ∈ ws, i ∈ vs)
    (hfin : ∀ acc Φ O F H Q p xs F1 H1 O1, fin acc Φ O → Step F1 H1 O1 F H O → Wd K F H O → F p = none → O p = none → H1 p = none → H p = some (.lst xs) → RepL K F xs acc → Cn K F1 H1 O1 Φ Q → Q (.ref p) H) :
    WE K (tLc wi tg tt te vs) (fun ds O Φ => it ds O fun xs O1 => lcS vs g t e ds (fun acc O2 => fin acc Φ O2) xs [] O1) := by
  intro ds O Φ h F H σ Q w en cn
  refine hi ds O _ h F H σ _ w en fun J F1 H1 O1 xs s1 w1 ok h1 => ?_
  intro p hp
  have st0 : Step F1 H1 O1 F1 (upd H1 p (.lst [])) O1 := ⟨Sm.refl _, fun q u hq n => ⟨u, by rw [upd_ne (ne_of_none hq hp)]; exact hq, rfl⟩, fun q n => .inl n, fun q n => .inl n⟩
  have wput : ∀ {F2 H2 : Hp} {O2 : OM} {o : HO}, Wd K F2 H2 O2 → F2 p = none → O2 p = none → Wd K F2 (upd H2 p o) O2 := fun {F2 H2 O2 o} w2 f2 o2 => by
    refine ⟨fun a u ha => ?_, fun q c hq => ?_⟩
    · have z : a ≠ p := fun z => by subst z; rw [f2] at ha; cases ha
      rw [upd_ne z]
      exact w2.sm a u ha
    · have z : q ≠ p := fun z => by subst z; rw [o2] at hq; cases hq
      obtain ⟨h3, h4⟩ := w2.own q c hq
      exact ⟨h3, h4.mono (Sm.refl _) (upd_ne z)⟩
  have sput : ∀ {F2 H2 : Hp} {O2 : OM} {o : HO}, Step F1 H1 O1 F2 H2 O2 → Step F1 H1 O1 F2 (upd H2 p o) O2 := fun {F2 H2 O2 o} s2 =>
    ⟨s2.ff, fun q u hq n => by
      obtain ⟨u', hu, e'⟩ := s2.keep q u hq n
      exact ⟨u', by rw [upd_ne (ne_of_none hq hp)]; exact hu, e'⟩, s2.newF, s2.newO⟩
  refine ⟨fun i m H2 => m = xs.length - i ∧ i ≤ xs.length ∧ ∃ F2 O2 acc vacc, Step F1 H1 O1 F2 H2 O2 ∧ Wd K F2 H2 O2 ∧ F2 p = none ∧ O2 p = none ∧ H2 p = some (.lst vacc) ∧ RepL K F2 vacc acc ∧ lcS vs g t e ds (fun acc O2 => fin acc Φ O2) (xs.drop i) acc O2,
    ⟨xs.length, by simp, Nat.zero_le _, F1, O1, [], [], st0, wput w1 (w1.freeF hp) (w1.freeO hp), w1.freeF hp, w1.freeO hp, upd_same, .nil, by simpa using h1⟩, ?_⟩
  rintro i m H2 ⟨rfl, hi, F2, O2, acc, vacc, s2, w2, f2, o2, hl, ra, h2⟩
  by_cases l : i < xs.length
  · rw [List.drop_eq_getElem_cons l] at h2
    obtain ⟨g1, g2⟩ := ok.go F2 H2 O2 i xs[i] s2.ff w2 (List.getElem?_eq_getElem l)
    refine .inr ⟨g1, fun H' => xs.length - (i + 1) = xs.length - (i + 1) ∧ i + 1 ≤ xs.length ∧ ∃ F2 O2 acc vacc, Step F1 H1 O1 F2 H' O2 ∧ Wd K F2 H' O2 ∧ F2 p = none ∧ O2 p = none ∧ H' p = some (.lst vacc) ∧ RepL K F2 vacc acc ∧ lcS vs g t e ds (fun acc O2 => fin acc Φ O2) (xs.drop (i + 1)) acc O2,
      fun H' z => ⟨xs.length - (i + 1), by omega, z⟩, fun x H' y => ?_⟩
    have keepP : ∀ {F3 H3 F4 H4 : Hp} {O3 O4 : OM} {va : List V}, Step F3 H3 O3 F4 H4 O4 → F3 p = none → O3 p = none → H3 p = some (.lst va) → F4 p = none ∧ O4 p = none ∧ H4 p = some (.lst va) := fun {F3 H3 F4 H4 O3 O4 va} s fz oz hz => by
      obtain ⟨u', hu, e'⟩ := s.keep p _ hz oz
      refine ⟨?_, ?_, by rw [hu, unf_lst e']⟩
      · cases q : F4 p with
        | none => rfl
        | some u =>
          rcases s.newF p (by rw [q]; exact fun z => by cases z) with z | z | z
          · exact absurd fz z
          · rw [hz] at z; cases z
          · exact absurd oz z
      · cases q : O4 p with
        | none => rfl
        | some u =>
          rcases s.newO p (by rw [q]; exact fun z => by cases z) with z | z
          · exact absurd oz z
          · rw [hz] at z; cases z
    obtain ⟨F3, s3, w3, r3⟩ := g2 x H' y
    obtain ⟨f3, o3, hl3⟩ := keepP s3 f2 o2 hl
    refine hg _ (wipeD ds vs) O2 _ h2 F3 H' _ x _ w3 (((en.mono s1.ff).mono s2.ff).mono s3.ff |>.wipe vs) r3 fun σ4 F4 H4 O4 ds4 q4 s4 w4 e4 h4 => ?_
    obtain ⟨f4, o4, hl4⟩ := keepP s4 f3 o3 hl3
    refine ⟨(wipe_sub q4 hs).trans (wipe_idem σ vs), ?_⟩
    refine ht _ O4 _ h4 F4 H4 σ4 _ w4 e4 fun k F5 H5 O5 s5 w5 h5 => ?_
    obtain ⟨f5, o5, hl5⟩ := keepP s5 f4 o4 hl4
    cases k with
    | true =>
      rw [if_pos rfl] at h5 ⊢
      refine he _ O5 _ h5 F5 H5 σ4 _ w5 (e4.mono s5.ff) fun v6 F6 H6 O6 d6 s6 w6 r6 h6 => ?_
      obtain ⟨f6, o6, hl6⟩ := keepP s6 f5 o5 hl5
      have hlen := ra.length
      refine ⟨vacc, hl6, by have h61 := h6.1; rw [hlen]; exact Nat.lt_of_lt_of_le h61 (by decide), rfl, l, F6, O6, acc ++ [d6], vacc ++ [v6], sput (((((s2.trans s3).trans s4).trans s5).trans s6)), wput w6 f6 o6, f6, o6, upd_same, ?_, h6.2⟩
      exact ((((ra.mono s3.ff).mono s4.ff).mono s5.ff).mono s6.ff).app (.cons r6 .nil)
    | false =>
      rw [if_neg Bool.false_ne_true] at h5 ⊢
      exact ⟨rfl, l, F5, O5, acc, vacc, ((s2.trans s3).trans s4).trans s5, w5, f5, o5, hl5, ((ra.mono s3.ff).mono s4.ff).mono s5.ff, h5⟩
  · have e3 : i = xs.length := by omega
    subst e3
    rw [List.drop_length] at h2
    exact .inl ⟨ok.stop F2 H2 O2 s2.ff w2, hfin acc Φ O2 F2 H2 Q p vacc F1 H1 O1 h2 s2 w2 f2 o2 hp hl ra (cn.after s1)⟩
theorem we_lcF {K : Frag} {wi : TI} {tg : TG} {tt : TT} {te : TE} {vs ws : List Nat} {it : TID} {g : TGD} {t : TB} {e : TD}
    (hi : ∀ ds O Φ, it ds O Φ → ∀ F H σ R, Wd K F H O → EnvOk K F σ ds → (∀ J F' H' O' xs, Step F H O F' H' O' → Wd K F' H' O' → IterOk K J F' xs → Φ xs O' → R J H') → wi σ H R)
    (hg : ∀ d ds O Φ, g d ds O Φ → ∀ F H σ v N, Wd K F H O → EnvOk K F σ ds → Rep K F v d → (∀ σ' F' H' O' ds', L2.wipe σ' ws = L2.wipe σ ws → Step F H O F' H' O' → Wd K F' H' O' → EnvOk K F' σ' ds' → Φ ds' O' → N σ' H') → tg v σ H N)
    (ht : WB K tt t) (he : WE K te e) (hs : ∀ i ∈ ws, i ∈ vs) : WE K (tLc wi tg tt te vs) (eLc vs it g t e) := by
  refine we_lc (fin := fun acc Φ O => Φ (.lst acc) O) hi hg ht he hs fun acc Φ O F H Q p xs F1 H1 O1 h s w f o hp hl ra cn => ?_
  have sF : Sm F (upd F p (.lst xs)) := fun a u e => ⟨u, by rw [upd_ne (fun z => by subst z; rw [f] at e; cases e)]; exact e, rfl⟩
  refine cn (.ref p) (upd F p (.lst xs)) H O _ ⟨s.ff.trans sF, s.keep, fun q n => ?_, s.newO⟩ ⟨fun a u e => ?_, fun q c e => ?_⟩ (.lst upd_same (ra.mono sF)) h
  · by_cases z : q = p
    · subst z; exact .inr (.inl hp)
    · rw [upd_ne z] at n; exact s.newF q n
  · by_cases z : a = p
    · subst z; rw [upd_same] at e; cases e; exact ⟨_, hl, rfl⟩
    · rw [upd_ne z] at e; exact w.sm a u e
  · have z : q ≠ p := fun z => by subst z; rw [o] at e; cases e
    obtain ⟨h3, h4⟩ := w.own q c e
    exact ⟨by rw [upd_ne z]; exact h3, h4.mono sF rfl⟩
theorem we_lcO {K : Frag} {wi : TI} {tg : TG} {tt : TT} {te : TE} {vs ws : List Nat} {it : TID} {g : TGD} {t : TB} {e : TD}
    (hi : ∀ ds O Φ, it ds O Φ → ∀ F H σ R, Wd K F H O → EnvOk K F σ ds → (∀ J F' H' O' xs, Step F H O F' H' O' → Wd K F' H' O' → IterOk K J F' xs → Φ xs O' → R J H') → wi σ H R)
    (hg : ∀ d ds O Φ, g d ds O Φ → ∀ F H σ v N, Wd K F H O → EnvOk K F σ ds → Rep K F v d → (∀ σ' F' H' O' ds', L2.wipe σ' ws = L2.wipe σ ws → Step F H O F' H' O' → Wd K F' H' O' → EnvOk K F' σ' ds' → Φ ds' O' → N σ' H') → tg v σ H N)
    (ht : WB K tt t) (he : WE K te e) (hs : ∀ i ∈ ws, i ∈ vs) : WE K (tLc wi tg tt te vs) (eLcO vs it g t e) := by
  refine we_lc (fin := fun acc Φ O2 => ∀ p, O2 p = none → Φ (.ref p) (updO O2 p (.lst acc))) hi hg ht he hs fun acc Φ O F H Q p xs F1 H1 O1 h s w f o hp hl ra cn => ?_
  refine cn (.ref p) F H (updO O p (.lst acc)) _ ⟨s.ff, s.keep, s.newF, fun q n => ?_⟩ ⟨w.sm, fun q c e => ?_⟩ (.ref p) (h p o)
  · by_cases z : q = p
    · subst z; exact .inr hp
    · rw [updO_ne z] at n; exact s.newO q n
  · by_cases z : q = p
    · subst z; rw [updO_same] at e; cases e; exact ⟨f, xs, hl, ra⟩
    · rw [updO_ne z] at e; exact w.own q c e
/-- the readings that data give, one for all contexts -/
def upE (K : Frag) (t : TD) : TE := fun σ H Q => ∃ F ds O Φ, Wd K F H O ∧ EnvOk K F σ ds ∧ t ds O Φ ∧ Cn K F H O Φ Q
theorem we_up {K : Frag} {t : TD} : WE K (upE K t) t := fun ds O Φ h F H σ Q w e c => ⟨F, ds, O, Φ, w, e, h, c⟩
theorem PD.up {e : Expr} {t : TD} (h : PD X e t) : PE X e (upE X.K t) := by
  obtain ⟨te, p, w⟩ := h.ex
  exact ⟨fun pins s σ H Q I hq => p.run pins s σ H Q I (by obtain ⟨F, ds, O, Φ, w0, e0, h0, c0⟩ := hq; exact w ds O Φ h0 F H σ Q w0 e0 c0)⟩
def upB (K : Frag) (t : TB) : TT := fun σ H Q => ∃ F ds O Φ, Wd K F H O ∧ EnvOk K F σ ds ∧ t ds O Φ ∧ CnB F H O K Φ Q
theorem wb_up {K : Frag} {t : TB} : WB K (upB K t) t := fun ds O Φ h F H σ Q w e c => ⟨F, ds, O, Φ, w, e, h, c⟩
theorem PBs.up {es : List Expr} {t : TB} (h : PBs X es t) : PTs X es (upB X.K t) := by
  obtain ⟨te, p, w⟩ := h.ex
  exact ⟨fun pins s σ H Q I hq => p.run pins s σ H Q I (by obtain ⟨F, ds, O, Φ, w0, e0, h0, c0⟩ := hq; exact w ds O Φ h0 F H σ Q w0 e0 c0)⟩
def upG (K : Frag) (ws : List Nat) (g : TGD) : TG := fun v σ H N => ∃ F d ds O Φ, Wd K F H O ∧ EnvOk K F σ ds ∧ Rep K F v d ∧ g d ds O Φ ∧ (∀ σ' F' H' O' ds', L2.wipe σ' ws = L2.wipe σ ws → Step F H O F' H' O' → Wd K F' H' O' → EnvOk K F' σ' ds' → Φ ds' O' → N σ' H')
theorem PGD.up {e : Expr} {ws : List Nat} {g : TGD} (h : PGD X e ws g) : PG X e (upG X.K ws g) := by
  obtain ⟨te, p, w⟩ := h.ex
  exact ⟨fun pins s σ H v u N I r hq => p.run pins s σ H v u N I r (by obtain ⟨F, d, ds, O, Φ, w0, e0, r0, h0, c0⟩ := hq; exact w d ds O Φ h0 F H σ v N w0 e0 r0 c0)⟩
theorem wg_up {K : Frag} {ws : List Nat} {g : TGD} : ∀ d ds O Φ, g d ds O Φ → ∀ F H σ v N, Wd K F H O → EnvOk K F σ ds → Rep K F v d → (∀ σ' F' H' O' ds', L2.wipe σ' ws = L2.wipe σ ws → Step F H O F' H' O' → Wd K F' H' O' → EnvOk K F' σ' ds' → Φ ds' O' → N σ' H') → upG K ws g v σ H N :=
  fun d ds O Φ h F H σ v N w e r c => ⟨F, d, ds, O, Φ, w, e, r, h, c⟩
abbrev Blk (X : Cx) (scope : Scope) (P : Cx → Prop) : Prop := ∀ (s : Shared) (H : Hp) (C : Addr) (cl : List (Str × Addr)) (fp : List Addr), P (X.blk s H scope (compEnvC scope cl C X.env) fp)
section
variable {elt tg iter : Expr} {ifs : List Expr} {scope : Scope} {own : List (Str × Nat)} {it : TID} {ws : List Nat} {g : TGD} {t : TB} {e : TD}
theorem pd_lc (own : List (Str × Nat)) (hc : X.calm = true) (hN : X.N.Nodup) (hi : PID X tg iter it) (ok : BlkOk X.N X.env.scope scope own)
    (hg : Blk X scope fun Y => PGD Y tg ws g) (ht : Blk X scope fun Y => PBs Y ifs t) (he : Blk X scope fun Y => PD Y elt e) (hv : ∀ i ∈ ws, i ∈ own.map (·.2)) (hs : ∀ x, foldedSetIterable iter X.env x = pure x := by intro _; rfl) :
    PD X (.ListComp elt [⟨tg, iter, ifs, 0⟩] scope pos) (eLc (own.map (·.2)) it g t e) := by
  obtain ⟨wi, pi, wwi⟩ := hi.ex
  exact ⟨_, pe_lc hc hN pi ok (fun s H C cl fp => (hg s H C cl fp).up) (fun s H C cl fp => (ht s H C cl fp).up) (fun s H C cl fp => (he s H C cl fp).up) hs, we_lcF wwi wg_up wb_up we_up hv⟩
theorem pd_lcO (own : List (Str × Nat)) (hc : X.calm = true) (hN : X.N.Nodup) (hi : PID X tg iter it) (ok : BlkOk X.N X.env.scope scope own)
    (hg : Blk X scope fun Y => PGD Y tg ws g) (ht : Blk X scope fun Y => PBs Y ifs t) (he : Blk X scope fun Y => PD Y elt e) (hv : ∀ i ∈ ws, i ∈ own.map (·.2)) (hs : ∀ x, foldedSetIterable iter X.env x = pure x := by intro _; rfl) :
    PD X (.ListComp elt [⟨tg, iter, ifs, 0⟩] scope pos) (eLcO (own.map (·.2)) it g t e) := by
  obtain ⟨wi, pi, wwi⟩ := hi.ex
  exact ⟨_, pe_lc hc hN pi ok (fun s H C cl fp => (hg s H C cl fp).up) (fun s H C cl fp => (ht s H C cl fp).up) (fun s H C cl fp => (he s H C cl fp).up) hs, we_lcO wwi wg_up wb_up we_up hv⟩
theorem psd_setLc {i : Nat} {y : Str} {py spos : Pos} (own : List (Str × Nat)) (hc : X.calm = true) (hN : X.N.Nodup) (hy : X.N[i]? = some y) (hyl : X.env.scope.names.lookup y = some .local)
    (hsw : swapsWith (.ListComp elt [⟨tg, iter, ifs, 0⟩] scope pos) (some (.Name y py)) spos.line X.env = pure true) (hi : PID X tg iter it) (ok : BlkOk X.N X.env.scope scope own)
    (hg : Blk X scope fun Y => PGD Y tg ws g) (ht : Blk X scope fun Y => PBs Y ifs t) (he : Blk X scope fun Y => PD Y elt e) (hv : ∀ i ∈ ws, i ∈ own.map (·.2)) (hs : ∀ x, foldedSetIterable iter X.env x = pure x := by intro _; rfl) :
    PSD X (.Assign [.Name y py] (.ListComp elt [⟨tg, iter, ifs, 0⟩] scope pos) spos) (sAsg (eLc (own.map (·.2)) it g t e) (dName i)) := by
  obtain ⟨wi, pi, wwi⟩ := hi.ex
  exact ⟨_, ps_setLc hc hN hy hyl hsw pi ok (fun s H C cl fp => (hg s H C cl fp).up) (fun s H C cl fp => (ht s H C cl fp).up) (fun s H C cl fp => (he s H C cl fp).up) hs,
    ws_asg (we_lcF wwi wg_up wb_up we_up hv) fun d ds O Φ h F H σ v N w e r c => c.here w (e.set r i) (by rw [← setD_eq]; exact h)⟩
theorem psd_setLcO {i : Nat} {y : Str} {py spos : Pos} (own : List (Str × Nat)) (hc : X.calm = true) (hN : X.N.Nodup) (hy : X.N[i]? = some y) (hyl : X.env.scope.names.lookup y = some .local)
    (hsw : swapsWith (.ListComp elt [⟨tg, iter, ifs, 0⟩] scope pos) (some (.Name y py)) spos.line X.env = pure true) (hi : PID X tg iter it) (ok : BlkOk X.N X.env.scope scope own)
    (hg : Blk X scope fun Y => PGD Y tg ws g) (ht : Blk X scope fun Y => PBs Y ifs t) (he : Blk X scope fun Y => PD Y elt e) (hv : ∀ i ∈ ws, i ∈ own.map (·.2)) (hs : ∀ x, foldedSetIterable iter X.env x = pure x := by intro _; rfl) :
    PSD X (.Assign [.Name y py] (.ListComp elt [⟨tg, iter, ifs, 0⟩] scope pos) spos) (sAsg (eLcO (own.map (·.2)) it g t e) (dName i)) := by
  obtain ⟨wi, pi, wwi⟩ := hi.ex
  exact ⟨_, ps_setLc hc hN hy hyl hsw pi ok (fun s H C cl fp => (hg s H C cl fp).up) (fun s H C cl fp => (ht s H C cl fp).up) (fun s H C cl fp => (he s H C cl fp).up) hs,
    ws_asg (we_lcO wwi wg_up wb_up we_up hv) fun d ds O Φ h F H σ v N w e r c => c.here w (e.set r i) (by rw [← setD_eq]; exact h)⟩
end
end

/-! ### defs -/
@[reducible] def startD : Nat → List D → EnvD
  | 0, _ => []
  | n + 1, [] => none :: startD n []
  | n + 1, d :: ds => some d :: startD n ds
theorem startD_nil : ∀ n : Nat, startD n [] = List.replicate n none
  | 0 => rfl
  | n + 1 => by
    show none :: startD n [] = _
    rw [startD_nil n]; rfl
theorem startD_eq : ∀ (n : Nat) (ds : List D), ds.length ≤ n → startD n ds = ds.map some ++ List.replicate (n - ds.length) none
  | 0, [], _ => rfl
  | 0, _ :: _, h => by simp at h
  | n + 1, [], _ => by rw [startD_nil]; rfl
  | n + 1, d :: ds, h => by
    show some d :: startD n ds = _
    rw [startD_eq n ds (by simpa using h)]
    simp
theorem start_ok {K : Frag} {F : Hp} {N : List Str} {vs : List V} {ds : List D} (r : RepL K F vs ds) (hN : ds.length ≤ N.length) : EnvOk K F (L2.start N vs) (startD N.length ds) := by
  have hl := r.length
  rw [startD_eq _ _ hN]
  refine ⟨by unfold L2.start; rw [List.length_append, List.length_append, List.length_map, List.length_map, List.length_replicate, List.length_replicate, hl], fun i d e => ?_⟩
  unfold L2.start
  by_cases l : i < ds.length
  · rw [List.getElem?_append_left (by simpa using l), List.getElem?_map] at e
    cases q : ds[i]? with
    | none => rw [q] at e; cases e
    | some d' =>
      rw [q] at e
      cases e
      obtain ⟨v, q, rv⟩ := r.get q
      exact ⟨v, by rw [List.getElem?_append_left (by rw [List.length_map]; omega), List.getElem?_map, q]; rfl, rv⟩
  · rw [List.getElem?_append_right (by simpa using l), List.getElem?_replicate] at e
    split at e <;> cases e
/-- a promise by data -/
abbrev M := List D → OM → (D → OM → Prop) → Prop
def spD (K : Frag) (n : Nat) (m : M) : Sp := fun vs H Q _ => ∃ F O ds Φ, Wd K F H O ∧ RepL K F vs ds ∧ ds.length = n ∧ m ds O Φ ∧ Cn K F H O Φ Q
/-- what a body is worth -/
@[reducible] def bodyM (n : Nat) (t : TSD) : M := fun ds O Φ => t { nx := fun _ O1 => Φ .non O1, rt := Φ } (startD n ds) O
section
variable {P : Program} {w : World} {K : Frag} {mg : Str → Option Value} {base : Heap} {x qual : Str} {params : Arguments} {body : List Stmt} {scope : Scope} {dvs : List V} {kws : List (Str × V)} {f : Addr} {fd : FuncData}
theorem fnd_ok {N ps : List Str} {k : Nat} {t : TSD} {m : M} (F : FunD K x qual params body scope dvs kws f fd) (S : FnScope N ps scope)
    (hbody : ∀ (cdv : Value) (A : Around) (outer : List Env) (s : Shared) (H : Hp) (E : XK), Room k (A.deeper (envOfC qual scope s.heap.objs.size f cdv)) → PSDs (cxOf CX0 P w K mg base N qual scope f cdv A outer s H E).nox body t)
    (hm : ∀ ds O Φ, ds.length = ps.length → m ds O Φ → bodyM N.length t ds O Φ) :
    FnOk P w K mg base CX0 (k + 1) f fd ps (spD K ps.length m) := by
  refine F.ok S (fun vs H Q E h => ?_) (fun cdv A outer s H vs Q E hr h => ?_)
  · obtain ⟨F0, O, ds, Φ, w0, r, l, _⟩ := h
    rw [r.length, l]
  · obtain ⟨F0, O, ds, Φ, w0, r, l, hmm, c⟩ := h
    obtain ⟨ts, pb, wb⟩ := (hbody cdv A outer s H E hr).ex
    refine ⟨ts, pb.nox, ?_⟩
    refine wb _ _ O (hm ds O Φ l hmm) F0 H _ _ w0 (start_ok r (by have := congrArg List.length S.pre; rw [List.length_take] at this; omega)) ⟨fun σ' F' H' O' ds' s' w' e' h' => ?_, c, fun _ _ _ _ _ _ _ _ h' => h'.elim, fun _ _ _ _ _ _ _ _ h' => h'.elim⟩
    exact c .non F' H' O' .non s' w' .non h'
end
section
variable {X : Cx} {pos p apos : Pos}
@[reducible] def eCall (m : M) (as : List TD) : TD := fun ds O Φ => argsW as ds O fun xs O1 => m xs O1 Φ
theorem pd_call {x : Str} {e : Expr} {es : List Expr} {as : List TD} {k n : Nat} {f : Addr} {fd : FuncData} {ps : List Str} {m : M} (Fn : FnOk X.prog X.w X.K X.mg X.base CX0 k f fd ps (spD X.K n m)) (hr : Room k X.A) (hg : Gl X x) (hm : X.mg x = some (.ref f)) (hk : PySem.W.keepIn X.K (.ref f) = true) (hb : Binds X.K fd ps [])
    (ha : PAD X (e :: es) as) (hn : as.length = n := by rfl) (hdb : (x == ("__debug__" : Str)) = false := by decide) (he : starEach (e :: es) X.env = (false, eval e X.env) :: starEach es X.env := by rfl) (hpl : (backTo pos (starEach es X.env)).any (·.1) = false := by rfl) :
    PD X (.Call (.Name x p) (e :: es) [] pos) (eCall m as) := by
  obtain ⟨sa, pa, wa⟩ := ha.ex
  refine ⟨_, pe_call Fn hr hg hm hk hb .nil (pass0 (X := X)) pa hdb he hpl, fun ds O Φ h F H σ Q w e c => ?_⟩
  refine wa ds O _ h F H σ _ w e fun vs F1 H1 O1 xs s1 w1 r1 l1 h1 => ?_
  rw [List.append_nil]
  exact ⟨F1, O1, xs, Φ, w1, r1, l1.trans hn, h1, c.after s1⟩
/-- the class and the fields of an instance -/
@[reducible] def insOf (O : OM) : D → Option (Addr × List (Str × D))
  | .obj C fs => some (C, fs)
  | .ref p => match O p with
    | some (.ins C fs) => some (C, fs)
    | _ => none
  | _ => none
theorem ins_at {K : Frag} {F H : Hp} {O : OM} {v : V} {d : D} {C : Addr} {fds : List (Str × D)} (w : Wd K F H O) (r : Rep K F v d) (h : insOf O d = some (C, fds)) : ∃ a dx fs, v = .ref a ∧ H a = some (.ins C dx fs) ∧ RepF K F fs fds := by
  cases r with
  | obj e r => simp [insOf] at h; obtain ⟨rfl, rfl⟩ := h; exact ⟨_, _, _, rfl, w.sm.ins e, r⟩
  | ref p =>
    simp only [insOf] at h
    cases q : O p with
    | none => rw [q] at h; cases h
    | some c =>
      rw [q] at h
      cases c with
      | ins C' fs' =>
        simp only [Option.some.injEq, Prod.mk.injEq] at h
        obtain ⟨rfl, rfl⟩ := h
        obtain ⟨_, dx, fs, e, r⟩ := w.own p _ q
        exact ⟨p, dx, fs, rfl, e, r⟩
      | _ => cases h
  | _ => simp [insOf] at h
@[reducible] def eFld (C : Addr) (f : Str) (a : TD) : TD := fun ds O Φ => a ds O fun d O1 => match insOf O1 d with
  | some (C', fds) => C' = C ∧ (match fds.lookup f with
    | some z => Φ z O1
    | none => False)
  | none => False
theorem pd_fld {e : Expr} {f : Str} {C : Addr} {t : TD} (c : Cls X.K C) (n : NoAttr X.K C f) (he : PD X e t) (hb : attributeBase e f X.env (eval e X.env) = eval e X.env) : PD X (.Attribute e f pos) (eFld C f t) := by
  obtain ⟨sa, pa, wa⟩ := he.ex
  refine ⟨_, pe_fld pa hb, fun ds O Φ h F H σ Q w e cn => ?_⟩
  refine wa ds O _ h F H σ _ w e fun v F1 H1 O1 d s1 w1 r1 h1 => ?_
  dsimp only at h1
  cases q : insOf O1 d with
  | none => rw [q] at h1; exact h1.elim
  | some z =>
    obtain ⟨C', fds⟩ := z
    rw [q] at h1
    obtain ⟨rfl, h1⟩ := h1
    obtain ⟨a, dx, fs, rfl, ha, rf⟩ := ins_at w1 r1 q
    cases q2 : fds.lookup f with
    | none => simp only [q2] at h1
    | some z =>
      simp only [q2] at h1
      obtain ⟨u, hu, ru⟩ := rf.look q2
      exact ⟨a, _, dx, fs, u, rfl, ha, c, n, hu, (cn.after s1).here w1 ru h1⟩
@[reducible] def eCon (C : Addr) (f : Str) (v : D) (a : TD) : TD := fun ds O Φ => a ds O fun d O1 => match insOf O1 d with
  | some (C', fds) => C' = C ∧ fds.lookup f = none ∧ Φ v O1
  | none => False
theorem pd_con {e : Expr} {f : Str} {C : Addr} {t : TD} {v : V} {d0 : D} {u : Value} (c : Cls X.K C) (k : Con X.K C f v u) (rv : ∀ F, Rep X.K F v d0) (he : PD X e t) (hb : attributeBase e f X.env (eval e X.env) = eval e X.env) : PD X (.Attribute e f pos) (eCon C f d0 t) := by
  obtain ⟨sa, pa, wa⟩ := he.ex
  refine ⟨_, pe_con pa hb, fun ds O Φ h F H σ Q w e cn => ?_⟩
  refine wa ds O _ h F H σ _ w e fun v1 F1 H1 O1 d s1 w1 r1 h1 => ?_
  dsimp only at h1
  cases q : insOf O1 d with
  | none => rw [q] at h1; exact h1.elim
  | some z =>
    obtain ⟨C', fds⟩ := z
    rw [q] at h1
    obtain ⟨rfl, h1, h2⟩ := h1
    obtain ⟨a, dx, fs, rfl, ha, rf⟩ := ins_at w1 r1 q
    exact ⟨a, _, dx, fs, v, u, rfl, ha, c, k, rf.lookN h1, (cn.after s1).here w1 (rv F1) h2⟩
/-- a method -/
@[reducible] def eMeth (C : Addr) (mn : Str) (m : M) (a : TD) (as : List TD) : TD := fun ds O Φ => a ds O fun d O1 => match insOf O1 d with
  | some (C', fds) => C' = C ∧ fds.lookup mn = none ∧ argsW as ds O1 fun xs O2 => m (d :: xs) O2 Φ
  | none => False
theorem pd_meth {o e : Expr} {mn : Str} {es : List Expr} {C f : Addr} {t : TD} {as : List TD} {k : Nat} {fd : FuncData} {ps : List Str} {m : M} (c : Cls X.K C) (hm : Meth X.K C mn f) {n : Nat} (Fn : FnOk X.prog X.w X.K X.mg X.base CX0 k f fd ps (spD X.K n m)) (hr : Room k X.A) (hb : Binds X.K fd ps [])
    (he : PD X o t) (ha : PAD X (e :: es) as) (H : ∀ (ta : TE) (tt : TA), PE X o ta → PA X (e :: es) tt → PE X (.Call (.Attribute o mn apos) (e :: es) [] pos) (tMeth C mn (spD X.K n m) [] E0 ta tt)) (hn : as.length + 1 = n := by rfl) :
    PD X (.Call (.Attribute o mn apos) (e :: es) [] pos) (eMeth C mn m t as) := by
  obtain ⟨so, po, wo⟩ := he.ex
  obtain ⟨sa, pa, wa⟩ := ha.ex
  refine ⟨_, H _ _ po pa, fun ds O Φ h F H σ Q w e cn => ?_⟩
  refine wo ds O _ h F H σ _ w e fun v F1 H1 O1 d s1 w1 r1 h1 => ?_
  dsimp only at h1
  cases q : insOf O1 d with
  | none => rw [q] at h1; exact h1.elim
  | some z =>
    obtain ⟨C', fds⟩ := z
    rw [q] at h1
    obtain ⟨rfl, h1, h2⟩ := h1
    obtain ⟨a, dx, fs, ev, hi, rf⟩ := ins_at w1 r1 q
    refine ⟨a, dx, fs, ev, hi, rf.lookN h1, ?_⟩
    refine wa ds O1 _ h2 F1 H1 σ _ w1 (e.mono s1.ff) fun vs F2 H2 O2 xs s2 w2 r2 l2 h3 => ?_
    rw [List.append_nil]
    exact ⟨F2, O2, d :: xs, Φ, w2, .cons (r1.mono s2.ff) r2, (congrArg Nat.succ l2).trans hn, h3, (cn.after s1).after s2⟩
/-- a property -/
@[reducible] def eProp (C : Addr) (m : M) (a : TD) : TD := fun ds O Φ => a ds O fun d O1 => match insOf O1 d with
  | some (C', fds) => C' = C ∧ m [d] O1 Φ
  | none => False
theorem pd_prop {e : Expr} {fn : Str} {C p' g : Addr} {t : TD} {k : Nat} {fd : FuncData} {ps : List Str} {m : M} (c : Cls X.K C) (hp : PropOf X.K C fn p' g) (Fn : FnOk X.prog X.w X.K X.mg X.base CX0 k g fd ps (spD X.K 1 m)) (hr : Room (k + 1) X.A) (hb : Binds X.K fd ps [])
    (he : PD X e t) (hab : attributeBase e fn X.env (eval e X.env) = eval e X.env) : PD X (.Attribute e fn pos) (eProp C m t) := by
  obtain ⟨so, po, wo⟩ := he.ex
  refine ⟨_, pe_prop po c hp Fn hr hb .nil (pass0 (X := X.nox)) hab, fun ds O Φ h F H σ Q w e cn => ?_⟩
  refine wo ds O _ h F H σ _ w e fun v F1 H1 O1 d s1 w1 r1 h1 => ?_
  dsimp only at h1
  cases q : insOf O1 d with
  | none => rw [q] at h1; exact h1.elim
  | some z =>
    obtain ⟨C', fds⟩ := z
    rw [q] at h1
    obtain ⟨rfl, h1⟩ := h1
    obtain ⟨a, dx, fs, ev, hi, rf⟩ := ins_at w1 r1 q
    exact ⟨a, dx, fs, ev, hi, F1, O1, [d], Φ, w1, .cons (by rw [← ev]; exact r1) .nil, rfl, h1, cn.after s1⟩
/-- a new instance, known from then on -/
@[reducible] def eMakeF (C : Addr) (m : M) (as : List TD) : TD := fun ds O Φ => argsW as ds O fun xs O1 => ∀ x, O1 x = none → m (.ref x :: xs) (updO O1 x (.ins C [])) fun r O2 => r = .non ∧ ∃ fds, O2 x = some (.ins C fds) ∧ Φ (.obj C fds) (delO O2 x)
theorem pd_makeF {x : Str} {e : Expr} {es : List Expr} {C f : Addr} {as : List TD} {k : Nat} {fd : FuncData} {ps : List Str} {m : M} {n : Nat} (Mm : Mk X.K C f) (Fn : FnOk X.prog X.w X.K X.mg X.base CX0 k f fd ps (spD X.K n m)) (hr : Room (k + 1) X.A) (hg : Gl X x) (hm : X.mg x = some (.ref C)) (hb : Binds X.K fd ps [])
    (ha : PAD X (e :: es) as) (hn : as.length + 1 = n := by rfl) (hdb : (x == ("__debug__" : Str)) = false := by decide) (he : starEach (e :: es) X.env = (false, eval e X.env) :: starEach es X.env := by rfl) (hpl : (backTo pos (starEach es X.env)).any (·.1) = false := by rfl) :
    PD X (.Call (.Name x p) (e :: es) [] pos) (eMakeF C m as) := by
  obtain ⟨sa, pa, wa⟩ := ha.ex
  refine ⟨_, pe_make Mm Fn hr hg hm hb .nil (pass0 (X := X)) pa hdb he hpl, fun ds O Φ h F H σ Q w e cn => ?_⟩
  refine wa ds O _ h F H σ _ w e fun vs F1 H1 O1 xs s1 w1 r1 l1 h1 => ?_
  intro y dx hy hdx hne
  rw [List.append_nil]
  have s2 : Step F1 H1 O1 F1 (upd (upd H1 dx (.own y)) y (.ins C dx [])) (updO O1 y (.ins C [])) := by
    refine ⟨Sm.refl _, fun q u hq n => ⟨u, ?_, rfl⟩, fun q n => .inl n, fun q n => ?_⟩
    · rw [upd_ne (ne_of_none hq hy), upd_ne (ne_of_none hq hdx)]
      exact hq
    · by_cases z : q = y
      · subst z; exact .inr hy
      · rw [updO_ne z] at n; exact .inl n
  have far : ∀ q u, H1 q = some u → upd (upd H1 dx (.own y)) y (.ins C dx []) q = H1 q := fun q u hq => by
    rw [upd_ne (ne_of_none hq hy), upd_ne (ne_of_none hq hdx)]
  have w2 : Wd X.K F1 (upd (upd H1 dx (.own y)) y (.ins C dx [])) (updO O1 y (.ins C [])) := by
    refine ⟨fun a u ha => ?_, fun q c' hq => ?_⟩
    · obtain ⟨u', hu, e'⟩ := w1.sm a u ha
      exact ⟨u', (far a u' hu).trans hu, e'⟩
    · by_cases z : q = y
      · subst z
        rw [updO_same] at hq
        cases hq
        exact ⟨w1.freeF hy, dx, [], upd_same, .nil⟩
      · rw [updO_ne z] at hq
        obtain ⟨h3, h4⟩ := w1.own q c' hq
        refine ⟨h3, h4.mono (Sm.refl _) ?_⟩
        cases q5 : H1 q with
        | none => exact absurd q5 h4.some
        | some u => exact (far q u q5).trans q5
  refine ⟨F1, updO O1 y (.ins C []), .ref y :: xs, _, w2, .cons (.ref y) r1, (congrArg Nat.succ l1).trans hn, h1 y (w1.freeO hy), fun v F3 H3 O3 d s3 w3 r3 h3 => ?_⟩
  obtain ⟨hd, fds, ho, hΦ⟩ := h3
  subst hd
  cases r3
  refine ⟨rfl, ?_⟩
  obtain ⟨fy, dx', fs, hH, rf⟩ := w3.own y _ ho
  have s4 := w3.freeze_step (o := .ins C dx' fs) ho
  exact ((((cn.after s1).after s2).after s3).after s4).here (w3.freeze ho hH) (.obj upd_same (rf.mono s4.ff)) hΦ
end
end DL

set_option maxHeartbeats 4000000
/-! DL3: operators and built-ins by data. -/
namespace DL
open PySem PySem.Spec PyProof.Rows L2

/-- what may be read as a list: a known one, or an owned one as it stands -/
@[reducible] def lstOf (O : OM) : D → Option (List D)
  | .lst xs => some xs
  | .ref p => match O p with
    | some (.lst xs) => some xs
    | _ => none
  | _ => none
theorem lst_at {K : Frag} {F H : Hp} {O : OM} {v : V} {d : D} {ds : List D} (w : Wd K F H O) (r : Rep K F v d) (h : lstOf O d = some ds) : ∃ a xs, v = .ref a ∧ H a = some (.lst xs) ∧ RepL K F xs ds := by
  cases r with
  | lst e r => simp only [lstOf, Option.some.injEq] at h; subst h; exact ⟨_, _, rfl, w.sm.lst e, r⟩
  | ref p =>
    simp only [lstOf] at h
    cases q : O p with
    | none => rw [q] at h; cases h
    | some c =>
      rw [q] at h
      cases c with
      | lst xs' =>
        simp only [Option.some.injEq] at h
        subst h
        obtain ⟨_, xs, e, r⟩ := w.own p _ q
        exact ⟨p, xs, rfl, e, r⟩
      | _ => cases h
  | _ => simp [lstOf] at h
/-- the same with the script -/
@[reducible] def seqOf (O : OM) : D → Option (List D)
  | .scr xs => some xs
  | d => lstOf O d
theorem seq_at {K : Frag} {F H : Hp} {O : OM} {v : V} {d : D} {ds : List D} (w : Wd K F H O) (r : Rep K F v d) (h : seqOf O d = some ds) : ∃ a xs, v = .ref a ∧ SqL K H a xs ∧ RepL K F xs ds := by
  cases r with
  | scr e r => simp only [seqOf, Option.some.injEq] at h; subst h; exact ⟨_, _, rfl, w.sm.sqL e, r⟩
  | lst e r =>
    obtain ⟨a, xs, q, hx, r⟩ := lst_at w (.lst e r) h
    exact ⟨a, xs, q, SqL.of hx, r⟩
  | ref p =>
    obtain ⟨a, xs, q, hx, r⟩ := lst_at w (.ref p) h
    exact ⟨a, xs, q, SqL.of hx, r⟩
  | _ => simp [seqOf, lstOf] at h

section
variable {X : Cx}
/-! ### numbers -/
@[reducible] def mI (C : Int → Int → Prop) (g : Int → Int → D) : D → D → OM → (D → OM → Prop) → Prop := fun x y O Φ => match x, y with
  | .int i, .int j => C i j ∧ Φ (g i j) O
  | _, _ => False
@[reducible] def mI0 (g : Int → Int → D) : D → D → OM → (D → OM → Prop) → Prop := fun x y O Φ => match x, y with
  | .int i, .int j => Φ (g i j) O
  | _, _ => False
theorem opd_I {f : Value → Value → Sem Value} {C : Int → Int → Prop} {g : Int → Int → V} {gd : Int → Int → D} (h : OpR X f (rI C g)) (hg : ∀ F i j, Rep X.K F (g i j) (gd i j)) : OpD X f (mI C gd) := by
  rintro pins s σ H x y v u Q I rx ry ⟨F, O, d, e, Φ, w, r1, r2, hm, c⟩
  cases r1 with
  | int i =>
    cases r2 with
    | int j => exact h pins s σ H _ _ v u Q I rx ry ⟨i, j, rfl, rfl, hm.1, c.here w (hg F i j) hm.2⟩
    | _ => exact hm.elim
  | _ => exact hm.elim
theorem opd_I0 {f : Value → Value → Sem Value} {g : Int → Int → V} {gd : Int → Int → D} (h : OpR X f (rI0 g)) (hg : ∀ F i j, Rep X.K F (g i j) (gd i j)) : OpD X f (mI0 gd) := by
  rintro pins s σ H x y v u Q I rx ry ⟨F, O, d, e, Φ, w, r1, r2, hm, c⟩
  cases r1 with
  | int i =>
    cases r2 with
    | int j => exact h pins s σ H _ _ v u Q I rx ry ⟨i, j, rfl, rfl, c.here w (hg F i j) hm⟩
    | _ => exact hm.elim
  | _ => exact hm.elim
@[reducible] def mSub := mI0 fun i j => .int (i - j)
@[reducible] def mMul := mI CMul fun i j => .int (i * j)
@[reducible] def mDiv := mI CDivW fun i j => .int (i / j)
@[reducible] def mMod := mI (fun _ j => 0 < j) fun i j => .int (i % j)
@[reducible] def mPow := mI CPow fun i j => .int (i ^ j.toNat)
@[reducible] def mXor := mI0 fun i j => .int (Builtin.bitXor i j)
@[reducible] def mLt := mI0 fun i j => .bl (decide (i < j))
@[reducible] def mLe := mI0 fun i j => .bl (decide (i ≤ j))
@[reducible] def mGt := mI0 fun i j => .bl (decide (j < i))
@[reducible] def mGe := mI0 fun i j => .bl (decide (j ≤ i))
theorem opd_sub : OpD X (binaryOp .Sub) mSub := opd_I0 op_sub fun _ _ _ => .int _
theorem opd_mul : OpD X (binaryOp .Mult) mMul := opd_I op_mul fun _ _ _ => .int _
theorem opd_div : OpD X (binaryOp .FloorDiv) mDiv := opd_I op_fdivW fun _ _ _ => .int _
theorem opd_mod : OpD X (binaryOp .Mod) mMod := opd_I op_mod fun _ _ _ => .int _
theorem opd_pow : OpD X (binaryOp .Pow) mPow := opd_I op_pow fun _ _ _ => .int _
theorem opd_xor : OpD X (binaryOp .BitXor) mXor := opd_I0 op_xor fun _ _ _ => .int _
theorem opd_lt : OpD X (compareOp .Lt) mLt := opd_I0 op_lt fun _ _ _ => .bl _
theorem opd_le : OpD X (compareOp .LtE) mLe := opd_I0 op_le fun _ _ _ => .bl _
theorem opd_gt : OpD X (compareOp .Gt) mGt := opd_I0 op_gt fun _ _ _ => .bl _
theorem opd_ge : OpD X (compareOp .GtE) mGe := opd_I0 op_ge fun _ _ _ => .bl _
/-- + of ints, texts, lists (a new known list), tuples -/
@[reducible] def mAdd : D → D → OM → (D → OM → Prop) → Prop := fun x y O Φ => match x, y with
  | .int i, .int j => Φ (.int (i + j)) O
  | .str a, .str b => a.length + b.length ≤ 1000000 ∧ Φ (.str (a ++ b)) O
  | .tup xs, .tup ys => xs ≠ [] ∧ xs.length + ys.length ≤ 1000000 ∧ Φ (.tup (xs ++ ys)) O
  | x, y => ∃ xs ys, lstOf O x = some xs ∧ lstOf O y = some ys ∧ xs.length + ys.length ≤ 1000000 ∧ Φ (.lst (xs ++ ys)) O
theorem opd_cat {x y : V} {d e : D} {F H : Hp} {O : OM} {Φ : D → OM → Prop} {Q : VK} {pins : List (Addr × Obj)} {s : Shared} {σ : L2.St} {v u : Value} (I : Inv X pins σ H s) (rx : RelV x v) (ry : RelV y u) (w : Wd X.K F H O) (r1 : Rep X.K F x d) (r2 : Rep X.K F y e)
    (hm : ∃ xs ys, lstOf O d = some xs ∧ lstOf O e = some ys ∧ xs.length + ys.length ≤ 1000000 ∧ Φ (.lst (xs ++ ys)) O) (c : Cn X.K F H O Φ Q) : wpAny (model X.prog X.w) X.A (binaryOp .Add v u) (EP X pins σ Q) X.xe s := by
  obtain ⟨xs, ys, h1, h2, hl, hΦ⟩ := hm
  obtain ⟨a, as, rfl, ha, ra⟩ := lst_at w r1 h1
  obtain ⟨b, bs, rfl, hb, rb⟩ := lst_at w r2 h2
  exact op_cat pins s σ H _ _ v u Q I rx ry ⟨a, b, as, bs, rfl, rfl, ha, hb, by rw [ra.length, rb.length]; exact Nat.le_trans hl (by decide), fun p hp => c.lst w (ra.app rb) hΦ hp⟩
theorem opd_add : OpD X (binaryOp .Add) mAdd := by
  rintro pins s σ H x y v u Q I rx ry ⟨F, O, d, e, Φ, w, r1, r2, hm, c⟩
  cases r1 with
  | int i =>
    cases r2 with
    | int j => exact op_add pins s σ H _ _ v u Q I rx ry ⟨i, j, rfl, rfl, c.here w (.int _) hm⟩
    | _ => obtain ⟨xs, ys, h1, _⟩ := hm; cases h1
  | str a =>
    cases r2 with
    | str b => exact op_add_str pins s σ H _ _ v u Q I rx ry ⟨a, b, rfl, rfl, Nat.le_trans hm.1 (by decide), c.here w (.str _) hm.2⟩
    | _ => obtain ⟨xs, ys, h1, _⟩ := hm; cases h1
  | tup ha ra =>
    rename_i aa va da
    cases r2 with
    | tup hb rb =>
      rename_i ab vb db
      have la := ra.length
      have lb := rb.length
      obtain ⟨hz, hm1, hm2⟩ := hm
      have z : va ≠ [] := fun z => by subst z; cases ra; exact hz rfl
      refine op_catT pins s σ H _ _ v u Q I rx ry ⟨_, _, va, vb, rfl, rfl, w.sm.sqT ha, w.sm.sqT hb, z, by rw [la, lb]; exact Nat.le_trans hm1 (by decide), fun e => ?_, fun _ p hp => c.tup w (ra.app rb) hm2 hp⟩
      subst e
      cases rb
      refine c.here w (.tup ha ra) ?_
      rw [List.append_nil] at hm2
      exact hm2
    | _ => obtain ⟨xs, ys, h1, _⟩ := hm; cases h1
  | lst ha ra =>
    refine opd_cat I rx ry w (.lst ha ra) r2 ?_ c
    cases r2 <;> exact hm
  | ref p =>
    refine opd_cat I rx ry w (.ref p) r2 ?_ c
    cases r2 <;> exact hm
  | _ => cases r2 <;> (obtain ⟨xs, ys, h1, _⟩ := hm; cases h1)
/-! ### is -/
@[reducible] def mIs : D → D → OM → (D → OM → Prop) → Prop := fun x y O Φ => match x, y with
  | .bl a, .bl b => Φ (.bl (decide (a = b))) O
  | .non, .non => Φ (.bl true) O
  | .int _, .non => Φ (.bl false) O
  | .str _, .non => Φ (.bl false) O
  | .bl _, .non => Φ (.bl false) O
  | .lst _, .non => Φ (.bl false) O
  | .tup _, .non => Φ (.bl false) O
  | .dic _, .non => Φ (.bl false) O
  | .obj _ _, .non => Φ (.bl false) O
  | .ref _, .non => Φ (.bl false) O
  | _, _ => False
@[reducible] def mIsNot : D → D → OM → (D → OM → Prop) → Prop := fun x y O Φ => mIs x y O fun d O1 => match d with
  | .bl b => Φ (.bl (!b)) O1
  | _ => False
theorem opd_is : OpD X (compareOp .Is) mIs := by
  rintro pins s σ H x y v u Q I rx ry ⟨F, O, d, e, Φ, w, r1, r2, hm, c⟩
  cases r1 <;> cases r2 <;> first
    | exact hm.elim
    | exact op_isBl pins s σ H _ _ v u Q I rx ry ⟨_, _, rfl, rfl, c.here w (.bl _) hm⟩
    | exact op_isN pins s σ H _ _ v u Q I rx ry ⟨rfl, c.here w (.bl _) hm⟩
theorem opd_isNot : OpD X (compareOp .IsNot) mIsNot := by
  rintro pins s σ H x y v u Q I rx ry ⟨F, O, d, e, Φ, w, r1, r2, hm, c⟩
  cases r1 <;> cases r2 <;> first
    | exact hm.elim
    | exact op_notBl pins s σ H _ _ v u Q I rx ry ⟨_, _, rfl, rfl, c.here w (.bl _) hm⟩
    | exact op_notN pins s σ H _ _ v u Q I rx ry ⟨rfl, c.here w (.bl _) hm⟩
/-! ### == -/
mutual
def pyD : D → Option PyData
  | .non => some .none
  | .bl b => some (.bool b)
  | .int i => some (.int i)
  | .str x => some (.str x)
  | .lst xs => (pyDs xs).map .list
  | .tup xs => (pyDs xs).map .tuple
  | _ => none
def pyDs : List D → Option (List PyData)
  | [] => some []
  | d :: ds => match pyD d, pyDs ds with
    | some p, some ps => some (p :: ps)
    | _, _ => none
end
mutual
theorem Rep.dp {K : Frag} {F H : Hp} (s : Sm F H) : ∀ {v : V} {d : D} {p : PyData}, Rep K F v d → pyD d = some p → Dp K H v p
  | _, _, _, .non, h => by simp only [pyD, Option.some.injEq] at h; subst h; exact .non
  | _, _, _, .bl b, h => by simp only [pyD, Option.some.injEq] at h; subst h; exact .bl b
  | _, _, _, .int b, h => by simp only [pyD, Option.some.injEq] at h; subst h; exact .int b
  | _, _, _, .str b, h => by simp only [pyD, Option.some.injEq] at h; subst h; exact .str b
  | _, _, _, .ty b, h => by simp [pyD] at h
  | _, _, _, .ref b, h => by simp [pyD] at h
  | _, _, _, .scr _ _, h => by simp [pyD] at h
  | _, _, _, .dic _ _, h => by simp [pyD] at h
  | _, _, _, .obj _ _, h => by simp [pyD] at h
  | _, _, _, .lst (ds := ds) e r, h => by
    simp only [pyD] at h
    cases q : pyDs ds with
    | none => rw [q] at h; cases h
    | some ps => rw [q] at h; cases h; exact .lst (SqL.of (s.lst e)) (RepL.dp s r q)
  | _, _, _, .tup (ds := ds) e r, h => by
    simp only [pyD] at h
    cases q : pyDs ds with
    | none => rw [q] at h; cases h
    | some ps => rw [q] at h; cases h; exact .tup (s.sqT e) (RepL.dp s r q)
theorem RepL.dp {K : Frag} {F H : Hp} (s : Sm F H) : ∀ {v : List V} {d : List D} {p : List PyData}, RepL K F v d → pyDs d = some p → DpAll K H v p
  | _, _, _, .nil, h => by simp only [pyDs, Option.some.injEq] at h; subst h; exact .nil
  | _, _, _, .cons (d := d) (ds := ds) r rr, h => by
    simp only [pyDs] at h
    cases q1 : pyD d with
    | none => rw [q1] at h; simp at h
    | some p =>
      cases q2 : pyDs ds with
      | none => rw [q1, q2] at h; simp at h
      | some ps =>
        rw [q1, q2] at h
        cases h
        exact .cons (Rep.dp s r q1) (RepL.dp s rr q2)
end
/-- == of scalars, of data at any depth (dp: its Python data) -/
@[reducible] def mEq : D → D → OM → (D → OM → Prop) → Prop := fun x y O Φ => match x, y with
  | .int i, .int j => Φ (.bl (decide (i = j))) O
  | .str i, .str j => Φ (.bl (decide (i = j))) O
  | .bl i, .bl j => Φ (.bl (decide (i = j))) O
  | x, y => ∃ p q, pyD x = some p ∧ pyD y = some q ∧ SeqAt.shaped p = true ∧ SeqAt.shaped q = true ∧ Φ (.bl (PyData.eqv p q)) O
@[reducible] def mNe : D → D → OM → (D → OM → Prop) → Prop := fun x y O Φ => mEq x y O fun d O1 => match d with
  | .bl b => Φ (.bl (!b)) O1
  | _ => False
theorem opd_eq (hu : X.A.units + 64 < cLine) : OpD X (compareOp .Eq) mEq := by
  rintro pins s σ H x y v u Q I rx ry ⟨F, O, d, e, Φ, w, r1, r2, hm, c⟩
  have gen : (∃ p q, pyD d = some p ∧ pyD e = some q ∧ SeqAt.shaped p = true ∧ SeqAt.shaped q = true ∧ Φ (.bl (PyData.eqv p q)) O) → wpAny (model X.prog X.w) X.A (compareOp .Eq v u) (EP X pins σ Q) X.xe s := fun ⟨p, q, h1, h2, h3, h4, h5⟩ =>
    op_eqD hu pins s σ H _ _ v u Q I rx ry ⟨p, q, r1.dp w.sm h1, r2.dp w.sm h2, h3, h4, c.here w (.bl _) h5⟩
  cases r1 with
  | int i =>
    cases r2 with
    | int j =>
      refine op_eq pins s σ H _ _ v u Q I rx ry ⟨rfl, ?_⟩
      have : decide (V.int i = V.int j) = decide (i = j) := by simp
      rw [this]
      exact c.here w (.bl _) hm
    | _ => exact gen hm
  | str i =>
    cases r2 with
    | str j =>
      refine op_eq pins s σ H _ _ v u Q I rx ry ⟨rfl, ?_⟩
      have : decide (V.str i = V.str j) = decide (i = j) := by simp
      rw [this]
      exact c.here w (.bl _) hm
    | _ => exact gen hm
  | bl i =>
    cases r2 with
    | bl j =>
      refine op_eq pins s σ H _ _ v u Q I rx ry ⟨rfl, ?_⟩
      have : decide (V.bl i = V.bl j) = decide (i = j) := by simp
      rw [this]
      exact c.here w (.bl _) hm
    | _ => exact gen hm
  | _ => cases r2 <;> exact gen hm
theorem opd_ne (hu : X.A.units + 64 < cLine) : OpD X (compareOp .NotEq) mNe := by
  rintro pins s σ H x y v u Q I rx ry ⟨F, O, d, e, Φ, w, r1, r2, hm, c⟩
  have gen : (∃ p q, pyD d = some p ∧ pyD e = some q ∧ SeqAt.shaped p = true ∧ SeqAt.shaped q = true ∧ Φ (.bl (!PyData.eqv p q)) O) → wpAny (model X.prog X.w) X.A (compareOp .NotEq v u) (EP X pins σ Q) X.xe s := fun ⟨p, q, h1, h2, h3, h4, h5⟩ =>
    op_neD hu pins s σ H _ _ v u Q I rx ry ⟨p, q, r1.dp w.sm h1, r2.dp w.sm h2, h3, h4, c.here w (.bl _) h5⟩
  cases r1 with
  | int i =>
    cases r2 with
    | int j =>
      refine op_ne pins s σ H _ _ v u Q I rx ry ⟨rfl, ?_⟩
      have : decide (V.int i = V.int j) = decide (i = j) := by simp
      rw [this]
      exact c.here w (.bl _) hm
    | _ => exact gen hm
  | str i =>
    cases r2 with
    | str j =>
      refine op_ne pins s σ H _ _ v u Q I rx ry ⟨rfl, ?_⟩
      have : decide (V.str i = V.str j) = decide (i = j) := by simp
      rw [this]
      exact c.here w (.bl _) hm
    | _ => exact gen hm
  | bl i =>
    cases r2 with
    | bl j =>
      refine op_ne pins s σ H _ _ v u Q I rx ry ⟨rfl, ?_⟩
      have : decide (V.bl i = V.bl j) = decide (i = j) := by simp
      rw [this]
      exact c.here w (.bl _) hm
    | _ => exact gen hm
  | _ => cases r2 <;> exact gen hm
/-! ### items, slices -/
/-- xs[i] of a list, a tuple, a text -/
def mIx : D → D → OM → (D → OM → Prop) → Prop := fun x y O Φ => match x, y with
  | .tup xs, .int i => (match atI xs i with
    | some z => Φ z O
    | none => False)
  | .str x, .int i => x.length ≤ sizeLine ∧ (match atI x.cps.toList i with
    | some z => Φ (.str ⟨#[z]⟩) O
    | none => False)
  | x, .int i => (match seqOf O x with
    | some xs => (match atI xs i with
      | some z => Φ z O
      | none => False)
    | none => False)
  | _, _ => False
theorem atI_rep {K : Frag} {F : Hp} {vs : List V} {ds : List D} {i : Int} {d : D} (r : RepL K F vs ds) (h : atI ds i = some d) : ∃ v, atI vs i = some v ∧ Rep K F v d := by
  unfold atI at h ⊢
  rw [r.length]
  cases q : ixN ds.length i with
  | none => rw [q] at h; cases h
  | some j =>
    rw [q] at h
    exact r.get h
def rIxD (K : Frag) : R2 := fun x y H Q => ∃ F O d e Φ, Wd K F H O ∧ Rep K F x d ∧ Rep K F y e ∧ mIx d e O Φ ∧ Cn K F H O Φ Q
theorem ixr_imp {r r' : R2} (h : IxR X r) (k : ∀ x y H Q, r' x y H Q → r x y H Q) : IxR X r' := fun value slice pins s σ H x y v u Q I rx ry q hs => h value slice pins s σ H x y v u Q I rx ry (k _ _ _ _ q) hs
theorem ix_data : IxR X (rIxD X.K) := by
  refine ixr_imp ix_seq fun x y H Q h => ?_
  obtain ⟨F, O, d, e, Φ, w, r1, r2, hm, c⟩ := h
  have gen : ∀ i : Int, y = .int i → (match seqOf O d with
    | some xs => (match atI xs i with
      | some z => Φ z O
      | none => False)
    | none => False) → rIx X.K x y H Q := fun i ey hm => by
    cases q : seqOf O d with
    | none => rw [q] at hm; exact hm.elim
    | some xs =>
      rw [q] at hm
      dsimp only at hm
      cases q2 : atI xs i with
      | none => rw [q2] at hm; exact hm.elim
      | some z =>
        rw [q2] at hm
        obtain ⟨a, vs, rfl, ha, r⟩ := seq_at w r1 q
        obtain ⟨v, hv, rv⟩ := atI_rep r q2
        exact .inl ⟨a, vs, i, v, rfl, ey, ha, hv, c.here w rv hm⟩
  cases r2 with
  | int i =>
    cases r1 with
    | tup ha r =>
      simp only [mIx] at hm
      split at hm
      · rename_i z q
        obtain ⟨v, hv, rv⟩ := atI_rep r q
        exact .inr (.inl ⟨_, _, i, v, rfl, rfl, w.sm.sqT ha, hv, c.here w rv hm⟩)
      · exact hm.elim
    | str x =>
      simp only [mIx] at hm
      obtain ⟨hl, hm⟩ := hm
      split at hm
      · rename_i z q
        exact .inr (.inr ⟨x, i, z, rfl, rfl, hl, q, c.here w (.str _) hm⟩)
      · exact hm.elim
    | _ => exact gen i rfl hm
  | _ => cases r1 <;> exact hm.elim
theorem pd_ix {a b : Expr} {pos : Pos} {ta tb : TD} (ha : PD X a ta) (hb : PD X b tb) (hs : PlainIx b) : PD X (.Subscript a b pos) (eOp mIx ta tb) := by
  obtain ⟨sa, pa, wa⟩ := ha.ex
  obtain ⟨sb, pb, wb⟩ := hb.ex
  exact ⟨_, pe_ix ix_data pa pb hs, we_op wa wb⟩
/-- xs[i] = v of an owned list -/
def mSetL : D → D → D → OM → (OM → Prop) → Prop := fun o i z O Φ => match o, i with
  | .ref p, .int k => (match O p with
    | some (.lst xs) => (match ixN xs.length k with
      | some j => Φ (updO O p (.lst (xs.set j z)))
      | none => False)
    | _ => False)
  | _, _ => False
theorem psetd_list : PSetD X mSetL := by
  rintro pins s σ H o i v ov iv u N I ro ri rv ⟨F, O, d, e, z, Φ, w, r1, r2, r3, hm, c⟩
  cases r1 with
  | ref p =>
    cases r2 with
    | int k =>
      simp only [mSetL] at hm
      cases q : O p with
      | none => rw [q] at hm; exact hm.elim
      | some oc =>
        rw [q] at hm
        cases oc with
        | lst ds =>
          dsimp only at hm
          cases q2 : ixN ds.length k with
          | none => rw [q2] at hm; exact hm.elim
          | some j =>
            rw [q2] at hm
            dsimp only at hm
            obtain ⟨fp, xs, hx, r⟩ := w.own p _ q
            refine set_list pins s σ H _ _ v ov iv u N I ro ri rv ⟨p, xs, k, j, rfl, rfl, hx, by rw [r.length]; exact q2, ?_⟩
            exact c F _ _ (w.put_step q _) (w.put (c := .lst (ds.set j z)) q ⟨_, upd_same, r.set r3 j⟩) hm
        | _ => exact hm.elim
    | _ => exact hm.elim
  | _ => cases r2 <;> exact hm.elim
/-- xs[::-1], xs[lo:hi] of a list -/
@[reducible] def eRevL (t : TD) : TD := fun ds O Φ => t ds O fun d O1 => match seqOf O1 d with
  | some xs => Φ (.lst xs.reverse) O1
  | none => False
theorem pd_revL {e : Expr} {t : TD} {k : Nat} {p1 p2 p3 pos : Pos} (h : PD X e t) : PD X (.Subscript e (.Slice none none (some (.UnaryOp .USub (.Constant (.int 1) k p1) p2)) p3) pos) (eRevL t) := by
  obtain ⟨sa, pa, wa⟩ := h.ex
  refine ⟨_, pe_revL pa, fun ds O Φ h F H σ Q w e c => ?_⟩
  refine wa ds O _ h F H σ _ w e fun v F1 H1 O1 d s1 w1 r1 h1 => ?_
  dsimp only at h1
  cases q : seqOf O1 d with
  | none => rw [q] at h1; exact h1.elim
  | some xs =>
    rw [q] at h1
    obtain ⟨a, vs, rfl, ha, r⟩ := seq_at w1 r1 q
    exact ⟨a, vs, rfl, ha, fun p hp => (c.after s1).lst w1 r.rev h1 hp⟩
def cutD (xs : List D) (lo hi : Option Int) : List D := (xs.drop (HT.sIx xs.length 0 lo)).take (HT.sIx xs.length xs.length hi - HT.sIx xs.length 0 lo)
theorem cut_rep {K : Frag} {F : Hp} {vs : List V} {ds : List D} {lo hi : Option Int} (r : RepL K F vs ds) : RepL K F (cutV vs lo hi) (cutD ds lo hi) := by
  unfold cutV cutD
  rw [r.length]
  exact (r.drop _).take _
structure POD (X : Cx) (e : Option Expr) (t : EnvD → OM → (Option Int → OM → Prop) → Prop) : Prop where
  ex : ∃ to, PO X e to ∧ ∀ ds O Φ, t ds O Φ → ∀ F H σ Q, Wd X.K F H O → EnvOk X.K F σ ds → (∀ o F' H' O', Step F H O F' H' O' → Wd X.K F' H' O' → Φ o O' → Q o H') → to σ H Q
@[reducible] def oNone : EnvD → OM → (Option Int → OM → Prop) → Prop := fun _ O Φ => Φ none O
@[reducible] def oSome (t : TD) : EnvD → OM → (Option Int → OM → Prop) → Prop := fun ds O Φ => t ds O fun d O1 => match d with
  | .int i => Φ (some i) O1
  | _ => False
theorem pod_none : POD X none oNone := ⟨_, po_none, fun ds O Φ h F H σ Q w e c => c none F H O Step.refl w h⟩
theorem pod_some {e : Expr} {t : TD} (h : PD X e t) : POD X (some e) (oSome t) := by
  obtain ⟨sa, pa, wa⟩ := h.ex
  refine ⟨_, po_some pa, fun ds O Φ h F H σ Q w e c => ?_⟩
  refine wa ds O _ h F H σ _ w e fun v F1 H1 O1 d s1 w1 r1 h1 => ?_
  cases r1 with
  | int i => exact ⟨i, rfl, c _ F1 H1 O1 s1 w1 h1⟩
  | _ => exact h1.elim
@[reducible] def eSlL (t : TD) (lo hi : EnvD → OM → (Option Int → OM → Prop) → Prop) : TD := fun ds O Φ => t ds O fun d O1 => lo ds O1 fun l O2 => hi ds O2 fun h O3 => match seqOf O3 d with
  | some xs => Φ (.lst (cutD xs l h)) O3
  | none => False
theorem pd_slL {e : Expr} {lo hi : Option Expr} {t : TD} {tl th : EnvD → OM → (Option Int → OM → Prop) → Prop} {p2 pos : Pos} (h : PD X e t) (hl : POD X lo tl) (hh : POD X hi th) : PD X (.Subscript e (.Slice lo hi none p2) pos) (eSlL t tl th) := by
  obtain ⟨sa, pa, wa⟩ := h.ex
  obtain ⟨sl, pl, wl⟩ := hl.ex
  obtain ⟨sh, ph, wh⟩ := hh.ex
  refine ⟨_, pe_slice sl_list pa pl ph, fun ds O Φ h F H σ Q w e c => ?_⟩
  refine wa ds O _ h F H σ _ w e fun v F1 H1 O1 d s1 w1 r1 h1 => ?_
  refine wl ds O1 _ h1 F1 H1 σ _ w1 (e.mono s1.ff) fun l F2 H2 O2 s2 w2 h2 => ?_
  refine wh ds O2 _ h2 F2 H2 σ _ w2 ((e.mono s1.ff).mono s2.ff) fun u F3 H3 O3 s3 w3 h3 => ?_
  cases q : seqOf O3 d with
  | none => rw [q] at h3; exact h3.elim
  | some xs =>
    rw [q] at h3
    obtain ⟨a, vs, rfl, ha, r⟩ := seq_at w3 ((r1.mono s2.ff).mono s3.ff) q
    exact ⟨a, vs, rfl, ha, fun p hp => (((c.after s1).after s2).after s3).lst w3 (cut_rep r) h3 hp⟩
/-! ### built-in functions -/
def mLen : M := fun xs O Φ => match xs with
  | [.tup xs] => Φ (.int (xs.length : Nat)) O
  | [.str x] => x.length ≤ sizeLine ∧ Φ (.int (x.length : Nat)) O
  | [d] => (match seqOf O d with
    | some xs => Φ (.int (xs.length : Nat)) O
    | none => False)
  | _ => False
theorem call_lenD : CallD X (.builtin "len") 1 mLen := by
  refine fun pins s σ H xs us Q I rx h => ?_
  obtain ⟨F, O, ds, Φ, w, r, l, hm, c⟩ := h
  cases r with
  | nil => cases l
  | cons r rr =>
    cases rr with
    | cons _ _ => cases l
    | nil =>
      have gen : ∀ {v : V} {d : D}, Rep X.K F v d → (match seqOf O d with
        | some xs => Φ (.int (xs.length : Nat)) O
        | none => False) → Vals [v] us → wpAny (model X.prog X.w) X.A (call (.builtin "len") us) (EP X pins σ Q) X.xe s := fun {v d} r hm rx => by
        cases q : seqOf O d with
        | none => rw [q] at hm; exact hm.elim
        | some xs =>
          rw [q] at hm
          obtain ⟨a, vs, rfl, ha, r⟩ := seq_at w r q
          refine call_len_seq pins s σ H _ us Q I rx ⟨a, vs, rfl, .inl ha, ?_⟩
          rw [r.length]
          exact c.here w (.int _) hm
      cases r with
      | tup ha r =>
        refine call_len_seq pins s σ H _ us Q I rx ⟨_, _, rfl, .inr (w.sm.sqT ha), ?_⟩
        rw [r.length]
        exact c.here w (.int _) hm
      | str x => exact call_len_str pins s σ H _ us Q I rx ⟨x, rfl, hm.1, c.here w (.int _) hm.2⟩
      | lst ha r => exact gen (.lst ha r) hm rx
      | scr ha r => exact gen (.scr ha r) hm rx
      | ref p => exact gen (.ref p) hm rx
      | _ => exact hm.elim
theorem reps1 {K : Frag} {F : Hp} {vs : List V} {d : D} (r : RepL K F vs [d]) : ∃ v, vs = [v] ∧ Rep K F v d := by
  cases r with
  | cons r rr => cases rr; exact ⟨_, rfl, r⟩
theorem reps2 {K : Frag} {F : Hp} {vs : List V} {d e : D} (r : RepL K F vs [d, e]) : ∃ v u, vs = [v, u] ∧ Rep K F v d ∧ Rep K F u e := by
  cases r with
  | cons r rr =>
    obtain ⟨u, rfl, r2⟩ := reps1 rr
    exact ⟨_, u, rfl, r, r2⟩
/-- the calls' shapes by what is asked -/
@[reducible] def mInt : M := fun xs O Φ => ∃ i : Int, xs = [.int i] ∧ Φ (.int i) O
@[reducible] def mAbs : M := fun xs O Φ => ∃ i : Int, xs = [.int i] ∧ Φ (.int (i.natAbs : Nat)) O
@[reducible] def mMax2 : M := fun xs O Φ => ∃ i j : Int, xs = [.int i, .int j] ∧ Φ (.int (max i j)) O
@[reducible] def mMin2 : M := fun xs O Φ => ∃ i j : Int, xs = [.int i, .int j] ∧ Φ (.int (min i j)) O
@[reducible] def mList : M := fun xs O Φ => ∃ (d : D) (ys : List D), xs = [d] ∧ seqOf O d = some ys ∧ Φ (.lst ys) O
@[reducible] def mListO : M := fun xs O Φ => ∃ (d : D) (ys : List D), xs = [d] ∧ seqOf O d = some ys ∧ ∀ p, O p = none → Φ (.ref p) (updO O p (.lst ys))
@[reducible] def mTupL : M := fun xs O Φ => ∃ (d : D) (ys : List D), xs = [d] ∧ seqOf O d = some ys ∧ Φ (.tup ys) O
@[reducible] def mSum : M := fun xs O Φ => ∃ (d : D) (ns : List Int), xs = [d] ∧ seqOf O d = some (ns.map D.int) ∧ Φ (.int ns.sum) O
@[reducible] def mMax : M := fun xs O Φ => ∃ (d : D) (ns : List Int), xs = [d] ∧ seqOf O d = some (ns.map D.int) ∧ ns ≠ [] ∧ ∀ m, m ∈ ns → (∀ y, y ∈ ns → y ≤ m) → Φ (.int m) O
@[reducible] def mMin : M := fun xs O Φ => ∃ (d : D) (ns : List Int), xs = [d] ∧ seqOf O d = some (ns.map D.int) ∧ ns ≠ [] ∧ ∀ m, m ∈ ns → (∀ y, y ∈ ns → m ≤ y) → Φ (.int m) O
@[reducible] def mAny : M := fun xs O Φ => ∃ (d : D) (bs : List Bool), xs = [d] ∧ seqOf O d = some (bs.map D.bl) ∧ Φ (.bl (bs.any id)) O
@[reducible] def mAll : M := fun xs O Φ => ∃ (d : D) (bs : List Bool), xs = [d] ∧ seqOf O d = some (bs.map D.bl) ∧ Φ (.bl (bs.all id)) O
@[reducible] def mSortI : M := fun xs O Φ => ∃ (d : D) (ns : List Int), xs = [d] ∧ seqOf O d = some (ns.map D.int) ∧ ∀ out : List Int, out.Perm ns → out.Pairwise (· ≤ ·) → Φ (.lst (out.map D.int)) O
/-- sorted of a dict with ints as keys -/
@[reducible] def mSortDI : M := fun xs O Φ => ∃ (d : D) (kds : List (Key × D)) (ks : List Int), xs = [d] ∧ (d = .dic kds ∨ ∃ p, d = .ref p ∧ O p = some (.dic kds)) ∧ kds.map (·.1) = ks.map Sum.inl ∧ ks.length < 64 ∧ ∀ out : List Int, out.Perm ks → out.Pairwise (· ≤ ·) → Φ (.lst (out.map D.int)) O
theorem call_intD : CallD X (.type "int") 1 mInt := by
  rintro pins s σ H xs us Q I rx ⟨F, O, ds, Φ, w, r, l, ⟨i, rfl, hm⟩, c⟩
  obtain ⟨v, rfl, r1⟩ := reps1 r
  cases r1
  exact call_int1 pins s σ H _ us Q I rx (.inl ⟨i, rfl, c.here w (.int _) hm⟩)
theorem call_absD : CallD X (.builtin "abs") 1 mAbs := by
  rintro pins s σ H xs us Q I rx ⟨F, O, ds, Φ, w, r, l, ⟨i, rfl, hm⟩, c⟩
  obtain ⟨v, rfl, r1⟩ := reps1 r
  cases r1
  refine call_abs pins s σ H _ us Q I rx ⟨i, rfl, ?_⟩
  have e : (if i < 0 then -i else i) = ((i.natAbs : Nat) : Int) := by split <;> omega
  rw [e]
  exact c.here w (.int _) hm
theorem call_max2D (hc : X.calm = true) : CallD X (.builtin "max") 2 mMax2 := by
  rintro pins s σ H xs us Q I rx ⟨F, O, ds, Φ, w, r, l, ⟨i, j, rfl, hm⟩, c⟩
  obtain ⟨v, u, rfl, r1, r2⟩ := reps2 r
  cases r1
  cases r2
  refine call_max2 hc pins s σ H _ us Q I rx ⟨i, j, rfl, ?_⟩
  have e : (if j > i then j else i) = max i j := by split <;> omega
  rw [e]
  exact c.here w (.int _) hm
theorem call_min2D (hc : X.calm = true) : CallD X (.builtin "min") 2 mMin2 := by
  rintro pins s σ H xs us Q I rx ⟨F, O, ds, Φ, w, r, l, ⟨i, j, rfl, hm⟩, c⟩
  obtain ⟨v, u, rfl, r1, r2⟩ := reps2 r
  cases r1
  cases r2
  refine call_min2 hc pins s σ H _ us Q I rx ⟨i, j, rfl, ?_⟩
  have e : (if j < i then j else i) = min i j := by split <;> omega
  rw [e]
  exact c.here w (.int _) hm
theorem call_listD : CallD X (.type "list") 1 mList := by
  rintro pins s σ H xs us Q I rx ⟨F, O, ds, Φ, w, r, l, ⟨d, ys, rfl, hq, hm⟩, c⟩
  obtain ⟨v, rfl, r1⟩ := reps1 r
  obtain ⟨a, vs, rfl, ha, r2⟩ := seq_at w r1 hq
  exact call_list_of pins s σ H _ us Q I rx ⟨a, vs, rfl, .inl ha, fun p hp => c.lst w r2 hm hp⟩
theorem call_listOD : CallD X (.type "list") 1 mListO := by
  rintro pins s σ H xs us Q I rx ⟨F, O, ds, Φ, w, r, l, ⟨d, ys, rfl, hq, hm⟩, c⟩
  obtain ⟨v, rfl, r1⟩ := reps1 r
  obtain ⟨a, vs, rfl, ha, r2⟩ := seq_at w r1 hq
  exact call_list_of pins s σ H _ us Q I rx ⟨a, vs, rfl, .inl ha, fun p hp => c.lstO w r2 hm hp⟩
theorem call_tupLD (hc : X.calm = true) : CallD X (.type "tuple") 1 mTupL := by
  rintro pins s σ H xs us Q I rx ⟨F, O, ds, Φ, w, r, l, ⟨d, ys, rfl, hq, hm⟩, c⟩
  obtain ⟨v, rfl, r1⟩ := reps1 r
  obtain ⟨a, vs, rfl, ha, r2⟩ := seq_at w r1 hq
  exact call_tuple_of pins s σ H _ us Q I rx ⟨a, vs, rfl, .inl ⟨ha, fun p hp => c.tup w r2 hm hp⟩⟩
theorem call_sumD (hc : X.calm = true) : CallD X (.builtin "sum") 1 mSum := by
  rintro pins s σ H xs us Q I rx ⟨F, O, ds, Φ, w, r, l, ⟨d, ns, rfl, hq, hm⟩, c⟩
  obtain ⟨v, rfl, r1⟩ := reps1 r
  obtain ⟨a, vs, rfl, ha, r2⟩ := seq_at w r1 hq
  rw [r2.ints] at ha
  exact cr_sum hc pins s σ H _ us Q I rx ⟨a, ns, rfl, ha, c.here w (.int _) hm⟩
theorem call_maxD (hc : X.calm = true) : CallD X (.builtin "max") 1 mMax := by
  rintro pins s σ H xs us Q I rx ⟨F, O, ds, Φ, w, r, l, ⟨d, ns, rfl, hq, h0, hm⟩, c⟩
  obtain ⟨v, rfl, r1⟩ := reps1 r
  obtain ⟨a, vs, rfl, ha, r2⟩ := seq_at w r1 hq
  rw [r2.ints] at ha
  exact cr_max hc pins s σ H _ us Q I rx ⟨a, ns, rfl, ha, List.length_pos_iff.mpr h0, fun m h1 h2 => c.here w (.int _) (hm m h1 h2)⟩
theorem call_minD (hc : X.calm = true) : CallD X (.builtin "min") 1 mMin := by
  rintro pins s σ H xs us Q I rx ⟨F, O, ds, Φ, w, r, l, ⟨d, ns, rfl, hq, h0, hm⟩, c⟩
  obtain ⟨v, rfl, r1⟩ := reps1 r
  obtain ⟨a, vs, rfl, ha, r2⟩ := seq_at w r1 hq
  rw [r2.ints] at ha
  exact cr_min hc pins s σ H _ us Q I rx ⟨a, ns, rfl, ha, List.length_pos_iff.mpr h0, fun m h1 h2 => c.here w (.int _) (hm m h1 h2)⟩
theorem call_anyD (hc : X.calm = true) : CallD X (.builtin "any") 1 mAny := by
  rintro pins s σ H xs us Q I rx ⟨F, O, ds, Φ, w, r, l, ⟨d, ns, rfl, hq, hm⟩, c⟩
  obtain ⟨v, rfl, r1⟩ := reps1 r
  obtain ⟨a, vs, rfl, ha, r2⟩ := seq_at w r1 hq
  rw [r2.bools] at ha
  exact cr_any hc pins s σ H _ us Q I rx ⟨a, ns, rfl, ha, c.here w (.bl _) hm⟩
theorem call_allD (hc : X.calm = true) : CallD X (.builtin "all") 1 mAll := by
  rintro pins s σ H xs us Q I rx ⟨F, O, ds, Φ, w, r, l, ⟨d, ns, rfl, hq, hm⟩, c⟩
  obtain ⟨v, rfl, r1⟩ := reps1 r
  obtain ⟨a, vs, rfl, ha, r2⟩ := seq_at w r1 hq
  rw [r2.bools] at ha
  exact cr_all hc pins s σ H _ us Q I rx ⟨a, ns, rfl, ha, c.here w (.bl _) hm⟩
theorem call_sortI : CallD X (.builtin "sorted") 1 mSortI := by
  rintro pins s σ H xs us Q I rx ⟨F, O, ds, Φ, w, r, l, ⟨d, ns, rfl, hq, hm⟩, c⟩
  obtain ⟨v, rfl, r1⟩ := reps1 r
  obtain ⟨a, vs, rfl, ha, r2⟩ := seq_at w r1 hq
  rw [r2.ints] at ha
  exact cr_sortedI pins s σ H _ us Q I rx ⟨a, ns, rfl, ha, fun out p h1 h2 hp => c.lst w (RepL.of_ints out) (hm out h1 h2) hp⟩
theorem call_sortDI (hc : X.calm = true) : CallD X (.builtin "sorted") 1 mSortDI := by
  rintro pins s σ H xs us Q I rx ⟨F, O, ds, Φ, w, r, l, ⟨d, kds, ks, rfl, hd, hk, h64, hm⟩, c⟩
  obtain ⟨v, rfl, r1⟩ := reps1 r
  have keys : ∀ {vs : List (Key × V)} {ds : List (Key × D)}, RepK X.K F vs ds → vs.map (·.1) = ds.map (·.1) := by
    intro vs ds r
    induction ds generalizing vs with
    | nil => cases r; rfl
    | cons q ds ih =>
      cases r with
      | cons r rr => rw [List.map_cons, List.map_cons, ih rr]
  have q : ∃ a kvs, v = .ref a ∧ Rd H a (.dK kvs) ∧ RepK X.K F kvs kds := by
    rcases hd with rfl | ⟨p, rfl, hp⟩
    · cases r1 with
      | dic ha r => exact ⟨_, _, rfl, w.sm.rdK ha, r⟩
    · cases r1
      obtain ⟨_, kvs, e, r⟩ := w.own p _ hp
      exact ⟨p, kvs, rfl, .inl e, r⟩
  obtain ⟨a, kvs, rfl, ha, r3⟩ := q
  exact call_sortedDI hc pins s σ H _ us Q I rx ⟨a, kvs, ks, rfl, ha, (keys r3).trans hk, h64, fun out p h1 h2 hp => c.lst w (RepL.of_ints out) (hm out h1 h2) hp⟩
/-- isinstance of a built-in class -/
@[reducible] def tyNm : D → String
  | .non => "NoneType"
  | .bl _ => "bool"
  | .int _ => "int"
  | .str _ => "str"
  | .lst _ => "list"
  | .tup _ => "tuple"
  | .dic _ => "dict"
  | _ => ""
@[reducible] def mIsi : M := fun xs O Φ => ∃ (d : D) (n : String) (b : Bool), xs = [d, .ty n] ∧ tyNm d ≠ "" ∧ kitB (tyNm d) n = some b ∧ Φ (.bl b) O
theorem call_isiD : CallD X (.builtin "isinstance") 2 mIsi := by
  rintro pins s σ H xs us Q I rx ⟨F, O, ds, Φ, w, r, l, ⟨d, n, b, rfl, hn, hk, hm⟩, c⟩
  obtain ⟨v, u, rfl, r1, r2⟩ := reps2 r
  cases r2
  refine call_isi pins s σ H _ us Q I rx ⟨v, .ty n, .type (tyNm d), .type n, b, rfl, .ty n, ?_, kit_ty hk, c.here w (.bl _) hm⟩
  cases r1 with
  | non => exact .base .non
  | bl b => exact .base (.bl b)
  | int b => exact .base (.int b)
  | str b => exact .base (.str b)
  | lst e _ => exact .base (.lst (w.sm.lst e))
  | tup e _ =>
    rcases w.sm.sqT e with (h | ⟨o, h⟩) | ⟨o, its, k, h1, h2, _⟩
    · exact .base (.tup h)
    · exact .fTuple h
    · exact .kTuple h1 h2
  | dic e _ =>
    rcases w.sm.rdK e with h | ⟨o, h⟩
    · exact .base (.dK h)
    · exact .fDict h
  | _ => exact absurd rfl hn
/-! ### methods of lists -/
/-- x.append(e) of an owned list -/
def mAppend : D → List D → OM → (D → OM → Prop) → Prop := fun x ys O Φ => match x, ys with
  | .ref p, [y] => (match O p with
    | some (.lst xs) => xs.length < 1000000 ∧ Φ .non (updO O p (.lst (xs ++ [y])))
    | _ => False)
  | _, _ => False
@[reducible] def isOwnL (O : OM) : D → Prop
  | .ref p => ∃ xs, O p = some (.lst xs)
  | _ => False
@[reducible] def eAppend (t : TD) (as : List TD) : TD := fun ds O Φ => t ds O fun d O1 => isOwnL O1 d ∧ argsW as ds O1 fun ys O2 => mAppend d ys O2 Φ
theorem pd_append {o e : Expr} {es : List Expr} {pos apos : Pos} {t : TD} {as : List TD} (ho : PD X o t) (ha : PAD X (e :: es) as)
    (H : ∀ (to : TE) (ta : TA), PE X o to → PA X (e :: es) ta → PE X (.Call (.Attribute o "append" apos) (e :: es) [] pos) (tBM X.K "list" rAppend to ta)) : PD X (.Call (.Attribute o "append" apos) (e :: es) [] pos) (eAppend t as) := by
  obtain ⟨so, po, wo⟩ := ho.ex
  obtain ⟨sa, pa, wa⟩ := ha.ex
  refine ⟨_, H _ _ po pa, fun ds O Φ h F H σ Q w e c => ?_⟩
  refine wo ds O _ h F H σ _ w e fun v F1 H1 O1 d s1 w1 r1 h1 => ?_
  obtain ⟨hd, h1⟩ := h1
  cases r1 with
  | ref p =>
    obtain ⟨xs0, q0⟩ := hd
    obtain ⟨_, ys0, e0, _⟩ := w1.own p _ q0
    refine ⟨Or.inl ⟨rfl, _, Or.inl (Or.inl e0)⟩, ?_⟩
    refine wa ds O1 _ h1 F1 H1 σ _ w1 (e.mono s1.ff) fun vs F2 H2 O2 ys s2 w2 r2 l2 h2 => ?_
    cases ys with
    | nil => exact h2.elim
    | cons y ys =>
      cases ys with
      | cons _ _ => exact h2.elim
      | nil =>
        obtain ⟨u, rfl, ru⟩ := reps1 r2
        simp only [mAppend] at h2
        cases q : O2 p with
        | none => rw [q] at h2; exact h2.elim
        | some oc =>
          rw [q] at h2
          cases oc with
          | lst ds2 =>
            obtain ⟨fp, xs, hx, r⟩ := w2.own p _ q
            refine ⟨p, xs, u, rfl, rfl, hx, by rw [r.length]; exact Nat.lt_of_lt_of_le h2.1 (by decide), ?_⟩
            exact c .non F2 _ _ .non ((s1.trans s2).trans (w2.put_step q _)) (w2.put (c := .lst (ds2 ++ [y])) q ⟨_, upd_same, r.app (.cons ru .nil)⟩) .non h2.2
          | _ => exact h2.elim
  | _ => exact hd.elim
/-! ### dicts with ints and texts as keys, owned -/
@[reducible] def keyD : D → Option Key
  | .int i => some (.inl i)
  | .str x => some (.inr x)
  | _ => none
@[reducible] def eDicO : TD := fun _ O Φ => ∀ p, O p = none → Φ (.ref p) (updO O p (.dic []))
theorem pd_dicO {pos : Pos} : PD X (.Dict [] [] pos) eDicO := by
  refine ⟨_, pe_dnewK, fun ds O Φ h F H σ Q w e c => ?_⟩
  intro p hp
  exact c (.ref p) _ _ _ _ (w.newO_step hp _ (.dic [])) (w.newO (c := .dic []) hp ⟨[], upd_same, .nil⟩) (.ref p) (h p (w.freeO hp))
/-- what stands at a key -/
def lookD (kds : List (Key × D)) (k : Key) : Option D := (kds.find? fun kv => decide (kv.1 = k)).map (·.2)
/-- d[k] = v: in its place, or at the end -/
def putD (kds : List (Key × D)) (k : Key) (d : D) : List (Key × D) :=
  if kds.any (fun kv => decide (kv.1 = k)) then kds.map (fun kv => if kv.1 = k then (kv.1, d) else kv) else kds ++ [(k, d)]
theorem RepK.any {K : Frag} {F : Hp} {f : Key → Bool} : ∀ {vs : List (Key × V)} {ds : List (Key × D)}, RepK K F vs ds → vs.any (fun kv => f kv.1) = ds.any (fun kv => f kv.1)
  | _, _, .nil => rfl
  | _, _, .cons h r => by rw [List.any_cons, List.any_cons, RepK.any r]
theorem RepK.app {K : Frag} {F : Hp} : ∀ {vs ws : List (Key × V)} {ds es : List (Key × D)}, RepK K F vs ds → RepK K F ws es → RepK K F (vs ++ ws) (ds ++ es)
  | _, _, _, _, .nil, h => h
  | _, _, _, _, .cons h r, q => .cons h (RepK.app r q)
theorem RepK.over {K : Frag} {F : Hp} {k : Key} {v : V} {d : D} (h : Rep K F v d) : ∀ {vs : List (Key × V)} {ds : List (Key × D)}, RepK K F vs ds → RepK K F (vs.map fun kv => if kv.1 = k then (kv.1, v) else kv) (ds.map fun kv => if kv.1 = k then (kv.1, d) else kv)
  | _, _, .nil => .nil
  | _, _, .cons (k := g) q r => by
    rw [List.map_cons, List.map_cons]
    by_cases z : g = k
    · simp only [z, if_true]
      exact .cons h (RepK.over h r)
    · simp only [z, if_false]
      exact .cons q (RepK.over h r)
theorem RepK.put {K : Frag} {F : Hp} {k : Key} {v : V} {d : D} (h : Rep K F v d) {vs : List (Key × V)} {ds : List (Key × D)} (r : RepK K F vs ds) : RepK K F (putK vs k v) (putD ds k d) := by
  unfold putK putD
  rw [r.any (f := fun g => decide (g = k))]
  split
  · exact r.over h
  · exact r.app (.cons h .nil)
theorem RepK.look {K : Frag} {F : Hp} {k : Key} : ∀ {vs : List (Key × V)} {ds : List (Key × D)} {d : D}, RepK K F vs ds → lookD ds k = some d → ∃ v, valV vs k = some v ∧ Rep K F v d
  | _, _, _, .nil, h => by cases h
  | _, _, d, .cons (k := g) (v := v) q r, h => by
    unfold lookD at h
    unfold valV
    rw [List.find?_cons] at h ⊢
    by_cases z : g = k
    · simp only [z, decide_true] at h ⊢
      simp only [Option.map_some, Option.some.injEq] at h
      subst h
      exact ⟨v, rfl, q⟩
    · simp only [z, decide_false] at h ⊢
      exact RepK.look r h
theorem RepK.lookN {K : Frag} {F : Hp} {k : Key} : ∀ {vs : List (Key × V)} {ds : List (Key × D)}, RepK K F vs ds → lookD ds k = none → valV vs k = none
  | _, _, .nil, h => rfl
  | _, _, .cons (k := g) q r, h => by
    unfold lookD at h
    unfold valV
    rw [List.find?_cons] at h ⊢
    by_cases z : g = k
    · simp only [z, decide_true] at h
      cases h
    · simp only [z, decide_false] at h ⊢
      exact RepK.lookN r h
theorem keyD_rep {K : Frag} {F : Hp} {v : V} {d : D} {k : Key} (r : Rep K F v d) (h : keyD d = some k) : v = kV k := by
  cases r with
  | int i => cases h; rfl
  | str i => cases h; rfl
  | _ => cases h
/-- o[i] = v: an owned list or dict -/
def mSet : D → D → D → OM → (OM → Prop) → Prop := fun o i z O Φ => match o with
  | .ref p => (match O p with
    | some (.lst xs) => (match i with
      | .int k => (match ixN xs.length k with
        | some j => Φ (updO O p (.lst (xs.set j z)))
        | none => False)
      | _ => False)
    | some (.dic kds) => (match keyD i with
      | some k => kds.length < 1000000 ∧ Φ (updO O p (.dic (putD kds k z)))
      | none => False)
    | _ => False)
  | _ => False
theorem psetd_set (hu : X.A.units + 1 < cLine) : PSetD X mSet := by
  rintro pins s σ H o i v ov iv u N I ro ri rv ⟨F, O, d, e, z, Φ, w, r1, r2, r3, hm, c⟩
  cases r1 with
  | ref p =>
    simp only [mSet] at hm
    cases q : O p with
    | none => rw [q] at hm; exact hm.elim
    | some oc =>
      rw [q] at hm
      cases oc with
      | lst ds =>
        dsimp only at hm
        refine psetd_list pins s σ H _ _ v ov iv u N I ro ri rv ⟨F, O, .ref p, e, z, Φ, w, .ref p, r2, r3, ?_, c⟩
        cases r2 with
        | int k => simp only [mSetL, q]; exact hm
        | _ => exact hm.elim
      | dic kds =>
        dsimp only at hm
        cases q2 : keyD e with
        | none => rw [q2] at hm; exact hm.elim
        | some k =>
          rw [q2] at hm
          obtain ⟨hl, hm⟩ := hm
          obtain ⟨fp, kvs, hx, r⟩ := w.own p _ q
          rw [keyD_rep r2 q2] at ri
          refine set_dict hu pins s σ H _ _ v ov iv u N I ro ri rv ⟨p, _, rfl, DPut.k hx (by rw [r.length]; exact Nat.lt_of_lt_of_le hl (by decide)), ?_⟩
          exact c F _ _ (w.put_step q _) (w.put (c := .dic (putD kds k z)) q ⟨_, upd_same, r.put r3⟩) hm
      | _ => exact hm.elim
  | _ => exact hm.elim
end
end DL

set_option maxHeartbeats 4000000
/-! DL4: set(list of ints), sorted of it. -/
namespace DL
open PySem PySem.Spec PyProof.Rows L2
section
variable {P : Program} {w : World} {A : Around} {E : Value → Shared → Prop} {s : Shared}
/-- the empty set's object -/
abbrev eSet (w : World) : Obj := { cls := .type "set", dict := none, data := .set #[] 0 (.fresh 0 0 (!w.params.followText "set-order")) }
abbrev hSet (w : World) (s : Shared) : Heap := s.heap.push (eSet w)
set_option maxHeartbeats 3200000 in
theorem call_set_listI {l : Addr} {items : Array Value} (ns : List Int) {Q : Value → Shared → Prop} (hh : A.handled = none) (hl : s.heap.IsList l items)
    (hit : IntsAre items.toList ns) (hb : ns.length + 1 < scanBound)
    (h : ∀ (h' : Heap) (tk c : Nat), SetR w h' s.heap.objs.size (fun j => decide (j ∈ ns)) c → c ≤ ns.length →
      (∀ b o, s.heap.get? b = some o → h'.get? b = some o) → Q (.ref s.heap.objs.size) { s with heap := h', toks := tk }) :
    wpAny (model P w) A (call (.type "set") [.ref l]) Q E s := by
  have zi : items.size = ns.length := by
    have q := IntsAre.length hit; rw [Array.length_toList] at q; exact q
  obtain ⟨c0, tl0, k1⟩ := F.called_set.mro
  have k2 := F.called_set.made
  have k3 := F.called_set.sub
  refine wpAny_call (codeAny_of_tree ?_)
  show wpAny _ _ (callAny (.type "set") _) _ _ _
  refine wpAny_pure ⟨Code.quiet_builtin _ (by decide +kernel), codeAny_builtin F.entry_type_call ?_⟩
  rw [Around.under_plain (weight_type_call_type "set" [.ref l] []) rfl]
  have k4 := F.called_set.notType
  have k5 := F.called_set.canCreate
  have k6 := F.typeCall_set_1 (.ref l)
  repeat (any_goals (first | assumption | wp_step))
  refine codeAny_mono (code_set_led1 (.ref l) (E := E)
    (Q₁ := fun obj s₁ => obj = .ref s.heap.objs.size ∧ s₁ = { s with heap := hSet w s }) ⟨rfl, rfl⟩) fun r s₁ hr => ?_
  cases r with
  | error e => exact hr
  | ok fl =>
    cases fl with
    | ret obj =>
      obtain ⟨rfl, rfl⟩ := hr
      have hS : (hSet w s).get? s.heap.objs.size = some (eSet w) := Heap.get?_push_size _ rfl
      have hT : Shared.TypeIs { s with heap := hSet w s } (.ref s.heap.objs.size) "set" := ⟨_, hS, rfl⟩
      have k7 := F.called_set.init.lookup
      have k8 := F.called_set.init.bind (.ref s.heap.objs.size)
      repeat (any_goals (first | assumption | wp_step))
      refine codeAny_mono (codeAny_call_builtin (R := wants (fun r s₂ => r = .none ∧ ∃ h' tk c, s₂ = { s with heap := h', toks := tk } ∧
        SetR w h' s.heap.objs.size (fun j => decide (j ∈ ns)) c ∧ c ≤ ns.length ∧ (∀ b o, s.heap.get? b = some o → h'.get? b = some o)) E)
        F.called_set.init.plain F.entry_set_init (check_set_init_1 hT ?_)) fun r₂ s₂ hr₂ => ?_
      · obtain ⟨ol, hol, hcl, nl, hdl⟩ := hl
        obtain ⟨oc, od, ox, os⟩ := ol
        simp only at hcl hdl
        subst hcl; subst hdl
        have hol' : (hSet w s).get? l = some { cls := .type "list", dict := od, data := .seq items nl, slots := os } := Heap.get?_push_of_some _ hol
        have k9 := F.sub_list_set
        have k10 := F.sub_list_frozenset
        have hne : (Value.type "list" == Value.type "dict") = false := by decide
        have hl1 : (hSet w s).IsList l items := ⟨_, hol', rfl, nl, rfl⟩
        unfold Builtin.«set.__init__» noKeywords Builtin.Frozenset.updateFrom
        generalize hPI : pyIter = PI
        wp_walk
        subst hPI
        refine wpAny_pyIter_list hl1 ?_
        refine wpAny_bind (wpAny_runValue ?_)
        have hlS : l < s.heap.objs.size := Heap.lt_size hol
        have hh3 : A.in1.in1.in1.handled = none := by simp [hh]
        have hneI : l ≠ (hSet w s).objs.size := by
          show l ≠ (s.heap.push (eSet w)).objs.size
          rw [Heap.size_push]; exact Nat.ne_of_lt (Nat.lt_succ_of_lt hlS)
        have hSf : s.heap.objs.size ∉ [(hSet w s).objs.size, l] := by
          show s.heap.objs.size ∉ [(s.heap.push (eSet w)).objs.size, l]
          rw [Heap.size_push]
          intro z
          rcases List.mem_cons.mp z with z | z
          · exact absurd z (Nat.ne_of_lt (Nat.lt_succ_self _))
          · rw [List.mem_singleton] at z; exact absurd z (Nat.ne_of_gt hlS)
        have hval : ∀ (i : Nat) (v : Value), items[i]? = some v → ∃ k t, ns[i]? = some k ∧ v = .int k t := fun i v hv => by
          have hi : i < ns.length := by rw [← zi]; exact (Array.getElem?_eq_some_iff.mp hv).1
          obtain ⟨t, e⟩ := IntsAre.int_at hit i v (by rw [Array.getElem?_toList]; exact hv)
          refine ⟨ns[i], t, List.getElem?_eq_getElem hi, ?_⟩
          rw [e, List.getD_eq_getElem?_getD, List.getElem?_eq_getElem hi] <;> rfl
        refine set_update_ints ((Walks.list hh3 _ l hneI items).toS) s.heap.objs.size hSf ns zi hb hval (items.size - 0) 0 _ (by omega) (Nat.zero_le _)
          ⟨⟨_, Heap.get?_push_size _ rfl, rfl, rfl⟩, (hl1.push _)⟩ ?hS0 ?hR
        case hS0 =>
          exact ⟨0, Nat.le_refl 0, setR_new_at (Heap.get?_push_of_some _ hS)⟩
        case hR =>
          intro s' c' hm hc' hS'
          obtain ⟨h', g2, d', tk', os'⟩ := s'
          have eg : g2 = s.gens := hm.gens
          have ed : d' = s.drawn := hm.drawn
          have eo : os' = s.os := hm.os
          subst eg; subst ed; subst eo
          show wpAny _ _ _ _ _ _
          refine wpAny_pure ?_
          show wpAny _ _ (ret Value.none) _ _ _
          rw [zi] at hc'
          refine wpAny_pure ⟨rfl, h', tk', c', rfl, hS', hc', fun b o e => ?_⟩
          have hb0 : b < s.heap.objs.size := Heap.lt_size e
          refine hm.heap b o (fun z => ?_) (Heap.get?_push_of_some _ (Heap.get?_push_of_some _ e))
          rcases List.mem_cons.mp z with z | z
          · exact absurd z (Nat.ne_of_lt hb0)
          · rw [List.mem_singleton] at z
            have zz : (hSet w s).objs.size = s.heap.objs.size + 1 := Heap.size_push ..
            rw [z, zz] at hb0
            exact absurd hb0 (Nat.not_lt.mpr (Nat.le_succ _))
      · cases r₂ with
        | error e => exact hr₂
        | ok fl₂ =>
          cases fl₂ with
          | ret r =>
            obtain ⟨rfl, h', tk, c, rfl, hS', hc, hk'⟩ := hr₂
            repeat (any_goals (first | assumption | wp_step))
            exact h _ _ c hS' hc hk'
          | _ => exact hr₂.elim
    | _ => exact hr.elim
end
section
variable {X : Cx}
/-- set(xs) of a list of ints -/
def rSetL (K : Frag) (w : World) : List V → Hp → VK → Prop := fun xs H Q => ∃ (a : Addr) (ns : List Int), xs = [.ref a] ∧ SqL K H a (ns.map V.int) ∧ ns.length < 64 ∧
  ∀ p c, H p = none → c ≤ ns.length → Q (.ref p) (upd H p (SetO w p (fun j => decide (j ∈ ns)) c))
theorem cr_setL (hc : X.calm = true) : CallR X (.type "set") (rSetL X.K X.w) := by
  intro pins s σ H xs us Q I r h
  obtain ⟨a, ns, rfl, hq, hl, q⟩ := h
  rw [Vals.ref1 r]
  obtain ⟨its, rv, pt, hz⟩ := I.list hq
  refine call_set_listI ns (I.ok.hd hc) pt.isList (ints_of_vals rv) (by unfold scanBound; omega) fun h' tk c R1 hcn k => ?_
  refine ⟨.ref _, upd H s.heap.objs.size (SetO X.w s.heap.objs.size (fun j => decide (j ∈ ns)) c), I.laid (t' := tk) k (Nat.le_refl _) (setO_new R1), rfl, q _ c (I.hok.fresh (Nat.le_refl _)) hcn⟩
/-- sorted(set(xs)): the different ints, ascending -/
@[reducible] def eSortSet (as : List TD) : TD := fun ds O Φ => argsW as ds O fun xs O1 => ∃ (d : D) (ns : List Int), xs = [d] ∧ seqOf O1 d = some (ns.map D.int) ∧ ns.length < 64 ∧ ∀ out : List Int, out.Pairwise (· < ·) → (∀ k, k ∈ out ↔ k ∈ ns) → Φ (.lst (out.map D.int)) O1
theorem pd_sortSet {e : Expr} {as : List TD} {p p2 pos pos2 : Pos} (hc : X.calm = true) (hg : Gl X "sorted") (hm : X.mg "sorted" = none) (hg2 : Gl X "set") (hm2 : X.mg "set" = none) (ha : PAD X [e] as)
    (H1 : ∀ (t : TA), PA X [e] t → PE X (.Call (.Name "set" p2) [e] [] pos2) (tCB (rSetL X.K X.w) t))
    (H2 : ∀ (t : TE), PE X (.Call (.Name "set" p2) [e] [] pos2) t → PE X (.Call (.Name "sorted" p) [.Call (.Name "set" p2) [e] [] pos2] [] pos) (tCB (rSortedSet X.w) (tCons t tNil))) :
    PD X (.Call (.Name "sorted" p) [.Call (.Name "set" p2) [e] [] pos2] [] pos) (eSortSet as) := by
  obtain ⟨sa, pa, wa⟩ := ha.ex
  refine ⟨_, H2 _ (H1 _ pa), fun ds O Φ h F H σ Q w en c => ?_⟩
  refine wa ds O _ h F H σ _ w en fun vs F1 H1 O1 xs s1 w1 r1 l1 h1 => ?_
  obtain ⟨d, ns, rfl, hq, hl, h1⟩ := h1
  obtain ⟨v, rfl, r2⟩ := reps1 r1
  obtain ⟨a, us, rfl, ha, r3⟩ := seq_at w1 r2 hq
  rw [r3.ints] at ha
  refine ⟨a, ns, rfl, ha, hl, fun p n hp hn => ?_⟩
  refine ⟨p, _, n, rfl, upd_same, Nat.lt_of_le_of_lt hn hl, fun out q h2 h3 _ hq2 => ?_⟩
  have np : q ≠ p := fun z => by subst z; rw [upd_same] at hq2; cases hq2
  have hq1 : H1 q = none := by rw [upd_ne np] at hq2; exact hq2
  have st : Step F1 H1 O1 F1 (upd H1 p (SetO X.w p (fun j => decide (j ∈ ns)) n)) O1 := ⟨Sm.refl _, fun x u hx _ => ⟨u, by rw [upd_ne (ne_of_none hx hp)]; exact hx, rfl⟩, fun x h => .inl h, fun x h => .inl h⟩
  have w2 : Wd X.K F1 (upd H1 p (SetO X.w p (fun j => decide (j ∈ ns)) n)) O1 := by
    refine ⟨fun x u hx => ?_, fun x oc hx => ?_⟩
    · obtain ⟨u', e1, e2⟩ := w1.sm x u hx
      exact ⟨u', by rw [upd_ne (ne_of_none e1 hp)]; exact e1, e2⟩
    · obtain ⟨h4, h5⟩ := w1.own x oc hx
      refine ⟨h4, h5.mono (Sm.refl _) (upd_ne fun z => ?_)⟩
      subst z
      exact h5.some hp
  exact ((c.after s1).after st).lst w2 (RepL.of_ints out) (h1 out h2 fun k => by rw [h3 k]; simp) hq2
end
end DL

set_option maxHeartbeats 4000000
/-! DL5: lists given out of hand, fields stored, instances called, what is built in. -/
namespace DL
open PySem PySem.Spec PyProof.Rows L2
section
variable {X : Cx} {pos : Pos}
@[reducible] def sNil : TSD := fun E ds O => E.nx ds O
@[reducible] def sBreak : TSD := fun E ds O => E.bk ds O
@[reducible] def sContinue : TSD := fun E ds O => E.ct ds O
@[reducible] def sRetN : TSD := fun E ds O => E.rt .non O
/-- an owned list at a slot is known from here on -/
@[reducible] def sFrz (i : Nat) (t : TSD) : TSD := fun E ds O => match nthD ds i with
  | some (.ref p) => ∃ xs, O p = some (.lst xs) ∧ t E (setD ds i (some (.lst xs))) (delO O p)
  | _ => False
theorem frz_env {K : Frag} {F : Hp} {σ : L2.St} {ds : EnvD} {i : Nat} {p : Addr} {xs : List V} {dl : List D} (e : EnvOk K F σ ds) (h : ds[i]? = some (some (.ref p))) (hp : F p = some (.lst xs)) (r : RepL K F xs dl) : EnvOk K F σ (ds.set i (some (.lst dl))) := by
  refine ⟨by rw [List.length_set]; exact e.len, fun j d q => ?_⟩
  by_cases z : i = j
  · subst z
    have l : i < ds.length := (List.getElem?_eq_some_iff.mp h).1
    rw [List.getElem?_set_self l] at q
    cases q
    obtain ⟨v, hv, rv⟩ := e.at_ i _ h
    cases rv
    exact ⟨_, hv, .lst hp r⟩
  · rw [List.getElem?_set_ne z] at q
    exact e.at_ j d q
theorem psd_frz {st : Stmt} {t : TSD} (i : Nat) (h : PSD X st t) : PSD X st (sFrz i t) := by
  obtain ⟨sa, pa, wa⟩ := h.ex
  refine ⟨_, pa, fun E ds O h F H σ De w e c => ?_⟩
  unfold sFrz at h
  split at h
  · rename_i p q
    obtain ⟨dl, q2, h⟩ := h
    obtain ⟨fp, xs, hx, r⟩ := w.own p _ q2
    have s1 := w.freeze_step (o := .lst xs) q2
    rw [setD_eq] at h
    exact wa E _ _ h (upd F p (.lst xs)) H σ De (w.freeze q2 hx) (frz_env (e.mono s1.ff) (nthD_at q) upd_same (r.mono s1.ff)) (c.after s1)
  · exact h.elim
/-- return of an owned list: known from then on -/
@[reducible] def sRetF (t : TD) : TSD := fun E ds O => t ds O fun d O1 => match d with
  | .ref p => ∃ xs, O1 p = some (.lst xs) ∧ E.rt (.lst xs) (delO O1 p)
  | _ => False
theorem psd_retF {e : Expr} {t : TD} (h : PD X e t) : PSD X (.Return (some e) pos) (sRetF t) := by
  obtain ⟨sa, pa, wa⟩ := h.ex
  refine ⟨_, ps_ret pa, fun E ds O h F H σ De w e c => ?_⟩
  refine wa ds O _ h F H σ _ w e fun v F1 H1 O1 d s1 w1 r1 h1 => ?_
  cases r1 with
  | ref p =>
    obtain ⟨dl, q2, h1⟩ := h1
    obtain ⟨fp, xs, hx, r⟩ := w1.own p _ q2
    have s2 := w1.freeze_step (o := .lst xs) q2
    exact ((c.rt.after s1).after s2).here (w1.freeze q2 hx) (.lst upd_same (r.mono s2.ff)) h1
  | _ => exact h1.elim
/-- o.f = e of an owned instance -/
def putFD (f : Str) (d : D) : List (Str × D) → List (Str × D)
  | [] => [(f, d)]
  | (g, x) :: r => if g = f then (g, d) :: r else (g, x) :: putFD f d r
theorem RepF.put {K : Frag} {F : Hp} {f : Str} {v : V} {d : D} (h : Rep K F v d) : ∀ {vs : List (Str × V)} {ds : List (Str × D)}, RepF K F vs ds → RepF K F (putF f v vs) (putFD f d ds)
  | _, _, .nil => .cons h .nil
  | _, _, .cons (k := g) q r => by
    unfold putF putFD
    by_cases z : g = f
    · rw [if_pos z, if_pos z]
      exact .cons h r
    · rw [if_neg z, if_neg z]
      exact .cons q (RepF.put h r)
@[reducible] def sFldD (C : Addr) (f : Str) (a t : TD) : TSD := fun E ds O => t ds O fun z O1 => a ds O1 fun d O2 => match d with
  | .ref p => ∃ fds, O2 p = some (.ins C fds) ∧ fds.length < 900 ∧ E.nx ds (updO O2 p (.ins C (putFD f z fds)))
  | _ => False
theorem psd_fld {o value : Expr} {f : Str} {C : Addr} {a t : TD} {pos' : Pos} (c : Cls X.K C) (n : NoAttr X.K C f) (ha : PD X o a) (hv : PD X value t) (hs : swapsWith value (some (.Attribute o f pos')) pos.line X.env = pure false) : PSD X (.Assign [.Attribute o f pos'] value pos) (sFldD C f a t) := by
  obtain ⟨sa, pa, wa⟩ := ha.ex
  obtain ⟨sb, pb, wb⟩ := hv.ex
  refine ⟨_, ps_fld pa pb hs, fun E ds O h F H σ De w e cn => ?_⟩
  refine wb ds O _ h F H σ _ w e fun v F1 H1 O1 z s1 w1 r1 h1 => ?_
  refine wa ds O1 _ h1 F1 H1 σ _ w1 (e.mono s1.ff) fun u F2 H2 O2 d s2 w2 r2 h2 => ?_
  cases r2 with
  | ref p =>
    obtain ⟨fds, q2, hl, h2⟩ := h2
    obtain ⟨fp, dx, fs, hx, r⟩ := w2.own p _ q2
    refine ⟨p, _, dx, fs, rfl, hx, c, n, by rw [r.length]; omega, ?_⟩
    have rz := r1.mono s2.ff
    exact (((cn.nx.after s1).after s2).after (w2.put_step q2 _)).here (w2.put (c := .ins _ (putFD f z fds)) q2 ⟨dx, _, upd_same, r.put rz⟩) ((e.mono s1.ff).mono s2.ff) h2
  | _ => exact h2.elim
/-- f(e, ..), f an instance -/
@[reducible] def eCallO (C : Addr) (m : M) (a : TD) (as : List TD) : TD := fun ds O Φ => a ds O fun d O1 => match insOf O1 d with
  | some (C', _) => C' = C ∧ argsW as ds O1 fun xs O2 => (∃ fds, insOf O2 d = some (C, fds)) ∧ m (d :: xs) O2 Φ
  | none => False
theorem pd_callO {fe e : Expr} {es : List Expr} {C g : Addr} {t : TD} {as : List TD} {k n : Nat} {fd : FuncData} {ps : List Str} {m : M} (ho : PD X fe t) (co : StX.CallO X.K C g) (Fn : FnOk X.prog X.w X.K X.mg X.base CX0 k g fd ps (spD X.K n m)) (hr : Room k X.A) (hb : Binds X.K fd ps [])
    (ha : PAD X (e :: es) as) (H : ∀ (tf : TE) (tt : TA), PE X fe tf → PA X (e :: es) tt → PE X (.Call fe (e :: es) [] pos) (StX.tCallO X C (fun vs H Q E => spD X.K n m (vs ++ []) H Q E) E0 tf tt)) (hn : as.length + 1 = n := by rfl) :
    PD X (.Call fe (e :: es) [] pos) (eCallO C m t as) := by
  obtain ⟨so, po, wo⟩ := ho.ex
  obtain ⟨sa, pa, wa⟩ := ha.ex
  refine ⟨_, H _ _ po pa, fun ds O Φ h F H σ Q w e cn => ?_⟩
  refine wo ds O _ h F H σ _ w e fun v F1 H1 O1 d s1 w1 r1 h1 => ?_
  dsimp only at h1
  split at h1
  · rename_i C' fds q
    obtain ⟨rfl, h1⟩ := h1
    obtain ⟨a, dx, fs, rfl, hi, rf⟩ := ins_at w1 r1 q
    refine ⟨a, rfl, ?_⟩
    refine wa ds O1 _ h1 F1 H1 σ _ w1 (e.mono s1.ff) fun vs F2 H2 O2 xs s2 w2 r2 l2 h2 => ?_
    obtain ⟨⟨fds2, q2⟩, h2⟩ := h2
    obtain ⟨a', dx2, fs2, ea, hi2, rf2⟩ := ins_at w2 (r1.mono s2.ff) q2
    cases ea
    refine ⟨.inr ⟨dx2, fs2, hi2⟩, ?_⟩
    show spD X.K n m ((V.ref a :: vs) ++ []) H2 Q E0
    rw [List.append_nil]
    exact ⟨F2, O2, d :: xs, Φ, w2, .cons (r1.mono s2.ff) r2, (congrArg Nat.succ l2).trans hn, h2, (cn.after s1).after s2⟩
  · exact h1.elim
@[reducible] def eNeg (a : TD) : TD := fun ds O Φ => a ds O fun d O1 => match d with
  | .int i => Φ (.int (-i)) O1
  | _ => False
theorem pd_neg {a : Expr} {t : TD} (ha : PD X a t) : PD X (.UnaryOp .USub a pos) (eNeg t) := by
  obtain ⟨sa, pa, wa⟩ := ha.ex
  refine ⟨_, pe_un un_neg pa, fun ds O Φ h F H σ Q w e cn => ?_⟩
  refine wa ds O _ h F H σ _ w e fun v F1 H1 O1 d s1 w1 r1 h1 => ?_
  cases r1 with
  | int i => exact ⟨i, rfl, (cn.after s1).here w1 (.int _) h1⟩
  | _ => exact h1.elim
end
/-! ### small places -/
theorem atI_lit {α : Type} {xs : List α} {x : α} (i : Nat) (h : xs[i]? = some x) : atI xs (i : Int) = some x := by
  have l := (List.getElem?_eq_some_iff.mp h).1
  unfold atI ixN
  rw [if_pos (Int.natCast_nonneg i), if_pos (by omega), Int.toNat_natCast]
  exact h
@[simp] theorem atI_0 {α : Type} (x : α) (xs : List α) : atI (x :: xs) 0 = some x := atI_lit 0 rfl
@[simp] theorem atI_1 {α : Type} (x y : α) (xs : List α) : atI (x :: y :: xs) 1 = some y := atI_lit 1 rfl
@[simp] theorem atI_2 {α : Type} (x y z : α) (xs : List α) : atI (x :: y :: z :: xs) 2 = some z := atI_lit 2 rfl
@[simp] theorem atI_3 {α : Type} (x y z u : α) (xs : List α) : atI (x :: y :: z :: u :: xs) 3 = some u := atI_lit 3 rfl
theorem atI_nat {α : Type} {xs : List α} {i : Int} {x : α} (h0 : 0 ≤ i) (h : xs[i.toNat]? = some x) : atI xs i = some x := by
  have l := (List.getElem?_eq_some_iff.mp h).1
  unfold atI ixN
  rw [if_pos h0, if_pos (by omega)]
  exact h
theorem ixN_nat {n : Nat} {i : Int} (h0 : 0 ≤ i) (h : i < n) : ixN n i = some i.toNat := by
  unfold ixN
  rw [if_pos h0, if_pos h]
@[simp] theorem ixN_41 : ixN 4 1 = some 1 := by decide
@[simp] theorem ixN_42 : ixN 4 2 = some 2 := by decide
@[simp] theorem ixN_43 : ixN 4 3 = some 3 := by decide
/-- a def of the text that is worth m -/
def Ok (P : Program) (w : World) (K : Frag) (mg : Str → Option Value) (k : Nat) (f : Addr) (ps : List Str) (m : M) : Prop :=
  ∃ fd, (∀ base : Heap, FnOk P w K mg base CX0 k f fd ps (spD K ps.length m)) ∧ Binds K fd ps [] ∧ PySem.W.keepIn K (.ref f) = true ∧ ∀ (s : Shared) (us : List Value), us.length = ps.length → BindsTo s fd ⟨us, []⟩ (ps.zip us)
theorem Ok.imp {P : Program} {w : World} {K : Frag} {mg : Str → Option Value} {k : Nat} {f : Addr} {ps : List Str} {m m' : M} (h : Ok P w K mg k f ps m) (i : ∀ ds O Φ, m' ds O Φ → m ds O Φ) : Ok P w K mg k f ps m' := by
  obtain ⟨fd, F, b, kp, bt⟩ := h
  refine ⟨fd, fun base => (F base).imp fun vs H Q E z => ?_, b, kp, bt⟩
  obtain ⟨F0, O, ds, Φ, w0, r, l, hm, c⟩ := z
  exact ⟨F0, O, ds, Φ, w0, r, l, i _ _ _ hm, c⟩
/-! ### what is built in -/
theorem bt_len : bootBuiltins "len" = some (.builtin "len") := boot_len
theorem bt_abs : bootBuiltins "abs" = some (.builtin "abs") := by decide +kernel
theorem bt_max : bootBuiltins "max" = some (.builtin "max") := by decide +kernel
theorem bt_min : bootBuiltins "min" = some (.builtin "min") := by decide +kernel
theorem bt_sum : bootBuiltins "sum" = some (.builtin "sum") := by decide +kernel
theorem bt_any : bootBuiltins "any" = some (.builtin "any") := by decide +kernel
theorem bt_all : bootBuiltins "all" = some (.builtin "all") := by decide +kernel
theorem bt_isinstance : bootBuiltins "isinstance" = some (.builtin "isinstance") := by decide +kernel
theorem bt_sorted : bootBuiltins "sorted" = some (.builtin "sorted") := by decide +kernel
theorem bt_int : bootBuiltins "int" = some (.type "int") := by decide +kernel
theorem bt_str : bootBuiltins "str" = some (.type "str") := by decide +kernel
theorem bt_bool : bootBuiltins "bool" = some (.type "bool") := by decide +kernel
theorem bt_list : bootBuiltins "list" = some (.type "list") := by decide +kernel
theorem bt_tuple : bootBuiltins "tuple" = some (.type "tuple") := by decide +kernel
theorem bt_dict : bootBuiltins "dict" = some (.type "dict") := by decide +kernel
theorem bt_set : bootBuiltins "set" = some (.type "set") := by decide +kernel
end DL

set_option maxHeartbeats 4000000
/-! DL6: reasoning over transformers: places, tests, loops, comprehensions. -/
namespace DL
open PySem PySem.Spec PyProof.Rows L2
section
variable {p : Addr} {xs : List D} {i : Int} {z : D} {O : OM} {Φ : D → OM → Prop}
theorem ix_o (hO : O p = some (.lst xs)) (hi : atI xs i = some z) (h : Φ z O) : mIx (.ref p) (.int i) O Φ := by
  simp only [mIx, seqOf, lstOf, hO, hi]; exact h
theorem ix_l (hi : atI xs i = some z) (h : Φ z O) : mIx (.lst xs) (.int i) O Φ := by
  simp only [mIx, seqOf, lstOf, hi]; exact h
theorem ix_t (hi : atI xs i = some z) (h : Φ z O) : mIx (.tup xs) (.int i) O Φ := by
  simp only [mIx, hi]; exact h
theorem set_o {j : Nat} {Φ : OM → Prop} (hO : O p = some (.lst xs)) (hi : ixN xs.length i = some j) (h : Φ (updO O p (.lst (xs.set j z)))) : mSet (.ref p) (.int i) z O Φ := by
  simp only [mSet, hO, hi]; exact h
theorem setd_o {kds : List (Key × D)} {k : Key} {d : D} {Φ : OM → Prop} (hO : O p = some (.dic kds)) (hk : keyD d = some k) (hl : kds.length < 1000000) (h : Φ (updO O p (.dic (putD kds k z)))) : mSet (.ref p) d z O Φ := by
  simp only [mSet, hO, hk]; exact ⟨hl, h⟩
theorem app_o (hO : O p = some (.lst xs)) (hl : xs.length < 1000000) (h : Φ .non (updO O p (.lst (xs ++ [z])))) : mAppend (.ref p) [z] O Φ := by
  simp only [mAppend, hO]; exact ⟨hl, h⟩
theorem lt_any {i j : Int} (h : ∀ b, Φ (.bl b) O) : mLt (.int i) (.int j) O Φ := h _
theorem len_l (h : Φ (.int (xs.length : Nat)) O) : mLen [.lst xs] O Φ := h
theorem len_o (hO : O p = some (.lst xs)) (h : Φ (.int (xs.length : Nat)) O) : mLen [.ref p] O Φ := by
  simp only [mLen, seqOf, lstOf, hO]; exact h
end
section
variable {A B : Prop} {i j : Int}
theorem dec_ite {c : Prop} {ic : Decidable c} (h1 : c → A) (h2 : ¬ c → B) : if decide c = true then A else B := by
  by_cases e : c
  · rw [if_pos (decide_eq_true e)]; exact h1 e
  · rw [if_neg (by simpa using e)]; exact h2 e
theorem ndec_ite {c : Prop} {ic : Decidable c} (h1 : ¬ c → A) (h2 : c → B) : if (!decide c) = true then A else B := by
  by_cases e : c
  · rw [if_neg (by simpa using e)]; exact h2 e
  · rw [if_pos (by simpa using e)]; exact h1 e
theorem b_ite {b : Bool} (h1 : b = true → A) (h2 : b = false → B) : if b = true then A else B := by
  cases b
  · rw [if_neg Bool.false_ne_true]; exact h2 rfl
  · rw [if_pos rfl]; exact h1 rfl
theorem nb_ite {b : Bool} (h1 : b = false → A) (h2 : b = true → B) : if (!b) = true then A else B := by
  cases b
  · rw [if_pos (show (!false) = true from rfl)]; exact h1 rfl
  · rw [if_neg (show ¬ (!true) = true by decide)]; exact h2 rfl
theorem t_ite (h : A) : if true = true then A else B := by rw [if_pos rfl]; exact h
theorem f_ite (h : B) : if false = true then A else B := by rw [if_neg Bool.false_ne_true]; exact h
theorem div_ok (h : 0 < j) (hb : j < 2 ^ 64) : CDivW i j := wide_div (b := 64) h (by omega) (by decide) (by decide)
end
theorem loop_ind {g : TGD} {b : TSD} {E : EndsD} (I : List D → EnvD → OM → Prop) (nil : ∀ ds O, I [] ds O → E.nx ds O)
    (cons : ∀ x r ds O, I (x :: r) ds O → (∀ ds' O', I r ds' O' → loopS g b E r ds' O') → g x ds O (fun ds1 O1 => b { E with nx := loopS g b E r, ct := loopS g b E r, bk := E.nx } ds1 O1)) :
    ∀ xs ds O, I xs ds O → loopS g b E xs ds O
  | [], ds, O, h => nil ds O h
  | x :: r, ds, O, h => cons x r ds O h fun ds' O' h' => loop_ind I nil cons r ds' O' h'
theorem lc_ind {vs : List Nat} {g : TGD} {t : TB} {e : TD} {ds : EnvD} {Φ : List D → OM → Prop} (I : List D → List D → OM → Prop) (nil : ∀ acc O, I [] acc O → Φ acc O)
    (cons : ∀ x r acc O, I (x :: r) acc O → (∀ acc' O', I r acc' O' → lcS vs g t e ds Φ r acc' O') →
      g x (wipeD ds vs) O fun ds1 O1 => t ds1 O1 fun k O2 => if k = true then e ds1 O2 fun y O3 => acc.length < 100000 ∧ lcS vs g t e ds Φ r (acc ++ [y]) O3 else lcS vs g t e ds Φ r acc O2) :
    ∀ xs acc O, I xs acc O → lcS vs g t e ds Φ xs acc O
  | [], acc, O, h => nil acc O h
  | x :: r, acc, O, h => cons x r acc O h fun acc' O' h' => lc_ind I nil cons r acc' O' h'
/-- a comprehension that changes nothing: over items enc a, those with p, each f -/
theorem lc_pure {α : Type} {vs : List Nat} {g : TGD} {t : TB} {e : TD} {ds : EnvD} {Φ : List D → OM → Prop} {O : OM} (enc : α → D) (p : α → Bool) (f : α → D) (xs : List α)
    (step : ∀ a, a ∈ xs → ∀ (N : OM → Prop) (S : D → OM → Prop), (p a = true → S (f a) O) → (p a = false → N O) → g (enc a) (wipeD ds vs) O fun ds1 O1 => t ds1 O1 fun k O2 => if k = true then e ds1 O2 S else N O2)
    (hl : xs.length ≤ 100000) (h : Φ ((xs.filter p).map f) O) : lcS vs g t e ds Φ (xs.map enc) [] O := by
  have gen : ∀ (ys : List α) (acc : List D), (∀ a ∈ ys, a ∈ xs) → acc.length + ys.length ≤ 100000 → Φ (acc ++ (ys.filter p).map f) O → lcS vs g t e ds Φ (ys.map enc) acc O := by
    intro ys
    induction ys with
    | nil =>
      intro acc _ _ h
      show Φ acc O
      simpa using h
    | cons a r ih =>
      intro acc hm hl h
      show g (enc a) (wipeD ds vs) O _
      refine step a (hm a List.mem_cons_self) _ _ (fun hp => ⟨by simp only [List.length_cons] at hl; omega, ?_⟩) (fun hp => ?_)
      · refine ih _ (fun b hb => hm b (List.mem_cons_of_mem _ hb)) (by simp only [List.length_cons, List.length_append, List.length_nil] at hl ⊢; omega) ?_
        rw [List.filter_cons, if_pos hp, List.map_cons] at h
        rw [List.append_assoc]
        exact h
      · refine ih _ (fun b hb => hm b (List.mem_cons_of_mem _ hb)) (by simp only [List.length_cons] at hl; omega) ?_
        rw [List.filter_cons, if_neg (by rw [hp]; decide)] at h
        exact h
  exact gen xs [] (fun a h => h) (by simpa using hl) (by simpa using h)
/-- over range -/
theorem range_map (lo : Int) (n : Nat) : rangeD lo n = (List.range n).map fun i : Nat => D.int (lo + (i : Int)) := rfl
/-- in a list of ints -/
theorem int_at {ns : List Int} {i : Nat} {k : Int} (h : ns[i]? = some k) : (ns.map D.int)[i]? = some (.int k) := by rw [List.getElem?_map, h]; rfl
end DL

set_option maxHeartbeats 1000000
/-! DL7: what is owned stays: frames; loops and comprehensions over frames. -/
namespace DL
open PySem PySem.Spec PyProof.Rows L2
/-- all that O owns, O' owns as it stood -/
def Ext (O O' : OM) : Prop := ∀ q c, O q = some c → O' q = some c
theorem Ext.refl {O : OM} : Ext O O := fun _ _ h => h
theorem Ext.trans {A B C : OM} (h : Ext A B) (h' : Ext B C) : Ext A C := fun q c z => h' q c (h q c z)
theorem Ext.new {A B : OM} {p : Addr} {c : OC} (h : Ext A B) (hp : A p = none) : Ext A (updO B p c) := fun q d z => by
  rw [updO_ne (fun e => by rw [e, hp] at z; cases z)]; exact h q d z
theorem Ext.newest {A B : OM} {p : Addr} {c : OC} (h : Ext A B) (hp : B p = none) : Ext A (updO B p c) := fun q d z => by
  rw [updO_ne (fun e => by rw [← e, h q d z] at hp; cases hp)]; exact h q d z
theorem Ext.del {A B : OM} {p : Addr} (h : Ext A B) (hp : A p = none) : Ext A (delO B p) := fun q d z => by
  unfold delO; rw [if_neg (fun e => by rw [e, hp] at z; cases z)]; exact h q d z
theorem Ext.none {A B : OM} {p : Addr} (h : Ext A B) (hp : B p = none) : A p = Option.none := by
  cases e : A p with
  | none => rfl
  | some c => rw [h p c e] at hp; cases hp
/-- .. all but what stands at p -/
def Exc (p : Addr) (O O' : OM) : Prop := ∀ q c, q ≠ p → O q = some c → O' q = some c
theorem Exc.refl {p : Addr} {O : OM} : Exc p O O := fun _ _ _ h => h
theorem Exc.trans {p : Addr} {A B C : OM} (h : Exc p A B) (h' : Exc p B C) : Exc p A C := fun q c n z => h' q c n (h q c n z)
theorem Exc.of {p : Addr} {A B : OM} (h : Ext A B) : Exc p A B := fun q c _ z => h q c z
theorem Exc.upd {p : Addr} {A B : OM} {c : OC} (h : Exc p A B) : Exc p A (updO B p c) := fun q d n z => by
  rw [updO_ne n]; exact h q d n z
theorem Exc.newest {r p : Addr} {A B : OM} {c : OC} (h : Exc p A B) (hp : B r = none) : Exc p A (updO B r c) := fun q d n z => by
  rw [updO_ne (fun e => by rw [← e, h q d n z] at hp; cases hp)]; exact h q d n z
theorem Exc.new {r p : Addr} {A B : OM} {c : OC} (h : Exc p A B) (hp : A r = none) : Exc p A (updO B r c) := fun q d n z => by
  rw [updO_ne (fun e => by rw [e, hp] at z; cases z)]; exact h q d n z
theorem Exc.del {r p : Addr} {A B : OM} (h : Exc p A B) (hp : A r = none) : Exc p A (delO B r) := fun q d n z => by
  unfold delO; rw [if_neg (fun e => by rw [e, hp] at z; cases z)]; exact h q d n z
theorem delO_ne {O : OM} {p q : Addr} (h : q ≠ p) : delO O p q = O q := by unfold delO; rw [if_neg h]
/-- a comprehension over items enc a, those with p, each f -/
theorem lc_ext {α : Type} {vs : List Nat} {g : TGD} {t : TB} {e : TD} {ds : EnvD} {Φ : List D → OM → Prop} {O : OM} (enc : α → D) (p : α → Bool) (f : α → D) (xs : List α)
    (step : ∀ a, a ∈ xs → ∀ (O0 : OM) (N : OM → Prop) (S : D → OM → Prop), (p a = true → ∀ O', Ext O0 O' → S (f a) O') → (p a = false → ∀ O', Ext O0 O' → N O') → g (enc a) (wipeD ds vs) O0 fun ds1 O1 => t ds1 O1 fun k O2 => if k = true then e ds1 O2 S else N O2)
    (hl : xs.length ≤ 100000) (h : ∀ O', Ext O O' → Φ ((xs.filter p).map f) O') : lcS vs g t e ds Φ (xs.map enc) [] O := by
  have gen : ∀ (ys : List α) (acc : List D) (O : OM), (∀ a ∈ ys, a ∈ xs) → acc.length + ys.length ≤ 100000 → (∀ O', Ext O O' → Φ (acc ++ (ys.filter p).map f) O') → lcS vs g t e ds Φ (ys.map enc) acc O := by
    intro ys
    induction ys with
    | nil =>
      intro acc O _ _ h
      show Φ acc O
      simpa using h O .refl
    | cons a r ih =>
      intro acc O hm hl h
      show g (enc a) (wipeD ds vs) O _
      refine step a (hm a List.mem_cons_self) _ _ _ (fun hp O' x => ⟨by simp only [List.length_cons] at hl; omega, ?_⟩) (fun hp O' x => ?_)
      · refine ih _ _ (fun b hb => hm b (List.mem_cons_of_mem _ hb)) (by simp only [List.length_cons, List.length_append, List.length_nil] at hl ⊢; omega) fun O2 x2 => ?_
        have h := h O2 (x.trans x2)
        rw [List.filter_cons, if_pos hp, List.map_cons] at h
        rw [List.append_assoc]
        exact h
      · refine ih _ _ (fun b hb => hm b (List.mem_cons_of_mem _ hb)) (by simp only [List.length_cons] at hl; omega) fun O2 x2 => ?_
        have h := h O2 (x.trans x2)
        rw [List.filter_cons, if_neg (by rw [hp]; decide)] at h
        exact h
  exact gen xs [] O (fun a h => h) (by simpa using hl) (by simpa using h)
/-- .. all of them -/
theorem lc_all {α : Type} {vs : List Nat} {g : TGD} {e : TD} {ds : EnvD} {Φ : List D → OM → Prop} {O : OM} (enc : α → D) (f : α → D) (xs : List α)
    (step : ∀ a, a ∈ xs → ∀ (O0 : OM) (S : D → OM → Prop), (∀ O', Ext O0 O' → S (f a) O') → g (enc a) (wipeD ds vs) O0 fun ds1 O1 => e ds1 O1 S)
    (hl : xs.length ≤ 100000) (h : ∀ O', Ext O O' → Φ (xs.map f) O') : lcS vs g bYes e ds Φ (xs.map enc) [] O :=
  lc_ext enc (fun _ => true) f xs (fun a ha O0 N S h1 _ => step a ha O0 S (h1 rfl)) hl fun O' x => by
    rw [List.filter_eq_self.mpr fun _ _ => rfl]; exact h O' x
theorem chain_ite {b : Bool} {A B : Prop} (h1 : b = true → A) (h2 : b = false → B) : match D.bl b with
    | .bl true => A
    | .bl false => B
    | _ => False := by
  cases b
  · exact h2 rfl
  · exact h1 rfl
/-- a loop over items enc a with what has been seen -/
theorem loop_on {α : Type} {g : TGD} {b : TSD} {E : EndsD} (enc : α → D) (I : List α → List α → EnvD → OM → Prop) (xs : List α) (nil : ∀ ds O, I xs [] ds O → E.nx ds O)
    (cons : ∀ l x r ds O, l ++ x :: r = xs → I l (x :: r) ds O → (∀ ds' O', I (l ++ [x]) r ds' O' → loopS g b E (r.map enc) ds' O') → g (enc x) ds O (fun ds1 O1 => b { E with nx := loopS g b E (r.map enc), ct := loopS g b E (r.map enc), bk := E.nx } ds1 O1))
    {ds : EnvD} {O : OM} (h : I [] xs ds O) : loopS g b E (xs.map enc) ds O := by
  have gen : ∀ (r l : List α) ds O, l ++ r = xs → I l r ds O → loopS g b E (r.map enc) ds O := by
    intro r
    induction r with
    | nil =>
      intro l ds O e h
      rw [List.append_nil] at e
      rw [e] at h
      exact nil ds O h
    | cons x r ih =>
      intro l ds O e h
      show g (enc x) ds O _
      exact cons l x r ds O e h fun ds' O' h' => ih (l ++ [x]) ds' O' (by rw [List.append_assoc]; exact e) h'
  exact gen xs [] ds O rfl h
theorem atI_last {α : Type} {xs : List α} {x : α} (h : xs.getLast? = some x) : atI xs (-1) = some x := by
  have l : xs ≠ [] := fun e => by rw [e] at h; cases h
  have n : 0 < xs.length := List.length_pos_iff.mpr l
  have : atI xs (-1) = xs[xs.length - 1]? := by
    unfold atI ixN
    rw [if_neg (by decide), if_pos (by omega)]
    show xs[_]? = _
    congr 1
    omega
  rw [this, ← List.getLast?_eq_getElem?, h]
end DL

set_option maxHeartbeats 4000000
/-! DH: the head's facts by any path: defs at addresses of one's own, facts as tests of the written part. -/
namespace DH
open PySem PySem.Spec PyProof.Rows L2
abbrev Frag := PySem.W.Frag
abbrev ga := He.ga
abbrev ma := He.ma
/-- a def and how it is found -/
structure DD where
  adr : Frag → Addr
  name : Str
  qual : Str
  params : Arguments
  body : List Stmt
  scope : Scope
  dfl : List He.Dv := []
  kwd : List (Str × He.Dv) := []
def DD.dvs (K : Frag) (d : DD) : List V := d.dfl.map (He.Dv.v K)
def DD.kws (K : Frag) (d : DD) : List (Str × V) := d.kwd.map fun q => (q.1, q.2.v K)
def seen (K : Frag) (a : Addr) : He.FnW := match K.lookup a with
  | some ⟨_, _, .func x, _⟩ => some (x.name, x.qualname, x.params, x.body, x.scope, x.globals, x.closure, x.builtins)
  | _ => none
def DD.want (d : DD) : He.FnW := some (d.name, d.qual, d.params, .stmts d.body, d.scope, mainGlobals, [], builtinsNs)
def DD.fine (K : Frag) (d : DD) : Bool := PySem.W.keepIn K (.ref (d.adr K)) && (match K.lookup (d.adr K) with
  | some ⟨_, _, .func x, _⟩ => PySem.W.codeIn K x.code d.qual && (He.dflB K x.defaults (d.dvs K) && He.kwdB K x.kwdefaults (d.kws K))
  | _ => false)
theorem DD.funD {K : Frag} {d : DD} (e : seen K (d.adr K) = d.want) (c : d.fine K = true) : ∃ fd, FunD K d.name d.qual d.params d.body d.scope (d.dvs K) (d.kws K) (d.adr K) fd := by
  obtain ⟨kp, c2⟩ := Bool.and_eq_true_iff.mp c
  unfold seen at e
  cases q : K.lookup (d.adr K) with
  | none => rw [q] at c2; cases c2
  | some o =>
    obtain ⟨o1, o2, o3, o4⟩ := o
    rw [q] at c2 e
    cases o3 with
    | func x =>
      obtain ⟨x1, x2, x3, x4, x5, x6, x7, x8, x9, x10, x11, x12, x13, x14, x15⟩ := x
      have e2 : (some (x1, x2, x3, x4, x5, x6, x7, x15) : He.FnW) = d.want := e
      unfold DD.want at e2
      simp only [Option.some.injEq, Prod.mk.injEq] at e2
      obtain ⟨h1, h2, h3, h4, h5, h6, h7, h8⟩ := e2
      subst h1 h2 h3 h4 h5 h6 h7 h8
      obtain ⟨y1, y2⟩ := Bool.and_eq_true_iff.mp c2
      obtain ⟨y3, y4⟩ := Bool.and_eq_true_iff.mp y2
      exact ⟨_, ⟨o1, o2, x8, x9, x10, x11, x12, x13, x14, o4, rfl, q, y1, He.dflB_ok y3, He.kwdB_ok y4⟩, kp⟩
    | _ => cases c2
abbrev Fact := Frag → Bool
abbrev Al : Type := Bool × List He.FnW
def obs (fa : List Fact) (fn : List DD) (K : Frag) : Al := ((fa.all fun f => f K) && fn.all fun d => d.fine K, fn.map fun d => seen K (d.adr K))
def val (fn : List DD) : Al := (true, fn.map DD.want)
def Says (fa : List Fact) (fn : List DD) (K : Frag) : Prop := obs fa fn K = val fn
def obsG (n : Nat) (fa : List Fact) (fn : List DD) (g : Addr → Option Obj) : Al := obs fa fn (He.frG g (He.asD g n))
def hook (n : Nat) (fa : List Fact) (fn : List DD) : PySem.W.Hook where
  α := Al
  obs := fun s => obsG n fa fn s.heap.get?
  val := fun _ => val fn
  says := fun _ h => ∃ K : Frag, K.In h ∧ Says fa fn K
  of := fun _ _ e => ⟨_, He.frG_in, e⟩
  keeps := fun _ _ _ ⟨K, hK, c⟩ k => ⟨K, PySem.W.Frag.In.keeps hK k, c⟩
theorem obsG_eq {n : Nat} {fa : List Fact} {fn : List DD} {g : Addr → Option Obj} {s : Shared} (h : ∀ a, g a = s.heap.get? a) : obsG n fa fn g = (hook n fa fn).obs s := by
  rw [show g = s.heap.get? from funext h] <;> rfl
section
variable {fa : List Fact} {fn : List DD} {K : Frag}
theorem Says.fact (c : Says fa fn K) (i : Nat) {f : Fact} (h : fa[i]? = some f := by rfl) : f K = true := by
  have c1 := (Bool.and_eq_true_iff.mp (congrArg (fun z : Al => z.1) c)).1
  exact List.all_eq_true.mp c1 f (List.mem_of_getElem? h)
theorem Says.def_ (c : Says fa fn K) (i : Nat) {d : DD} (h : fn[i]? = some d := by rfl) : ∃ fd, FunD K d.name d.qual d.params d.body d.scope (d.dvs K) (d.kws K) (d.adr K) fd := by
  have c2 := (Bool.and_eq_true_iff.mp (congrArg (fun z : Al => z.1) c)).2
  have e : fn.map (fun d => seen K (d.adr K)) = fn.map DD.want := congrArg (fun z : Al => z.2) c
  have e2 : (fn.map fun d => seen K (d.adr K))[i]? = (fn.map DD.want)[i]? := by rw [e]
  rw [List.getElem?_map, List.getElem?_map, h] at e2
  exact DD.funD (Option.some.inj e2) (List.all_eq_true.mp c2 d (List.mem_of_getElem? h))
end
/-! ### facts -/
def fHe (f : He.Fa) : Fact := fun K => f.ok K
/-- a property's getter -/
def pg (K : Frag) (C : Addr) (f : Str) : Addr := match PySem.W.recIn K (ma K C f) "property" with
  | some (.ref g :: _) => g
  | _ => 0
def fProp (x f : Str) : Fact := fun K => decide (PySem.W.findIn K (.ref (ga K x)) f = some (some (.ref (ma K (ga K x) f)))) &&
  (decide (PySem.W.specialIn K (.ref (ma K (ga K x) f)) "__get__" = some (some (.builtin "property.__get__"))) &&
    (decide (PySem.W.takesIn K (.ref (ma K (ga K x) f)) = some true) && (match PySem.W.recIn K (ma K (ga K x) f) "property" with
      | some (.ref g :: _) => decide (g = pg K (ga K x) f)
      | _ => false)))
theorem prop_ok {K : Frag} {x f : Str} (c : fProp x f K = true) : PropOf K (ga K x) f (ma K (ga K x) f) (pg K (ga K x) f) := by
  obtain ⟨c1, c⟩ := Bool.and_eq_true_iff.mp c
  obtain ⟨c2, c⟩ := Bool.and_eq_true_iff.mp c
  obtain ⟨c3, c4⟩ := Bool.and_eq_true_iff.mp c
  refine ⟨of_decide_eq_true c1, of_decide_eq_true c2, of_decide_eq_true c3, ?_⟩
  split at c4
  · rename_i g r e
    rw [← of_decide_eq_true c4]
    exact ⟨r, e⟩
  · cases c4
def fCon (x f : Str) (i : Int) : Fact := fun K => match PySem.W.findIn K (.ref (ga K x)) f with
  | some (some (.int j t)) => decide (j = i) && (decide (PySem.W.specialIn K (.int j t) "__get__" = some none) && !PySem.W.copiedNames.contains f)
  | _ => false
theorem con_ok {K : Frag} {x f : Str} {i : Int} (c : fCon x f i K = true) : ∃ u, Con K (ga K x) f (.int i) u := by
  unfold fCon at c
  split at c
  · rename_i j t e
    obtain ⟨c1, c⟩ := Bool.and_eq_true_iff.mp c
    obtain ⟨c2, c3⟩ := Bool.and_eq_true_iff.mp c
    refine ⟨.int j t, e, ⟨t, by rw [of_decide_eq_true c1]⟩, of_decide_eq_true c2, ?_⟩
    simpa using c3
  · cases c
def fCallO (x : Str) : Fact := fun K => decide (PySem.W.findIn K (.ref (ga K x)) "__call__" = some (some (.ref (ma K (ga K x) "__call__")))) && (PySem.W.isFn K (.ref (ma K (ga K x) "__call__")) && PySem.W.fnIn K (ma K (ga K x) "__call__"))
theorem callO_ok {K : Frag} {x : Str} (c : fCallO x K = true) : StX.CallO K (ga K x) (ma K (ga K x) "__call__") := by
  obtain ⟨c1, c⟩ := Bool.and_eq_true_iff.mp c
  obtain ⟨c2, c3⟩ := Bool.and_eq_true_iff.mp c
  exact ⟨of_decide_eq_true c1, c2, c3⟩
end DH

set_option maxHeartbeats 4000000
namespace K68
open PySem PySem.Spec PyProof.Rows L2 DL
/-! ### what each def is worth -/
@[reducible] def t_law_start : TSD := (sRet (eLstO [(eCB mList [(eVar 0)]), (eC (.int 0)), (eC (.int 0)), (eC (.int 0))]))
@[irreducible] def m_law_start : M := bodyM 1 (t_law_start)
@[reducible] def t_law_mix : TSD := (sSeq (sAsg (eOp mMod (eCB mInt [(eOp mAdd (eOp mMul (eVar 0) (eC (.int 6364136223846793005))) (eC (.int 1442695040888963407)))]) (eOp mPow (eC (.int 2)) (eC (.int 64)))) (dName 0))
  (sSeq (sAsg (eOp mXor (eVar 0) (eOp mDiv (eVar 0) (eOp mPow (eC (.int 2)) (eC (.int 29))))) (dName 0))
  (sSeq (sAsg (eOp mMod (eCB mInt [(eOp mAdd (eOp mMul (eVar 0) (eC (.int 3935559000370003845))) (eC (.int 2691343689449507681)))]) (eOp mPow (eC (.int 2)) (eC (.int 64)))) (dName 0))
  (sRet (eOp mXor (eVar 0) (eOp mDiv (eVar 0) (eOp mPow (eC (.int 2)) (eC (.int 32)))))))))
@[irreducible] def m_law_mix : M := bodyM 1 (t_law_mix)
@[reducible] def t_law_next (m_law_mix : M) : TSD := (sSeq (sAsg (eOp mAdd (eOp mIx (eVar 0) (eC (.int 3))) (eC (.int 1))) (dSub mSet (eVar 0) (eC (.int 3))))
  (sSeq (sIf (bVal (eOp mEq (eOp mIx (eVar 0) (eC (.int 2))) (eC (.int 0))))
  (sSeq (sAsg (eCall (m_law_mix) [(eOp mAdd (eOp mIx (eVar 0) (eC (.int 3))) (eOp mMul (eC (.int 7919)) (eCB mLen [(eOp mIx (eVar 0) (eC (.int 0)))])))]) (dName 3))
  (sSeq (sIf (bVal (eOp mLt (eOp mIx (eVar 0) (eC (.int 1))) (eCB mLen [(eOp mIx (eVar 0) (eC (.int 0)))])))
  (sSeq (sAsg (eCB mAbs [(eOp mIx (eOp mIx (eVar 0) (eC (.int 0))) (eOp mIx (eVar 0) (eC (.int 1))))]) (dName 3))
  (sIf (bVal (eOp mLt (eVar 3) (eOp mPow (eC (.int 10)) (eC (.int 18)))))
  (sAsg (eCall (m_law_mix) [(eOp mAdd (eCall (m_law_mix) [(eVar 3)]) (eOp mIx (eVar 0) (eC (.int 1))))]) (dName 3))
  sNil))
  sNil)
  (sSeq (sAsg (eOp mAdd (eOp mIx (eVar 0) (eC (.int 1))) (eC (.int 1))) (dSub mSet (eVar 0) (eC (.int 1))))
  (sAsg (eVar 3) (dSub mSet (eVar 0) (eC (.int 2)))))))
  sNil)
  (sSeq (sAsg (eOp mMod (eCB mInt [(eOp mIx (eVar 0) (eC (.int 2)))]) (eVar 1)) (dName 2))
  (sSeq (sAsg (eOp mDiv (eOp mIx (eVar 0) (eC (.int 2))) (eVar 1)) (dSub mSet (eVar 0) (eC (.int 2))))
  (sRet (eVar 2))))))
@[irreducible] def m_law_next : M := bodyM 4 (t_law_next m_law_mix)
@[reducible] def t_law_rule (m_law_next : M) : TSD := (sSeq (sAsg (eC (.int 1)) (dName 2))
  (sSeq (sIf (bVal (eOp mEq (eCall (m_law_next) [(eVar 0), (eC (.int 3))]) (eC (.int 0))))
  (sAsg (eOp mAdd (eC (.int 1)) (eCall (m_law_next) [(eVar 0), (eVar 1)])) (dName 2))
  sNil)
  (sSeq (sAsg (eLstO [(eTup [(eVar 2), (eOp mAdd (eC (.int 1)) (eCall (m_law_next) [(eVar 0), (eC (.int 8))]))])]) (dName 3))
  (sSeq (sFor (itR1 [(eCall (m_law_next) [(eVar 0), (eC (.int 4))])]) (dName 4)
  (sSeq (sIf (bVal (eOp mGt (eOp mMul (eC (.int 2)) (eVar 2)) (eVar 1)))
  sBreak
  sNil)
  (sSeq (sAsg (eOp mMul (eVar 2) (eOp mAdd (eC (.int 2)) (eCall (m_law_next) [(eVar 0), (eOp mSub (eOp mDiv (eVar 1) (eVar 2)) (eC (.int 1)))]))) (dName 2))
  (sExpr (eAppend (eVar 3) [(eTup [(eVar 2), (eOp mAdd (eC (.int 1)) (eCall (m_law_next) [(eVar 0), (eC (.int 8))]))])])))))
  (sRetF (eVar 3))))))
@[irreducible] def m_law_rule : M := bodyM 5 (t_law_rule m_law_next)
@[reducible] def t_law_size (m_law_next : M) : TSD := (sSeq (sIf (bVal (eOp mEq (eCall (m_law_next) [(eVar 0), (eC (.int 4))]) (eC (.int 0))))
  (sRet (eOp mAdd (eC (.int 1)) (eCall (m_law_next) [(eVar 0), (eC (.int 1000))])))
  sNil)
  (sRet (eOp mAdd (eC (.int 1)) (eCall (m_law_next) [(eVar 0), (eC (.int 40))]))))
@[irreducible] def m_law_size : M := bodyM 1 (t_law_size m_law_next)
@[reducible] def t_law_stands : TSD := (sSeq (sAsg (eLst []) (dName 2))
  (sSeq (sFor (itSeq (eVar 0)) (dTup 2 (dCons (dName 3) (dCons (dName 4) dNil)))
  (sSeq (sAsg (eOp mSub (eVar 1) (eOp mMod (eCB mInt [(eVar 1)]) (eVar 3))) (dName 5))
  (sAsg (eOp mAdd (eVar 2) (eLc [6] (itR1 [(eVar 4)]) (dName 6) (bVal (eOp mGe (eVar 5) (eOp mMul (eVar 6) (eVar 3)))) (eOp mSub (eVar 5) (eOp mMul (eVar 6) (eVar 3))))) (dName 2))))
  (sRet (eSortSet [(eVar 2)]))))
@[irreducible] def m_law_stands : M := bodyM 7 (t_law_stands)
@[reducible] def t_law_ages (m_law_stands : M) : TSD := (sSeq (sAsg (eCB mMax [(eLc [4, 5] (itSeq (eVar 0)) (dTup 2 (dCons (dName 4) (dCons (dName 5) dNil))) bYes (eOp mMul (eVar 4) (eVar 5)))]) (dName 1))
  (sSeq (sAsg (eLstO []) (dName 2))
  (sSeq (sFor (itR2 [(eVar 1), (eOp mAdd (eVar 1) (eOp mIx (eOp mIx (eVar 0) (eNeg (eC (.int 1)))) (eC (.int 0))))]) (dName 3)
  (sExpr (eAppend (eVar 2) [(eLc [6] (itRev [(eCall (m_law_stands) [(eVar 0), (eVar 3)])]) (dName 6) bYes (eOp mSub (eVar 3) (eVar 6)))])))
  (sRetF (eVar 2)))))
@[irreducible] def m_law_ages : M := bodyM 7 (t_law_ages m_law_stands)
@[reducible] def t_law_most (m_law_stands : M) : TSD := (sSeq (sAsg (eC (.int 0)) (dName 3))
  (sSeq (sAsg (eCB mMax [(eLc [9, 10] (itSeq (eVar 0)) (dTup 2 (dCons (dName 9) (dCons (dName 10) dNil))) bYes (eOp mMul (eVar 9) (eVar 10)))]) (dName 4))
  (sSeq (sFor (itR1 [(eOp mAdd (eVar 4) (eOp mIx (eOp mIx (eVar 0) (eNeg (eC (.int 1)))) (eC (.int 0))))]) (dName 5)
  (sSeq (sAsg (eVar 1) (dName 6))
  (sSeq (sAsg (eVar 5) (dName 7))
  (sSeq (sFor (itRev [(eCall (m_law_stands) [(eVar 0), (eVar 5)])]) (dName 8)
  (sSeq (sAsg (eOp mAdd (eVar 6) (eCB mMin2 [(eVar 1), (eOp mMul (eVar 2) (eOp mSub (eVar 7) (eVar 8)))])) (dName 6))
  (sAsg (eVar 8) (dName 7))))
  (sAsg (eCB mMax2 [(eVar 3), (eVar 6)]) (dName 3))))))
  (sRet (eVar 3)))))
@[irreducible] def m_law_most : M := bodyM 11 (t_law_most m_law_stands)
@[reducible] def t_law_needed : TSD := (sSeq (sAsg (eC (.int 0)) (dName 2))
  (sSeq (sFor (itSeq (eVar 0)) (dName 3)
  (sSeq (sAsg (eLc [5] (itSeq (eVar 3)) (dName 5) (bVal (eOp mGe (eVar 5) (eVar 1))) (eOp mSub (eVar 5) (eVar 1))) (dName 4))
  (sSeq (sIf (bVal (eOp mEq (eCB mLen [(eVar 4)]) (eC (.int 0))))
  (sRet (eNeg (eC (.int 1))))
  sNil)
  (sAsg (eCB mMax2 [(eVar 2), (eCB mMin [(eVar 4)])]) (dName 2)))))
  (sRet (eVar 2))))
@[irreducible] def m_law_needed : M := bodyM 6 (t_law_needed)
@[reducible] def t_law_wants (m_law_next : M) (m_law_needed : M) : TSD := (sSeq (sAsg (eLstO []) (dName 3))
  (sSeq (sFor (itR1 [(eVar 2)]) (dName 4)
  (sSeq (sAsg (eOp mIx (eVar 1) (eCall (m_law_next) [(eVar 0), (eCB mLen [(eVar 1)])])) (dName 5))
  (sSeq (sAsg (eCall (m_law_next) [(eVar 0), (eC (.int 30))]) (dName 6))
  (sSeq (sAsg (eCall (m_law_next) [(eVar 0), (eC (.int 12))]) (dName 7))
  (sSeq (sAsg (eCall (m_law_needed) [(eVar 5), (eVar 6)]) (dName 8))
  (sSeq (sAsg (eCall (m_law_next) [(eVar 0), (eC (.int 4))]) (dName 9))
  (sIf (bVal (eOp mEq (eVar 9) (eC (.int 0))))
  (sExpr (eAppend (eVar 3) [(eTup [(eVar 6), (eVar 7)])]))
  (sIf (bAnd (bVal (eOp mEq (eVar 9) (eC (.int 1)))) (bVal (eOp mEq (eCall (m_law_next) [(eVar 0), (eC (.int 3))]) (eC (.int 0)))))
  (sExpr (eAppend (eVar 3) [(eTup [(eCall (m_law_next) [(eVar 0), (eOp mPow (eC (.int 10)) (eC (.int 6)))]), (eCall (m_law_next) [(eVar 0), (eOp mPow (eC (.int 10)) (eC (.int 6)))])])]))
  (sIf (bAnd (bVal (eOp mLt (eVar 9) (eC (.int 3)))) (bVal (eOp mGt (eVar 8) (eC (.int 0)))))
  (sExpr (eAppend (eVar 3) [(eTup [(eVar 6), (eOp mSub (eVar 8) (eC (.int 1)))])]))
  (sIf (bVal (eOp mGe (eVar 8) (eC (.int 0))))
  (sExpr (eAppend (eVar 3) [(eTup [(eVar 6), (eVar 8)])]))
  (sExpr (eAppend (eVar 3) [(eTup [(eVar 6), (eC (.int 999999))])]))))))))))))
  (sRetF (eVar 3))))
@[irreducible] def m_law_wants : M := bodyM 10 (t_law_wants m_law_next m_law_needed)
@[reducible] def t_Rule_may_follow (K : Frag) : TSD := (sSeq (sIf (bOr (bVal (eOp mGe (eCB mLen [(eVar 1)]) (eCon (DH.ga K "Rule") "MOST_ROWS" (.int 4) (eVar 0)))) (bOr (bVal (eOp mLt (eVar 2) (eC (.int 1)))) (bVal (eOp mGt (eVar 2) (eCon (DH.ga K "Rule") "MOST_PERIOD" (.int 200) (eVar 0))))))
  (sRet (eC (.bl false)))
  sNil)
  (sSeq (sIf (bVal (eOp mGt (eCB mLen [(eVar 1)]) (eC (.int 0))))
  (sSeq (sAsg (eOp mIx (eOp mIx (eVar 1) (eNeg (eC (.int 1)))) (eC (.int 0))) (dName 4))
  (sIf (bOr (bVal (eOp mLe (eVar 2) (eVar 4))) (bVal (eOp mNe (eOp mMod (eVar 2) (eVar 4)) (eC (.int 0)))))
  (sRet (eC (.bl false)))
  sNil))
  sNil)
  (sRet (eChain mLe mLe (eC (.int 1)) (eVar 3) (eCon (DH.ga K "Rule") "MOST_COUNT" (.int 8) (eVar 0))))))
@[irreducible] def m_Rule_may_follow (K : Frag) : M := bodyM 5 (t_Rule_may_follow K)
@[reducible] def t_Rule_init (K : Frag) (m_Rule_may_follow : Frag → M) : TSD := (sSeq (sAsg (eLstO []) (dName 2))
  (sSeq (sFor (itSeq (eVar 1)) (dTup 2 (dCons (dName 3) (dCons (dName 4) dNil)))
  (sSeq (sIf (bNot (bVal (eMeth (DH.ga K "Rule") "_may_follow" (m_Rule_may_follow K) (eVar 0) [(eVar 2), (eVar 3), (eVar 4)])))
  sNever
  sNil)
  (sExpr (eAppend (eVar 2) [(eTup [(eVar 3), (eVar 4)])]))))
  (sSeq (sIf (bVal (eOp mEq (eCB mLen [(eVar 2)]) (eC (.int 0))))
  sNever
  sNil)
  (sFldD (DH.ga K "Rule") "rows" (eVar 0) (eCB mTupL [(eVar 2)])))))
@[irreducible] def m_Rule_init (K : Frag) : M := bodyM 5 (t_Rule_init K m_Rule_may_follow)
@[reducible] def t_law_keeps : TSD := (sSeq (sFor (itSeq (eVar 0)) (dName 3)
  (sIf (bNot (bVal (eCB mAny [(eLc [4] (itSeq (eVar 3)) (dName 4) bYes (eChain mLe mLe (eVar 1) (eVar 4) (eOp mAdd (eVar 1) (eVar 2))))])))
  (sRet (eC (.bl false)))
  sNil))
  (sRet (eC (.bl true))))
@[irreducible] def m_law_keeps : M := bodyM 5 (t_law_keeps)
@[reducible] def t_Rule_settled (K : Frag) : TSD := (sRet (eCB mMax [(eLc [1, 2] (itTup (eFld (DH.ga K "Rule") "rows" (eVar 0))) (dTup 2 (dCons (dName 1) (dCons (dName 2) dNil))) bYes (eOp mMul (eVar 1) (eVar 2)))]))
@[irreducible] def m_Rule_settled (K : Frag) : M := bodyM 3 (t_Rule_settled K)
@[reducible] def t_Rule_period (K : Frag) : TSD := (sRet (eOp mIx (eOp mIx (eFld (DH.ga K "Rule") "rows" (eVar 0)) (eNeg (eC (.int 1)))) (eC (.int 0))))
@[irreducible] def m_Rule_period (K : Frag) : M := bodyM 1 (t_Rule_period K)
@[reducible] def t_Rule_ages (K : Frag) : TSD := (sSeq (sAsg eDicO (dName 2))
  (sSeq (sFor (itTup (eFld (DH.ga K "Rule") "rows" (eVar 0))) (dTup 2 (dCons (dName 3) (dCons (dName 4) dNil)))
  (sSeq (sAsg (eOp mMod (eVar 1) (eVar 3)) (dName 5))
  (sFor (itR1 [(eVar 4)]) (dName 6)
  (sIf (bVal (eOp mLe (eOp mAdd (eVar 5) (eOp mMul (eVar 6) (eVar 3))) (eVar 1)))
  (sAsg (eC (.bl true)) (dSub mSet (eVar 2) (eOp mAdd (eVar 5) (eOp mMul (eVar 6) (eVar 3)))))
  sNil))))
  (sRet (eCB mSortDI [(eVar 2)]))))
@[irreducible] def m_Rule_ages (K : Frag) : M := bodyM 7 (t_Rule_ages K)
@[reducible] def t_Rule_call (K : Frag) (m_Rule_ages : Frag → M) : TSD := (sRet (eLc [2] (itRev [(eMeth (DH.ga K "Rule") "_ages" (m_Rule_ages K) (eVar 0) [(eVar 1)])]) (dName 2) bYes (eOp mSub (eVar 1) (eVar 2))))
@[irreducible] def m_Rule_call (K : Frag) : M := bodyM 3 (t_Rule_call K m_Rule_ages)
@[reducible] def t_keeps (K : Frag) (m_Rule_settled : Frag → M) (m_Rule_period : Frag → M) (m_Rule_call : Frag → M) : TSD := (sSeq (sFor (itR2 [(eProp (DH.ga K "Rule") (m_Rule_settled K) (eVar 0)), (eOp mAdd (eProp (DH.ga K "Rule") (m_Rule_settled K) (eVar 0)) (eProp (DH.ga K "Rule") (m_Rule_period K) (eVar 0)))]) (dName 3)
  (sIf (bNot (bVal (eCB mAny [(eLc [4] (itSeq (eCallO (DH.ga K "Rule") (m_Rule_call K) (eVar 0) [(eVar 3)])) (dName 4) bYes (eChain mLe mLe (eVar 1) (eOp mSub (eVar 3) (eVar 4)) (eOp mAdd (eVar 1) (eVar 2))))])))
  (sRet (eC (.bl false)))
  sNil))
  (sRet (eC (.bl true))))
@[irreducible] def m_keeps (K : Frag) : M := bodyM 5 (t_keeps K m_Rule_settled m_Rule_period m_Rule_call)
@[reducible] def t_Rule_gaps (K : Frag) (m_Rule_ages : Frag → M) : TSD := (sSeq (sAsg (eLstO []) (dName 2))
  (sSeq (sAsg (eC (.int 0)) (dName 3))
  (sSeq (sFor (itSeq (eMeth (DH.ga K "Rule") "_ages" (m_Rule_ages K) (eVar 0) [(eVar 1)])) (dName 4)
  (sSeq (sExpr (eAppend (eVar 2) [(eOp mSub (eVar 4) (eVar 3))]))
  (sAsg (eVar 4) (dName 3))))
  (sRetF (eVar 2)))))
@[irreducible] def m_Rule_gaps (K : Frag) : M := bodyM 5 (t_Rule_gaps K m_Rule_ages)
@[reducible] def t_room_at (K : Frag) (m_Rule_gaps : Frag → M) : TSD := (sRet (eOp mAdd (eVar 2) (eCB mSum [(eLc [4] (itSeq (eMeth (DH.ga K "Rule") "gaps" (m_Rule_gaps K) (eVar 0) [(eVar 1)])) (dName 4) bYes (eCB mMin2 [(eVar 2), (eOp mMul (eVar 3) (eVar 4))]))])))
@[irreducible] def m_room_at (K : Frag) : M := bodyM 5 (t_room_at K m_Rule_gaps)
@[reducible] def t_greatest_room (K : Frag) (m_Rule_settled : Frag → M) (m_Rule_period : Frag → M) (m_room_at : Frag → M) : TSD := (sSeq (sAsg (eTup [(eC (.int 0)), (eC (.int 0))]) (dName 3))
  (sSeq (sFor (itR1 [(eOp mAdd (eProp (DH.ga K "Rule") (m_Rule_settled K) (eVar 0)) (eProp (DH.ga K "Rule") (m_Rule_period K) (eVar 0)))]) (dName 4)
  (sSeq (sAsg (eCall (m_room_at K) [(eVar 0), (eVar 4), (eVar 1), (eVar 2)]) (dName 5))
  (sIf (bVal (eOp mGt (eVar 5) (eOp mIx (eVar 3) (eC (.int 0)))))
  (sAsg (eTup [(eVar 5), (eVar 4)]) (dName 3))
  sNil)))
  (sRet (eVar 3))))
@[irreducible] def m_greatest_room (K : Frag) : M := bodyM 6 (t_greatest_room K m_Rule_settled m_Rule_period m_room_at)
@[reducible] def t_best_rule (K : Frag) (m_keeps : Frag → M) (m_greatest_room : Frag → M) : TSD := (sSeq (sAsg (eC .non) (dName 4))
  (sSeq (sAsg (eC (.int 0)) (dName 5))
  (sSeq (sFor (itEnum [(eVar 0)]) (dTup 2 (dCons (dName 6) (dCons (dName 7) dNil)))
  (sIf (bVal (eCB mAll [(eLc [9, 10] (itSeq (eVar 1)) (dTup 2 (dCons (dName 9) (dCons (dName 10) dNil))) bYes (eCall (m_keeps K) [(eVar 7), (eVar 9), (eVar 10)]))]))
  (sSeq (sAsg (eOp mIx (eCall (m_greatest_room K) [(eVar 7), (eVar 2), (eVar 3)]) (eC (.int 0))) (dName 8))
  (sIf (bOr (bVal (eOp mIs (eVar 4) (eC .non))) (bVal (eOp mLt (eVar 8) (eVar 5))))
  (sSeq (sAsg (eVar 6) (dName 4))
  (sAsg (eVar 8) (dName 5)))
  sNil))
  sNil))
  (sRet (eVar 4)))))
@[irreducible] def m_best_rule (K : Frag) : M := bodyM 11 (t_best_rule K m_keeps m_greatest_room)
@[reducible] def t_law_is : TSD := (sSeq (sIf (bVal (eOp mIs (eVar 1) (eC .non)))
  (sRet (eOp mIs (eVar 0) (eC .non)))
  sNil)
  (sSeq (sIf (bVal (eCB mIsi [(eVar 1), (eC (.ty "int"))]))
  (sRet (eAnd (eCB mIsi [(eVar 0), (eC (.ty "int"))]) (eAnd (eNot (eCB mIsi [(eVar 0), (eC (.ty "bool"))])) (eOp mEq (eVar 0) (eVar 1)))))
  sNil)
  sNever))
@[irreducible] def m_law_is : M := bodyM 4 (t_law_is)
@[reducible] def t_law_best (K : Frag) (m_law_keeps : M) (m_best_rule : Frag → M) (m_law_is : M) : TSD := (sSeq (sAsg (eLc [11] (itR1 [(eCB mLen [(eVar 0)])]) (dName 11) (bVal (eCB mAll [(eLc [12, 13] (itSeq (eVar 3)) (dTup 2 (dCons (dName 12) (dCons (dName 13) dNil))) bYes (eCall (m_law_keeps) [(eOp mIx (eVar 1) (eVar 11)), (eVar 12), (eVar 13)]))])) (eVar 11)) (dName 6))
  (sSeq (sAsg (eCB mList [(eVar 0)]) (dName 7))
  (sSeq (sAsg (eCB mList [(eVar 3)]) (dName 8))
  (sSeq (sAsg (eCall (m_best_rule K) [(eVar 7), (eVar 8), (eVar 4), (eVar 5)]) (dName 9))
  (sSeq (sIf (bOr (bVal (eOp mNe (eCB mLen [(eVar 7)]) (eCB mLen [(eVar 0)]))) (bVal (eOp mNe (eVar 8) (eVar 3))))
  (sRet (eC (.bl false)))
  sNil)
  (sSeq (sIf (bVal (eOp mEq (eCB mLen [(eVar 6)]) (eC (.int 0))))
  (sRet (eOp mIs (eVar 9) (eC .non)))
  sNil)
  (sSeq (sAsg (eCB mMin [(eLc [11] (itSeq (eVar 6)) (dName 11) bYes (eOp mIx (eVar 2) (eVar 11)))]) (dName 10))
  (sRet (eCall (m_law_is) [(eVar 9), (eOp mIx (eLc [11] (itSeq (eVar 6)) (dName 11) (bVal (eOp mEq (eOp mIx (eVar 2) (eVar 11)) (eVar 10))) (eVar 11)) (eC (.int 0)))])))))))))
@[irreducible] def m_law_best (K : Frag) : M := bodyM 14 (t_law_best K m_law_keeps m_best_rule m_law_is)
@[reducible] def t_law (K : Frag) (m_law_start : M) (m_law_next : M) (m_law_rule : M) (m_law_size : M) (m_law_ages : M) (m_law_most : M) (m_law_wants : M) (m_Rule_init : Frag → M) (m_law_keeps : M) (m_keeps : Frag → M) (m_law_best : Frag → M) (m_best_rule : Frag → M) : TSD := (sSeq (sAsg (eCall (m_law_start) [(eVar 0)]) (dName 1))
  (sSeq (sAsg (eOp mAdd (eC (.int 1)) (eCall (m_law_next) [(eVar 1), (eC (.int 4))])) (dName 2))
  (sSeq (sAsg (eCall (m_law_next) [(eVar 1), (eC (.int 4))]) (dName 3))
  (sSeq (sIf (bVal (eOp mEq (eCall (m_law_next) [(eVar 1), (eC (.int 16))]) (eC (.int 0))))
  (sSeq (sAsg (eC (.int 8)) (dName 2))
  (sAsg (eC (.int 8)) (dName 3)))
  sNil)
  (sSeq (sAsg (eLcO [11] (itR1 [(eVar 2)]) (dName 11) bYes (eCall (m_law_rule) [(eVar 1), (eC (.int 10))])) (dName 4))
  (sSeq (sIf (bVal (eOp mEq (eCall (m_law_next) [(eVar 1), (eC (.int 2))]) (eC (.int 0))))
  (sAsg (eCB mList [(eOp mIx (eVar 4) (eCall (m_law_next) [(eVar 1), (eVar 2)]))]) (dSub mSet (eVar 4) (eCall (m_law_next) [(eVar 1), (eVar 2)])))
  sNil)
  (sSeq (sFrz 4 (sAsg (eCall (m_law_size) [(eVar 1)]) (dName 5)))
  (sSeq (sAsg (eCall (m_law_size) [(eVar 1)]) (dName 6))
  (sSeq (sAsg (eLc [17] (itSeq (eVar 4)) (dName 17) bYes (eCall (m_law_ages) [(eVar 17)])) (dName 7))
  (sSeq (sAsg (eLc [17] (itSeq (eVar 4)) (dName 17) bYes (eCall (m_law_most) [(eVar 17), (eVar 5), (eVar 6)])) (dName 8))
  (sSeq (sAsg (eCall (m_law_wants) [(eVar 1), (eVar 7), (eVar 3)]) (dName 9))
  (sSeq (sAsg (eLc [17] (itSeq (eVar 4)) (dName 17) bYes (eMakeF (DH.ga K "Rule") (m_Rule_init K) [(eCB mList [(eVar 17)])])) (dName 10))
  (sSeq (sFor (itR1 [(eVar 2)]) (dName 11)
  (sFor (itSeq (eOp mAdd (eVar 9) (eLst [(eTup [(eC (.int 0)), (eC (.int 0))]), (eTup [(eC (.int 0)), (eC (.int 999999))]), (eTup [(eC (.int 999999)), (eC (.int 999999))])]))) (dTup 2 (dCons (dName 13) (dCons (dName 14) dNil)))
  (sSeq (sAsg (eCall (m_law_keeps) [(eOp mIx (eVar 7) (eVar 11)), (eVar 13), (eVar 14)]) (dName 15))
  (sSeq (sAsg (eCall (m_keeps K) [(eOp mIx (eVar 10) (eVar 11)), (eVar 13), (eVar 14)]) (dName 16))
  (sIf (bOr (bAnd (bVal (eVar 15)) (bVal (eOp mIsNot (eVar 16) (eC (.bl true))))) (bAnd (bNot (bVal (eVar 15))) (bVal (eOp mIsNot (eVar 16) (eC (.bl false))))))
  (sRet (eC (.bl false)))
  sNil)))))
  (sSeq (sFor (itSeq (eLst [(eVar 9), (eLst []), (eOp mAdd (eVar 9) (eLst [(eTup [(eC (.int 999999)), (eC (.int 0))])]))])) (dName 12)
  (sIf (bNot (bVal (eCall (m_law_best K) [(eVar 10), (eVar 7), (eVar 8), (eSlL (eVar 12) (oSome (eNeg (eC (.int 8)))) oNone), (eVar 5), (eVar 6)])))
  (sRet (eC (.bl false)))
  sNil))
  (sSeq (sIf (bNot (bVal (eCall (m_law_best K) [(eRevL (eVar 10)), (eRevL (eVar 7)), (eRevL (eVar 8)), (eVar 9), (eVar 5), (eVar 6)])))
  (sRet (eC (.bl false)))
  sNil)
  (sRet (eOp mIs (eCall (m_best_rule K) [(eLst []), (eCB mList [(eVar 9)]), (eVar 5), (eVar 6)]) (eC .non))))))))))))))))))
@[irreducible] def m_law (K : Frag) : M := bodyM 18 (t_law K m_law_start m_law_next m_law_rule m_law_size m_law_ages m_law_most m_law_wants m_Rule_init m_law_keeps m_keeps m_law_best m_best_rule)
end K68

set_option maxHeartbeats 4000000
namespace K68
open PySem PySem.Spec PyProof.Rows L2 DL
def top (i : Nat) : Stmt := PySem.Challenge.pw_whatcomesfree_k68_rules_that_keep.main.body.getD i (.Pass ⟨0, 0, 0, 0⟩)
abbrev s_law_start : Stmt := top 13
abbrev s_law_mix : Stmt := top 12
abbrev s_law_next : Stmt := top 14
abbrev s_law_rule : Stmt := top 16
abbrev s_law_size : Stmt := top 21
abbrev s_law_stands : Stmt := top 17
abbrev s_law_ages : Stmt := top 18
abbrev s_law_most : Stmt := top 22
abbrev s_law_needed : Stmt := top 20
abbrev s_law_wants : Stmt := top 23
abbrev s_Rule_may_follow : Stmt := inClass (top 5) 4
abbrev s_Rule_init : Stmt := inClass (top 5) 3
abbrev s_law_keeps : Stmt := top 19
abbrev s_Rule_settled : Stmt := inClass (top 5) 8
abbrev s_Rule_period : Stmt := inClass (top 5) 7
abbrev s_Rule_ages : Stmt := inClass (top 5) 9
abbrev s_Rule_call : Stmt := inClass (top 5) 10
abbrev s_keeps : Stmt := top 6
abbrev s_Rule_gaps : Stmt := inClass (top 5) 11
abbrev s_room_at : Stmt := top 8
abbrev s_greatest_room : Stmt := top 9
abbrev s_best_rule : Stmt := top 10
abbrev s_law_is : Stmt := top 15
abbrev s_law_best : Stmt := top 24
abbrev s_law : Stmt := top 25
/-! ### what the top holds -/
structure Txt (K : Frag) (mg : Str → Option Value) : Prop where
  f_abs : mg "abs" = none
  f_all : mg "all" = none
  f_any : mg "any" = none
  f_bool : mg "bool" = none
  f_enumerate : mg "enumerate" = none
  f_int : mg "int" = none
  f_isinstance : mg "isinstance" = none
  f_len : mg "len" = none
  f_list : mg "list" = none
  f_max : mg "max" = none
  f_min : mg "min" = none
  f_range : mg "range" = none
  f_reversed : mg "reversed" = none
  f_set : mg "set" = none
  f_sorted : mg "sorted" = none
  f_sum : mg "sum" = none
  f_tuple : mg "tuple" = none
  g_Rule : mg "Rule" = some (.ref (DH.ga K "Rule"))
  g__law_ages : mg "_law_ages" = some (.ref (DH.ga K "_law_ages"))
  g__law_best : mg "_law_best" = some (.ref (DH.ga K "_law_best"))
  g__law_is : mg "_law_is" = some (.ref (DH.ga K "_law_is"))
  g__law_keeps : mg "_law_keeps" = some (.ref (DH.ga K "_law_keeps"))
  g__law_mix : mg "_law_mix" = some (.ref (DH.ga K "_law_mix"))
  g__law_most : mg "_law_most" = some (.ref (DH.ga K "_law_most"))
  g__law_needed : mg "_law_needed" = some (.ref (DH.ga K "_law_needed"))
  g__law_next : mg "_law_next" = some (.ref (DH.ga K "_law_next"))
  g__law_rule : mg "_law_rule" = some (.ref (DH.ga K "_law_rule"))
  g__law_size : mg "_law_size" = some (.ref (DH.ga K "_law_size"))
  g__law_stands : mg "_law_stands" = some (.ref (DH.ga K "_law_stands"))
  g__law_start : mg "_law_start" = some (.ref (DH.ga K "_law_start"))
  g__law_wants : mg "_law_wants" = some (.ref (DH.ga K "_law_wants"))
  g_best_rule : mg "best_rule" = some (.ref (DH.ga K "best_rule"))
  g_greatest_room : mg "greatest_room" = some (.ref (DH.ga K "greatest_room"))
  g_keeps : mg "keeps" = some (.ref (DH.ga K "keeps"))
  g_room_at : mg "room_at" = some (.ref (DH.ga K "room_at"))
  c_Rule : Cls K (DH.ga K "Rule")
  k_Rule_MOST_ROWS : ∃ u, Con K (DH.ga K "Rule") "MOST_ROWS" (.int 4) u
  k_Rule_MOST_PERIOD : ∃ u, Con K (DH.ga K "Rule") "MOST_PERIOD" (.int 200) u
  k_Rule_MOST_COUNT : ∃ u, Con K (DH.ga K "Rule") "MOST_COUNT" (.int 8) u
  m_Rule__may_follow : Meth K (DH.ga K "Rule") "_may_follow" (DH.ma K (DH.ga K "Rule") "_may_follow")
  n_Rule_rows : NoAttr K (DH.ga K "Rule") "rows"
  m_Rule__ages : Meth K (DH.ga K "Rule") "_ages" (DH.ma K (DH.ga K "Rule") "_ages")
  p_Rule_settled : PropOf K (DH.ga K "Rule") "settled" (DH.ma K (DH.ga K "Rule") "settled") (DH.pg K (DH.ga K "Rule") "settled")
  p_Rule_period : PropOf K (DH.ga K "Rule") "period" (DH.ma K (DH.ga K "Rule") "period") (DH.pg K (DH.ga K "Rule") "period")
  o_Rule : StX.CallO K (DH.ga K "Rule") (DH.ma K (DH.ga K "Rule") "__call__")
  m_Rule_gaps : Meth K (DH.ga K "Rule") "gaps" (DH.ma K (DH.ga K "Rule") "gaps")
  mk_Rule : Mk K (DH.ga K "Rule") (DH.ma K (DH.ga K "Rule") "__init__")
section
variable {P : Program} {w : World} {K : Frag} {mg : Str → Option Value}
abbrev N_law_start : List Str := ["script"]
theorem sc_law_start : FnScope N_law_start ["script"] (defScope s_law_start) := ⟨rfl, rfl, rfl, by decide +kernel, rfl, by decide +kernel, by decide +kernel⟩
theorem ok_law_start (F : ∃ fd, FunD K "_law_start" "_law_start" (defArgs s_law_start) (defBody s_law_start) (defScope s_law_start) [] [] (DH.ga K "_law_start") fd) (T : Txt K mg) : Ok P w K mg 2 (DH.ga K "_law_start") ["script"] (m_law_start) := by
  obtain ⟨fd, F⟩ := F
  have nd := sc_law_start.nd
  refine ⟨fd, fun base => fnd_ok F sc_law_start (fun cdv A outer s H E hr => ?_) (fun ds O Φ _ h => by unfold m_law_start at h; exact h), F.bindsN (fun _ _ _ _ _ _ us hl => match us, hl with | [_], _ => rfl), F.kp, fun s us hl => F.bindsA (fun _ _ _ _ _ _ us hl => match us, hl with | [_], _ => rfl) s us hl⟩
  have hu := hu_of hr
  exact (psd_one (psd_ret (pd_lstO (pad_cons (pd_callTy (as := [(eVar 0)]) call_listD (by rfl) T.f_list bt_list (pad_cons (pd_var (pv 0)) pad_nil)) (pad_cons pd_int (pad_cons pd_int (pad_cons pd_int pad_nil)))))))
abbrev N_law_mix : List Str := ["number"]
theorem sc_law_mix : FnScope N_law_mix ["number"] (defScope s_law_mix) := ⟨rfl, rfl, rfl, by decide +kernel, rfl, by decide +kernel, by decide +kernel⟩
theorem ok_law_mix (F : ∃ fd, FunD K "_law_mix" "_law_mix" (defArgs s_law_mix) (defBody s_law_mix) (defScope s_law_mix) [] [] (DH.ga K "_law_mix") fd) (T : Txt K mg) : Ok P w K mg 2 (DH.ga K "_law_mix") ["number"] (m_law_mix) := by
  obtain ⟨fd, F⟩ := F
  have nd := sc_law_mix.nd
  refine ⟨fd, fun base => fnd_ok F sc_law_mix (fun cdv A outer s H E hr => ?_) (fun ds O Φ _ h => by unfold m_law_mix at h; exact h), F.bindsN (fun _ _ _ _ _ _ us hl => match us, hl with | [_], _ => rfl), F.kp, fun s us hl => F.bindsA (fun _ _ _ _ _ _ us hl => match us, hl with | [_], _ => rfl) s us hl⟩
  have hu := hu_of hr
  exact (psd_cons (psd_set (i := 0) nd rfl (Or.inl rfl) (pd_op opd_mod (pd_callTy (as := [(eOp mAdd (eOp mMul (eVar 0) (eC (.int 6364136223846793005))) (eC (.int 1442695040888963407)))]) call_intD (by rfl) T.f_int bt_int (pad_cons (pd_op opd_add (pd_op opd_mul (pd_var (pv 0)) pd_int) pd_int) pad_nil)) (pd_op opd_pow pd_int pd_int)))
      (psd_cons (psd_set (i := 0) nd rfl (Or.inl rfl) (pd_op opd_xor (pd_var (pv 0)) (pd_op opd_div (pd_var (pv 0)) (pd_op opd_pow pd_int pd_int))))
      (psd_cons (psd_set (i := 0) nd rfl (Or.inl rfl) (pd_op opd_mod (pd_callTy (as := [(eOp mAdd (eOp mMul (eVar 0) (eC (.int 3935559000370003845))) (eC (.int 2691343689449507681)))]) call_intD (by rfl) T.f_int bt_int (pad_cons (pd_op opd_add (pd_op opd_mul (pd_var (pv 0)) pd_int) pd_int) pad_nil)) (pd_op opd_pow pd_int pd_int)))
      (psd_one (psd_ret (pd_op opd_xor (pd_var (pv 0)) (pd_op opd_div (pd_var (pv 0)) (pd_op opd_pow pd_int pd_int))))))))
abbrev N_law_next : List Str := ["state", "limit", "drawn", "number"]
theorem sc_law_next : FnScope N_law_next ["state", "limit"] (defScope s_law_next) := ⟨rfl, rfl, rfl, by decide +kernel, rfl, by decide +kernel, by decide +kernel⟩
theorem ok_law_next (F : ∃ fd, FunD K "_law_next" "_law_next" (defArgs s_law_next) (defBody s_law_next) (defScope s_law_next) [] [] (DH.ga K "_law_next") fd) (T : Txt K mg) (c_law_mix : Ok P w K mg 2 (DH.ga K "_law_mix") ["number"] (m_law_mix)) : Ok P w K mg 3 (DH.ga K "_law_next") ["state", "limit"] (m_law_next) := by
  obtain ⟨fd, F⟩ := F
  obtain ⟨fd_law_mix, G_law_mix, B_law_mix, K_law_mix, _⟩ := c_law_mix
  have nd := sc_law_next.nd
  refine ⟨fd, fun base => fnd_ok F sc_law_next (fun cdv A outer s H E hr => ?_) (fun ds O Φ _ h => by unfold m_law_next at h; exact h), F.bindsN (fun _ _ _ _ _ _ us hl => match us, hl with | [_, _], _ => rfl), F.kp, fun s us hl => F.bindsA (fun _ _ _ _ _ _ us hl => match us, hl with | [_, _], _ => rfl) s us hl⟩
  have G_law_mix := G_law_mix base
  have hu := hu_of hr
  exact (psd_cons (psd_asg (pd_op opd_add (pd_ix (pd_var (pv 0)) pd_int (fun _ _ => rfl)) pd_int) (pgd_sub (pd_var (pv 0)) pd_int (psetd_set hu)))
      (psd_cons (psd_if (pb_cmp (opd_eq hr.units) (pd_ix (pd_var (pv 0)) pd_int (fun _ _ => rfl)) pd_int (nomark _))
      (psd_cons (psd_set (i := 3) nd rfl (Or.inl rfl) (pd_call (as := [(eOp mAdd (eOp mIx (eVar 0) (eC (.int 3))) (eOp mMul (eC (.int 7919)) (eCB mLen [(eOp mIx (eVar 0) (eC (.int 0)))])))]) G_law_mix (hr.mono (by decide)) (by rfl) T.g__law_mix K_law_mix B_law_mix (pad_cons (pd_op opd_add (pd_ix (pd_var (pv 0)) pd_int (fun _ _ => rfl)) (pd_op opd_mul pd_int (pd_callB (as := [(eOp mIx (eVar 0) (eC (.int 0)))]) call_lenD (by rfl) T.f_len bt_len (pad_cons (pd_ix (pd_var (pv 0)) pd_int (fun _ _ => rfl)) pad_nil)))) pad_nil)))
      (psd_cons (psd_if (pb_cmp opd_lt (pd_ix (pd_var (pv 0)) pd_int (fun _ _ => rfl)) (pd_callB (as := [(eOp mIx (eVar 0) (eC (.int 0)))]) call_lenD (by rfl) T.f_len bt_len (pad_cons (pd_ix (pd_var (pv 0)) pd_int (fun _ _ => rfl)) pad_nil)) (nomark _))
      (psd_cons (psd_set (i := 3) nd rfl (Or.inl rfl) (pd_callB (as := [(eOp mIx (eOp mIx (eVar 0) (eC (.int 0))) (eOp mIx (eVar 0) (eC (.int 1))))]) call_absD (by rfl) T.f_abs bt_abs (pad_cons (pd_ix (pd_ix (pd_var (pv 0)) pd_int (fun _ _ => rfl)) (pd_ix (pd_var (pv 0)) pd_int (fun _ _ => rfl)) (fun _ _ => rfl)) pad_nil)))
      (psd_one (psd_if (pb_cmp opd_lt (pd_var (pv 3)) (pd_op opd_pow pd_int pd_int) (nomark _))
      (psd_one (psd_set (i := 3) nd rfl (Or.inl rfl) (pd_call (as := [(eOp mAdd (eCall (m_law_mix) [(eVar 3)]) (eOp mIx (eVar 0) (eC (.int 1))))]) G_law_mix (hr.mono (by decide)) (by rfl) T.g__law_mix K_law_mix B_law_mix (pad_cons (pd_op opd_add (pd_call (as := [(eVar 3)]) G_law_mix (hr.mono (by decide)) (by rfl) T.g__law_mix K_law_mix B_law_mix (pad_cons (pd_var (pv 3)) pad_nil)) (pd_ix (pd_var (pv 0)) pd_int (fun _ _ => rfl))) pad_nil))))
      psd_nil)))
      psd_nil)
      (psd_cons (psd_asg (pd_op opd_add (pd_ix (pd_var (pv 0)) pd_int (fun _ _ => rfl)) pd_int) (pgd_sub (pd_var (pv 0)) pd_int (psetd_set hu)))
      (psd_one (psd_asg (pd_var (pv 3)) (pgd_sub (pd_var (pv 0)) pd_int (psetd_set hu)))))))
      psd_nil)
      (psd_cons (psd_set (i := 2) nd rfl (Or.inl rfl) (pd_op opd_mod (pd_callTy (as := [(eOp mIx (eVar 0) (eC (.int 2)))]) call_intD (by rfl) T.f_int bt_int (pad_cons (pd_ix (pd_var (pv 0)) pd_int (fun _ _ => rfl)) pad_nil)) (pd_var (pv 1))))
      (psd_cons (psd_asg (pd_op opd_div (pd_ix (pd_var (pv 0)) pd_int (fun _ _ => rfl)) (pd_var (pv 1))) (pgd_sub (pd_var (pv 0)) pd_int (psetd_set hu)))
      (psd_one (psd_ret (pd_var (pv 2))))))))
abbrev N_law_rule : List Str := ["state", "most", "period", "rows", "k"]
theorem sc_law_rule : FnScope N_law_rule ["state", "most"] (defScope s_law_rule) := ⟨rfl, rfl, rfl, by decide +kernel, rfl, by decide +kernel, by decide +kernel⟩
theorem ok_law_rule (F : ∃ fd, FunD K "_law_rule" "_law_rule" (defArgs s_law_rule) (defBody s_law_rule) (defScope s_law_rule) [] [] (DH.ga K "_law_rule") fd) (T : Txt K mg) (c_law_next : Ok P w K mg 3 (DH.ga K "_law_next") ["state", "limit"] (m_law_next)) : Ok P w K mg 4 (DH.ga K "_law_rule") ["state", "most"] (m_law_rule) := by
  obtain ⟨fd, F⟩ := F
  obtain ⟨fd_law_next, G_law_next, B_law_next, K_law_next, _⟩ := c_law_next
  have nd := sc_law_rule.nd
  refine ⟨fd, fun base => fnd_ok F sc_law_rule (fun cdv A outer s H E hr => ?_) (fun ds O Φ _ h => by unfold m_law_rule at h; exact h), F.bindsN (fun _ _ _ _ _ _ us hl => match us, hl with | [_, _], _ => rfl), F.kp, fun s us hl => F.bindsA (fun _ _ _ _ _ _ us hl => match us, hl with | [_, _], _ => rfl) s us hl⟩
  have G_law_next := G_law_next base
  have hu := hu_of hr
  exact (psd_cons (psd_set (i := 2) nd rfl (Or.inl rfl) pd_int)
      (psd_cons (psd_if (pb_cmp (opd_eq hr.units) (pd_call (as := [(eVar 0), (eC (.int 3))]) G_law_next (hr.mono (by decide)) (by rfl) T.g__law_next K_law_next B_law_next (pad_cons (pd_var (pv 0)) (pad_cons pd_int pad_nil))) pd_int (nomark _))
      (psd_one (psd_set (i := 2) nd rfl (Or.inl rfl) (pd_op opd_add pd_int (pd_call (as := [(eVar 0), (eVar 1)]) G_law_next (hr.mono (by decide)) (by rfl) T.g__law_next K_law_next B_law_next (pad_cons (pd_var (pv 0)) (pad_cons (pd_var (pv 1)) pad_nil))))))
      psd_nil)
      (psd_cons (psd_set (i := 3) nd rfl (Or.inl rfl) (pd_lstO (pad_cons (pd_tup (pad_cons (pd_var (pv 2)) (pad_cons (pd_op opd_add pd_int (pd_call (as := [(eVar 0), (eC (.int 8))]) G_law_next (hr.mono (by decide)) (by rfl) T.g__law_next K_law_next B_law_next (pad_cons (pd_var (pv 0)) (pad_cons pd_int pad_nil)))) pad_nil))) pad_nil)))
      (psd_cons (psd_for PassesOwn.never rfl (pid_range1 (as := [(eCall (m_law_next) [(eVar 0), (eC (.int 4))])]) (by rfl) T.f_range (pad_cons (pd_call (as := [(eVar 0), (eC (.int 4))]) G_law_next (hr.mono (by decide)) (by rfl) T.g__law_next K_law_next B_law_next (pad_cons (pd_var (pv 0)) (pad_cons pd_int pad_nil))) pad_nil)) (pgd_name (pg_name (i := 4) nd rfl (Or.inl rfl)))
      (psd_cons (psd_if (pb_cmp opd_gt (pd_op opd_mul pd_int (pd_var (pv 2))) (pd_var (pv 1)) (nomark _))
      (psd_one psd_break)
      psd_nil)
      (psd_cons (psd_set (i := 2) nd rfl (Or.inl rfl) (pd_op opd_mul (pd_var (pv 2)) (pd_op opd_add pd_int (pd_call (as := [(eVar 0), (eOp mSub (eOp mDiv (eVar 1) (eVar 2)) (eC (.int 1)))]) G_law_next (hr.mono (by decide)) (by rfl) T.g__law_next K_law_next B_law_next (pad_cons (pd_var (pv 0)) (pad_cons (pd_op opd_sub (pd_op opd_div (pd_var (pv 1)) (pd_var (pv 2))) pd_int) pad_nil))))))
      (psd_one (psd_expr (pd_append (as := [(eTup [(eVar 2), (eOp mAdd (eC (.int 1)) (eCall (m_law_next) [(eVar 0), (eC (.int 8))]))])]) (pd_var (pv 3)) (pad_cons (pd_tup (pad_cons (pd_var (pv 2)) (pad_cons (pd_op opd_add pd_int (pd_call (as := [(eVar 0), (eC (.int 8))]) G_law_next (hr.mono (by decide)) (by rfl) T.g__law_next K_law_next B_law_next (pad_cons (pd_var (pv 0)) (pad_cons pd_int pad_nil)))) pad_nil))) pad_nil) (fun to ta h1 h2 => pe_bm PySem.F.plainAttrs_list PySem.F.slot_list_append PySem.F.type_list_append mt_append h1 h2)))))))
      (psd_one (psd_retF (pd_var (pv 3))))))))
abbrev N_law_size : List Str := ["state"]
theorem sc_law_size : FnScope N_law_size ["state"] (defScope s_law_size) := ⟨rfl, rfl, rfl, by decide +kernel, rfl, by decide +kernel, by decide +kernel⟩
theorem ok_law_size (F : ∃ fd, FunD K "_law_size" "_law_size" (defArgs s_law_size) (defBody s_law_size) (defScope s_law_size) [] [] (DH.ga K "_law_size") fd) (T : Txt K mg) (c_law_next : Ok P w K mg 3 (DH.ga K "_law_next") ["state", "limit"] (m_law_next)) : Ok P w K mg 4 (DH.ga K "_law_size") ["state"] (m_law_size) := by
  obtain ⟨fd, F⟩ := F
  obtain ⟨fd_law_next, G_law_next, B_law_next, K_law_next, _⟩ := c_law_next
  have nd := sc_law_size.nd
  refine ⟨fd, fun base => fnd_ok F sc_law_size (fun cdv A outer s H E hr => ?_) (fun ds O Φ _ h => by unfold m_law_size at h; exact h), F.bindsN (fun _ _ _ _ _ _ us hl => match us, hl with | [_], _ => rfl), F.kp, fun s us hl => F.bindsA (fun _ _ _ _ _ _ us hl => match us, hl with | [_], _ => rfl) s us hl⟩
  have G_law_next := G_law_next base
  have hu := hu_of hr
  exact (psd_cons (psd_if (pb_cmp (opd_eq hr.units) (pd_call (as := [(eVar 0), (eC (.int 4))]) G_law_next (hr.mono (by decide)) (by rfl) T.g__law_next K_law_next B_law_next (pad_cons (pd_var (pv 0)) (pad_cons pd_int pad_nil))) pd_int (nomark _))
      (psd_one (psd_ret (pd_op opd_add pd_int (pd_call (as := [(eVar 0), (eC (.int 1000))]) G_law_next (hr.mono (by decide)) (by rfl) T.g__law_next K_law_next B_law_next (pad_cons (pd_var (pv 0)) (pad_cons pd_int pad_nil))))))
      psd_nil)
      (psd_one (psd_ret (pd_op opd_add pd_int (pd_call (as := [(eVar 0), (eC (.int 40))]) G_law_next (hr.mono (by decide)) (by rfl) T.g__law_next K_law_next B_law_next (pad_cons (pd_var (pv 0)) (pad_cons pd_int pad_nil)))))))
abbrev N_law_stands : List Str := ["rows", "tick", "found", "period", "count", "last", "k"]
theorem sc_law_stands : FnScope N_law_stands ["rows", "tick"] (defScope s_law_stands) := ⟨rfl, rfl, rfl, by decide +kernel, rfl, by decide +kernel, by decide +kernel⟩
theorem ok_law_stands (F : ∃ fd, FunD K "_law_stands" "_law_stands" (defArgs s_law_stands) (defBody s_law_stands) (defScope s_law_stands) [] [] (DH.ga K "_law_stands") fd) (T : Txt K mg) : Ok P w K mg 2 (DH.ga K "_law_stands") ["rows", "tick"] (m_law_stands) := by
  obtain ⟨fd, F⟩ := F
  have nd := sc_law_stands.nd
  refine ⟨fd, fun base => fnd_ok F sc_law_stands (fun cdv A outer s H E hr => ?_) (fun ds O Φ _ h => by unfold m_law_stands at h; exact h), F.bindsN (fun _ _ _ _ _ _ us hl => match us, hl with | [_, _], _ => rfl), F.kp, fun s us hl => F.bindsA (fun _ _ _ _ _ _ us hl => match us, hl with | [_, _], _ => rfl) s us hl⟩
  have hu := hu_of hr
  exact (psd_cons (psd_set (i := 2) nd rfl (Or.inl rfl) (pd_lst pad_nil))
      (psd_cons (psd_for PassesOwn.never rfl (pid_list (pd_var (pv 0))) (pgd_tup rfl (pgds_cons (pgd_name (pg_name (i := 3) nd rfl (Or.inr rfl))) (pgds_cons (pgd_name (pg_name (i := 4) nd rfl (Or.inl rfl))) pgds_nil)))
      (psd_cons (psd_set (i := 5) nd rfl (Or.inr rfl) (pd_op opd_sub (pd_var (pv 1)) (pd_op opd_mod (pd_callTy (as := [(eVar 1)]) call_intD (by rfl) T.f_int bt_int (pad_cons (pd_var (pv 1)) pad_nil)) (pd_var (pv 3)))))
      (psd_one (psd_set (i := 2) nd rfl (Or.inl rfl) (pd_op opd_add (pd_var (pv 2)) (pd_lc [("k", 6)] rfl nd (pid_range1 (as := [(eVar 4)]) (by rfl) T.f_range (pad_cons (pd_var (pv 4)) pad_nil)) (blkOk_by (N := N_law_stands) (sc := defScope s_law_stands) (by decide +kernel)) (fun _ _ _ _ _ => (pgd_name (pg_name (i := 6) nd rfl (Or.inl rfl)))) (fun _ _ _ _ _ => (pbs_one (pb_cmp opd_ge (pd_var (pv 5)) (pd_op opd_mul (pd_var (pv 6)) (pd_var (pv 3))) (nomark _)))) (fun _ _ _ _ _ => (pd_op opd_sub (pd_var (pv 5)) (pd_op opd_mul (pd_var (pv 6)) (pd_var (pv 3))))) (by decide)))))))
      (psd_one (psd_ret (pd_sortSet rfl (by rfl) T.f_sorted (by rfl) T.f_set (pad_cons (pd_var (pv 2)) pad_nil) (fun t h => pe_callTy (cr_setL rfl) (by rfl) T.f_set bt_set h) (fun t h => pe_callB (cr_sortedSet rfl) (by rfl) T.f_sorted bt_sorted (pa_cons h pa_nil)))))))
abbrev N_law_ages : List Str := ["rows", "settled", "found", "tick", "step", "count", "at"]
theorem sc_law_ages : FnScope N_law_ages ["rows"] (defScope s_law_ages) := ⟨rfl, rfl, rfl, by decide +kernel, rfl, by decide +kernel, by decide +kernel⟩
theorem ok_law_ages (F : ∃ fd, FunD K "_law_ages" "_law_ages" (defArgs s_law_ages) (defBody s_law_ages) (defScope s_law_ages) [] [] (DH.ga K "_law_ages") fd) (T : Txt K mg) (c_law_stands : Ok P w K mg 2 (DH.ga K "_law_stands") ["rows", "tick"] (m_law_stands)) : Ok P w K mg 3 (DH.ga K "_law_ages") ["rows"] (m_law_ages) := by
  obtain ⟨fd, F⟩ := F
  obtain ⟨fd_law_stands, G_law_stands, B_law_stands, K_law_stands, _⟩ := c_law_stands
  have nd := sc_law_ages.nd
  refine ⟨fd, fun base => fnd_ok F sc_law_ages (fun cdv A outer s H E hr => ?_) (fun ds O Φ _ h => by unfold m_law_ages at h; exact h), F.bindsN (fun _ _ _ _ _ _ us hl => match us, hl with | [_], _ => rfl), F.kp, fun s us hl => F.bindsA (fun _ _ _ _ _ _ us hl => match us, hl with | [_], _ => rfl) s us hl⟩
  have G_law_stands := G_law_stands base
  have hu := hu_of hr
  exact (psd_cons (psd_set (i := 1) nd rfl (Or.inl rfl) (pd_callB (as := [(eLc [4, 5] (itSeq (eVar 0)) (dTup 2 (dCons (dName 4) (dCons (dName 5) dNil))) bYes (eOp mMul (eVar 4) (eVar 5)))]) (call_maxD rfl) (by rfl) T.f_max bt_max (pad_cons (pd_lc [("step", 4), ("count", 5)] rfl nd (pid_list (pd_var (pv 0))) (blkOk_by (N := N_law_ages) (sc := defScope s_law_ages) (by decide +kernel)) (fun _ _ _ _ _ => (pgd_tup rfl (pgds_cons (pgd_name (pg_name (i := 4) nd rfl (Or.inl rfl))) (pgds_cons (pgd_name (pg_name (i := 5) nd rfl (Or.inl rfl))) pgds_nil)))) (fun _ _ _ _ _ => pbs_nil) (fun _ _ _ _ _ => (pd_op opd_mul (pd_var (pv 4)) (pd_var (pv 5)))) (by decide)) pad_nil)))
      (psd_cons (psd_set (i := 2) nd rfl (Or.inl rfl) (pd_lstO pad_nil))
      (psd_cons (psd_for PassesOwn.never rfl (pid_range2 (as := [(eVar 1), (eOp mAdd (eVar 1) (eOp mIx (eOp mIx (eVar 0) (eNeg (eC (.int 1)))) (eC (.int 0))))]) (by rfl) T.f_range (pad_cons (pd_var (pv 1)) (pad_cons (pd_op opd_add (pd_var (pv 1)) (pd_ix (pd_ix (pd_var (pv 0)) (pd_neg pd_int) (fun _ _ => rfl)) pd_int (fun _ _ => rfl))) pad_nil))) (pgd_name (pg_name (i := 3) nd rfl (Or.inr rfl)))
      (psd_one (psd_expr (pd_append (as := [(eLc [6] (itRev [(eCall (m_law_stands) [(eVar 0), (eVar 3)])]) (dName 6) bYes (eOp mSub (eVar 3) (eVar 6)))]) (pd_var (pv 2)) (pad_cons (pd_lc [("at", 6)] rfl nd (pid_rev (as := [(eCall (m_law_stands) [(eVar 0), (eVar 3)])]) (by rfl) T.f_reversed (pad_cons (pd_call (as := [(eVar 0), (eVar 3)]) G_law_stands (hr.mono (by decide)) (by rfl) T.g__law_stands K_law_stands B_law_stands (pad_cons (pd_var (pv 0)) (pad_cons (pd_var (pv 3)) pad_nil))) pad_nil)) (blkOk_by (N := N_law_ages) (sc := defScope s_law_ages) (by decide +kernel)) (fun _ _ _ _ _ => (pgd_name (pg_name (i := 6) nd rfl (Or.inl rfl)))) (fun _ _ _ _ _ => pbs_nil) (fun _ _ _ _ _ => (pd_op opd_sub (pd_var (pv 3)) (pd_var (pv 6)))) (by decide)) pad_nil) (fun to ta h1 h2 => pe_bm PySem.F.plainAttrs_list PySem.F.slot_list_append PySem.F.type_list_append mt_append h1 h2)))))
      (psd_one (psd_retF (pd_var (pv 2)))))))
abbrev N_law_most : List Str := ["rows", "pages", "rate", "most", "settled", "tick", "room", "newer", "at", "step", "count"]
theorem sc_law_most : FnScope N_law_most ["rows", "pages", "rate"] (defScope s_law_most) := ⟨rfl, rfl, rfl, by decide +kernel, rfl, by decide +kernel, by decide +kernel⟩
theorem ok_law_most (F : ∃ fd, FunD K "_law_most" "_law_most" (defArgs s_law_most) (defBody s_law_most) (defScope s_law_most) [] [] (DH.ga K "_law_most") fd) (T : Txt K mg) (c_law_stands : Ok P w K mg 2 (DH.ga K "_law_stands") ["rows", "tick"] (m_law_stands)) : Ok P w K mg 3 (DH.ga K "_law_most") ["rows", "pages", "rate"] (m_law_most) := by
  obtain ⟨fd, F⟩ := F
  obtain ⟨fd_law_stands, G_law_stands, B_law_stands, K_law_stands, _⟩ := c_law_stands
  have nd := sc_law_most.nd
  refine ⟨fd, fun base => fnd_ok F sc_law_most (fun cdv A outer s H E hr => ?_) (fun ds O Φ _ h => by unfold m_law_most at h; exact h), F.bindsN (fun _ _ _ _ _ _ us hl => match us, hl with | [_, _, _], _ => rfl), F.kp, fun s us hl => F.bindsA (fun _ _ _ _ _ _ us hl => match us, hl with | [_, _, _], _ => rfl) s us hl⟩
  have G_law_stands := G_law_stands base
  have hu := hu_of hr
  exact (psd_cons (psd_set (i := 3) nd rfl (Or.inl rfl) pd_int)
      (psd_cons (psd_set (i := 4) nd rfl (Or.inl rfl) (pd_callB (as := [(eLc [9, 10] (itSeq (eVar 0)) (dTup 2 (dCons (dName 9) (dCons (dName 10) dNil))) bYes (eOp mMul (eVar 9) (eVar 10)))]) (call_maxD rfl) (by rfl) T.f_max bt_max (pad_cons (pd_lc [("step", 9), ("count", 10)] rfl nd (pid_list (pd_var (pv 0))) (blkOk_by (N := N_law_most) (sc := defScope s_law_most) (by decide +kernel)) (fun _ _ _ _ _ => (pgd_tup rfl (pgds_cons (pgd_name (pg_name (i := 9) nd rfl (Or.inl rfl))) (pgds_cons (pgd_name (pg_name (i := 10) nd rfl (Or.inl rfl))) pgds_nil)))) (fun _ _ _ _ _ => pbs_nil) (fun _ _ _ _ _ => (pd_op opd_mul (pd_var (pv 9)) (pd_var (pv 10)))) (by decide)) pad_nil)))
      (psd_cons (psd_for PassesOwn.never rfl (pid_range1 (as := [(eOp mAdd (eVar 4) (eOp mIx (eOp mIx (eVar 0) (eNeg (eC (.int 1)))) (eC (.int 0))))]) (by rfl) T.f_range (pad_cons (pd_op opd_add (pd_var (pv 4)) (pd_ix (pd_ix (pd_var (pv 0)) (pd_neg pd_int) (fun _ _ => rfl)) pd_int (fun _ _ => rfl))) pad_nil)) (pgd_name (pg_name (i := 5) nd rfl (Or.inl rfl)))
      (psd_cons (psd_set (i := 6) nd rfl (Or.inl rfl) (pd_var (pv 1)))
      (psd_cons (psd_set (i := 7) nd rfl (Or.inl rfl) (pd_var (pv 5)))
      (psd_cons (psd_for PassesOwn.never rfl (pid_rev (as := [(eCall (m_law_stands) [(eVar 0), (eVar 5)])]) (by rfl) T.f_reversed (pad_cons (pd_call (as := [(eVar 0), (eVar 5)]) G_law_stands (hr.mono (by decide)) (by rfl) T.g__law_stands K_law_stands B_law_stands (pad_cons (pd_var (pv 0)) (pad_cons (pd_var (pv 5)) pad_nil))) pad_nil)) (pgd_name (pg_name (i := 8) nd rfl (Or.inl rfl)))
      (psd_cons (psd_set (i := 6) nd rfl (Or.inl rfl) (pd_op opd_add (pd_var (pv 6)) (pd_callB (as := [(eVar 1), (eOp mMul (eVar 2) (eOp mSub (eVar 7) (eVar 8)))]) (call_min2D rfl) (by rfl) T.f_min bt_min (pad_cons (pd_var (pv 1)) (pad_cons (pd_op opd_mul (pd_var (pv 2)) (pd_op opd_sub (pd_var (pv 7)) (pd_var (pv 8)))) pad_nil)))))
      (psd_one (psd_set (i := 7) nd rfl (Or.inl rfl) (pd_var (pv 8))))))
      (psd_one (psd_set (i := 3) nd rfl (Or.inl rfl) (pd_callB (as := [(eVar 3), (eVar 6)]) (call_max2D rfl) (by rfl) T.f_max bt_max (pad_cons (pd_var (pv 3)) (pad_cons (pd_var (pv 6)) pad_nil)))))))))
      (psd_one (psd_ret (pd_var (pv 3)))))))
abbrev N_law_needed : List Str := ["table", "age", "needed", "ages", "older", "old"]
theorem sc_law_needed : FnScope N_law_needed ["table", "age"] (defScope s_law_needed) := ⟨rfl, rfl, rfl, by decide +kernel, rfl, by decide +kernel, by decide +kernel⟩
theorem ok_law_needed (F : ∃ fd, FunD K "_law_needed" "_law_needed" (defArgs s_law_needed) (defBody s_law_needed) (defScope s_law_needed) [] [] (DH.ga K "_law_needed") fd) (T : Txt K mg) : Ok P w K mg 2 (DH.ga K "_law_needed") ["table", "age"] (m_law_needed) := by
  obtain ⟨fd, F⟩ := F
  have nd := sc_law_needed.nd
  refine ⟨fd, fun base => fnd_ok F sc_law_needed (fun cdv A outer s H E hr => ?_) (fun ds O Φ _ h => by unfold m_law_needed at h; exact h), F.bindsN (fun _ _ _ _ _ _ us hl => match us, hl with | [_, _], _ => rfl), F.kp, fun s us hl => F.bindsA (fun _ _ _ _ _ _ us hl => match us, hl with | [_, _], _ => rfl) s us hl⟩
  have hu := hu_of hr
  exact (psd_cons (psd_set (i := 2) nd rfl (Or.inl rfl) pd_int)
      (psd_cons (psd_for PassesOwn.never rfl (pid_list (pd_var (pv 0))) (pgd_name (pg_name (i := 3) nd rfl (Or.inl rfl)))
      (psd_cons (psd_setLc [("old", 5)] rfl nd rfl rfl (sw_true rfl rfl rfl (by decide +kernel)) (pid_list (pd_var (pv 3))) (blkOk_by (N := N_law_needed) (sc := defScope s_law_needed) (by decide +kernel)) (fun _ _ _ _ _ => (pgd_name (pg_name (i := 5) nd rfl (Or.inl rfl)))) (fun _ _ _ _ _ => (pbs_one (pb_cmp opd_ge (pd_var (pv 5)) (pd_var (pv 1)) (nomark _)))) (fun _ _ _ _ _ => (pd_op opd_sub (pd_var (pv 5)) (pd_var (pv 1)))) (by decide))
      (psd_cons (psd_if (pb_cmp (opd_eq hr.units) (pd_callB (as := [(eVar 4)]) call_lenD (by rfl) T.f_len bt_len (pad_cons (pd_var (pv 4)) pad_nil)) pd_int (nomark _))
      (psd_one (psd_ret (pd_neg pd_int)))
      psd_nil)
      (psd_one (psd_set (i := 2) nd rfl (Or.inl rfl) (pd_callB (as := [(eVar 2), (eCB mMin [(eVar 4)])]) (call_max2D rfl) (by rfl) T.f_max bt_max (pad_cons (pd_var (pv 2)) (pad_cons (pd_callB (as := [(eVar 4)]) (call_minD rfl) (by rfl) T.f_min bt_min (pad_cons (pd_var (pv 4)) pad_nil)) pad_nil))))))))
      (psd_one (psd_ret (pd_var (pv 2))))))
abbrev N_law_wants : List Str := ["state", "tables", "many", "wants", "k", "table", "age", "slack", "needed", "choice"]
theorem sc_law_wants : FnScope N_law_wants ["state", "tables", "many"] (defScope s_law_wants) := ⟨rfl, rfl, rfl, by decide +kernel, rfl, by decide +kernel, by decide +kernel⟩
theorem ok_law_wants (F : ∃ fd, FunD K "_law_wants" "_law_wants" (defArgs s_law_wants) (defBody s_law_wants) (defScope s_law_wants) [] [] (DH.ga K "_law_wants") fd) (T : Txt K mg) (c_law_next : Ok P w K mg 3 (DH.ga K "_law_next") ["state", "limit"] (m_law_next)) (c_law_needed : Ok P w K mg 2 (DH.ga K "_law_needed") ["table", "age"] (m_law_needed)) : Ok P w K mg 4 (DH.ga K "_law_wants") ["state", "tables", "many"] (m_law_wants) := by
  obtain ⟨fd, F⟩ := F
  obtain ⟨fd_law_next, G_law_next, B_law_next, K_law_next, _⟩ := c_law_next
  obtain ⟨fd_law_needed, G_law_needed, B_law_needed, K_law_needed, _⟩ := c_law_needed
  have nd := sc_law_wants.nd
  refine ⟨fd, fun base => fnd_ok F sc_law_wants (fun cdv A outer s H E hr => ?_) (fun ds O Φ _ h => by unfold m_law_wants at h; exact h), F.bindsN (fun _ _ _ _ _ _ us hl => match us, hl with | [_, _, _], _ => rfl), F.kp, fun s us hl => F.bindsA (fun _ _ _ _ _ _ us hl => match us, hl with | [_, _, _], _ => rfl) s us hl⟩
  have G_law_next := G_law_next base
  have G_law_needed := G_law_needed base
  have hu := hu_of hr
  exact (psd_cons (psd_set (i := 3) nd rfl (Or.inl rfl) (pd_lstO pad_nil))
      (psd_cons (psd_for PassesOwn.never rfl (pid_range1 (as := [(eVar 2)]) (by rfl) T.f_range (pad_cons (pd_var (pv 2)) pad_nil)) (pgd_name (pg_name (i := 4) nd rfl (Or.inl rfl)))
      (psd_cons (psd_set (i := 5) nd rfl (Or.inl rfl) (pd_ix (pd_var (pv 1)) (pd_call (as := [(eVar 0), (eCB mLen [(eVar 1)])]) G_law_next (hr.mono (by decide)) (by rfl) T.g__law_next K_law_next B_law_next (pad_cons (pd_var (pv 0)) (pad_cons (pd_callB (as := [(eVar 1)]) call_lenD (by rfl) T.f_len bt_len (pad_cons (pd_var (pv 1)) pad_nil)) pad_nil))) (fun _ _ => rfl)))
      (psd_cons (psd_set (i := 6) nd rfl (Or.inl rfl) (pd_call (as := [(eVar 0), (eC (.int 30))]) G_law_next (hr.mono (by decide)) (by rfl) T.g__law_next K_law_next B_law_next (pad_cons (pd_var (pv 0)) (pad_cons pd_int pad_nil))))
      (psd_cons (psd_set (i := 7) nd rfl (Or.inl rfl) (pd_call (as := [(eVar 0), (eC (.int 12))]) G_law_next (hr.mono (by decide)) (by rfl) T.g__law_next K_law_next B_law_next (pad_cons (pd_var (pv 0)) (pad_cons pd_int pad_nil))))
      (psd_cons (psd_set (i := 8) nd rfl (Or.inl rfl) (pd_call (as := [(eVar 5), (eVar 6)]) G_law_needed (hr.mono (by decide)) (by rfl) T.g__law_needed K_law_needed B_law_needed (pad_cons (pd_var (pv 5)) (pad_cons (pd_var (pv 6)) pad_nil))))
      (psd_cons (psd_set (i := 9) nd rfl (Or.inl rfl) (pd_call (as := [(eVar 0), (eC (.int 4))]) G_law_next (hr.mono (by decide)) (by rfl) T.g__law_next K_law_next B_law_next (pad_cons (pd_var (pv 0)) (pad_cons pd_int pad_nil))))
      (psd_one (psd_if (pb_cmp (opd_eq hr.units) (pd_var (pv 9)) pd_int (nomark _))
      (psd_one (psd_expr (pd_append (as := [(eTup [(eVar 6), (eVar 7)])]) (pd_var (pv 3)) (pad_cons (pd_tup (pad_cons (pd_var (pv 6)) (pad_cons (pd_var (pv 7)) pad_nil))) pad_nil) (fun to ta h1 h2 => pe_bm PySem.F.plainAttrs_list PySem.F.slot_list_append PySem.F.type_list_append mt_append h1 h2))))
      (psd_one (psd_if ((pw_and (pb_cmp (opd_eq hr.units) (pd_var (pv 9)) pd_int (nomark _)) (pw_and1 (pb_cmp (opd_eq hr.units) (pd_call (as := [(eVar 0), (eC (.int 3))]) G_law_next (hr.mono (by decide)) (by rfl) T.g__law_next K_law_next B_law_next (pad_cons (pd_var (pv 0)) (pad_cons pd_int pad_nil))) pd_int (nomark _))))).pb
      (psd_one (psd_expr (pd_append (as := [(eTup [(eCall (m_law_next) [(eVar 0), (eOp mPow (eC (.int 10)) (eC (.int 6)))]), (eCall (m_law_next) [(eVar 0), (eOp mPow (eC (.int 10)) (eC (.int 6)))])])]) (pd_var (pv 3)) (pad_cons (pd_tup (pad_cons (pd_call (as := [(eVar 0), (eOp mPow (eC (.int 10)) (eC (.int 6)))]) G_law_next (hr.mono (by decide)) (by rfl) T.g__law_next K_law_next B_law_next (pad_cons (pd_var (pv 0)) (pad_cons (pd_op opd_pow pd_int pd_int) pad_nil))) (pad_cons (pd_call (as := [(eVar 0), (eOp mPow (eC (.int 10)) (eC (.int 6)))]) G_law_next (hr.mono (by decide)) (by rfl) T.g__law_next K_law_next B_law_next (pad_cons (pd_var (pv 0)) (pad_cons (pd_op opd_pow pd_int pd_int) pad_nil))) pad_nil))) pad_nil) (fun to ta h1 h2 => pe_bm PySem.F.plainAttrs_list PySem.F.slot_list_append PySem.F.type_list_append mt_append h1 h2))))
      (psd_one (psd_if ((pw_and (pb_cmp opd_lt (pd_var (pv 9)) pd_int (nomark _)) (pw_and1 (pb_cmp opd_gt (pd_var (pv 8)) pd_int (nomark _))))).pb
      (psd_one (psd_expr (pd_append (as := [(eTup [(eVar 6), (eOp mSub (eVar 8) (eC (.int 1)))])]) (pd_var (pv 3)) (pad_cons (pd_tup (pad_cons (pd_var (pv 6)) (pad_cons (pd_op opd_sub (pd_var (pv 8)) pd_int) pad_nil))) pad_nil) (fun to ta h1 h2 => pe_bm PySem.F.plainAttrs_list PySem.F.slot_list_append PySem.F.type_list_append mt_append h1 h2))))
      (psd_one (psd_if (pb_cmp opd_ge (pd_var (pv 8)) pd_int (nomark _))
      (psd_one (psd_expr (pd_append (as := [(eTup [(eVar 6), (eVar 8)])]) (pd_var (pv 3)) (pad_cons (pd_tup (pad_cons (pd_var (pv 6)) (pad_cons (pd_var (pv 8)) pad_nil))) pad_nil) (fun to ta h1 h2 => pe_bm PySem.F.plainAttrs_list PySem.F.slot_list_append PySem.F.type_list_append mt_append h1 h2))))
      (psd_one (psd_expr (pd_append (as := [(eTup [(eVar 6), (eC (.int 999999))])]) (pd_var (pv 3)) (pad_cons (pd_tup (pad_cons (pd_var (pv 6)) (pad_cons pd_int pad_nil))) pad_nil) (fun to ta h1 h2 => pe_bm PySem.F.plainAttrs_list PySem.F.slot_list_append PySem.F.type_list_append mt_append h1 h2))))))))))))))))))
      (psd_one (psd_retF (pd_var (pv 3))))))
abbrev N_Rule_may_follow : List Str := ["self", "rows", "period", "count", "above"]
theorem sc_Rule_may_follow : FnScope N_Rule_may_follow ["self", "rows", "period", "count"] (defScope s_Rule_may_follow) := ⟨rfl, rfl, rfl, by decide +kernel, rfl, by decide +kernel, by decide +kernel⟩
theorem ok_Rule_may_follow (F : ∃ fd, FunD K "_may_follow" "Rule._may_follow" (defArgs s_Rule_may_follow) (defBody s_Rule_may_follow) (defScope s_Rule_may_follow) [] [] (DH.ma K (DH.ga K "Rule") "_may_follow") fd) (T : Txt K mg) : Ok P w K mg 2 (DH.ma K (DH.ga K "Rule") "_may_follow") ["self", "rows", "period", "count"] (m_Rule_may_follow K) := by
  obtain ⟨fd, F⟩ := F
  have nd := sc_Rule_may_follow.nd
  refine ⟨fd, fun base => fnd_ok F sc_Rule_may_follow (fun cdv A outer s H E hr => ?_) (fun ds O Φ _ h => by unfold m_Rule_may_follow at h; exact h), F.bindsN (fun _ _ _ _ _ _ us hl => match us, hl with | [_, _, _, _], _ => rfl), F.kp, fun s us hl => F.bindsA (fun _ _ _ _ _ _ us hl => match us, hl with | [_, _, _, _], _ => rfl) s us hl⟩
  have hu := hu_of hr
  exact (psd_cons (psd_if ((pw_or (pb_cmp opd_ge (pd_callB (as := [(eVar 1)]) call_lenD (by rfl) T.f_len bt_len (pad_cons (pd_var (pv 1)) pad_nil)) (pd_con T.c_Rule T.k_Rule_MOST_ROWS.choose_spec (fun _ => .int _) (pd_var (pv 0)) rfl) (nomark _)) (pw_or (pb_cmp opd_lt (pd_var (pv 2)) pd_int (nomark _)) (pw_or1 (pb_cmp opd_gt (pd_var (pv 2)) (pd_con T.c_Rule T.k_Rule_MOST_PERIOD.choose_spec (fun _ => .int _) (pd_var (pv 0)) rfl) (nomark _)))))).pb
      (psd_one (psd_ret pd_bl))
      psd_nil)
      (psd_cons (psd_if (pb_cmp opd_gt (pd_callB (as := [(eVar 1)]) call_lenD (by rfl) T.f_len bt_len (pad_cons (pd_var (pv 1)) pad_nil)) pd_int (nomark _))
      (psd_cons (psd_set (i := 4) nd rfl (Or.inl rfl) (pd_ix (pd_ix (pd_var (pv 1)) (pd_neg pd_int) (fun _ _ => rfl)) pd_int (fun _ _ => rfl)))
      (psd_one (psd_if ((pw_or (pb_cmp opd_le (pd_var (pv 2)) (pd_var (pv 4)) (nomark _)) (pw_or1 (pb_cmp (opd_ne hr.units) (pd_op opd_mod (pd_var (pv 2)) (pd_var (pv 4))) pd_int (nomark _))))).pb
      (psd_one (psd_ret pd_bl))
      psd_nil)))
      psd_nil)
      (psd_one (psd_ret (pd_chain opd_le opd_le pd_int (pd_var (pv 3)) (pd_con T.c_Rule T.k_Rule_MOST_COUNT.choose_spec (fun _ => .int _) (pd_var (pv 0)) rfl))))))
abbrev N_Rule_init : List Str := ["self", "rows", "good", "period", "count"]
theorem sc_Rule_init : FnScope N_Rule_init ["self", "rows"] (defScope s_Rule_init) := ⟨rfl, rfl, rfl, by decide +kernel, rfl, by decide +kernel, by decide +kernel⟩
theorem ok_Rule_init (F : ∃ fd, FunD K "__init__" "Rule.__init__" (defArgs s_Rule_init) (defBody s_Rule_init) (defScope s_Rule_init) [] [] (DH.ma K (DH.ga K "Rule") "__init__") fd) (T : Txt K mg) (c_Rule_may_follow : Ok P w K mg 2 (DH.ma K (DH.ga K "Rule") "_may_follow") ["self", "rows", "period", "count"] (m_Rule_may_follow K)) : Ok P w K mg 3 (DH.ma K (DH.ga K "Rule") "__init__") ["self", "rows"] (m_Rule_init K) := by
  obtain ⟨fd, F⟩ := F
  obtain ⟨fd_Rule_may_follow, G_Rule_may_follow, B_Rule_may_follow, K_Rule_may_follow, _⟩ := c_Rule_may_follow
  have nd := sc_Rule_init.nd
  refine ⟨fd, fun base => fnd_ok F sc_Rule_init (fun cdv A outer s H E hr => ?_) (fun ds O Φ _ h => by unfold m_Rule_init at h; exact h), F.bindsN (fun _ _ _ _ _ _ us hl => match us, hl with | [_, _], _ => rfl), F.kp, fun s us hl => F.bindsA (fun _ _ _ _ _ _ us hl => match us, hl with | [_, _], _ => rfl) s us hl⟩
  have G_Rule_may_follow := G_Rule_may_follow base
  have hu := hu_of hr
  exact (psd_cons (psd_set (i := 2) nd rfl (Or.inl rfl) (pd_lstO pad_nil))
      (psd_cons (psd_for PassesOwn.never rfl (pid_list (pd_var (pv 1))) (pgd_tup rfl (pgds_cons (pgd_name (pg_name (i := 3) nd rfl (Or.inl rfl))) (pgds_cons (pgd_name (pg_name (i := 4) nd rfl (Or.inl rfl))) pgds_nil)))
      (psd_cons (psd_if (pb_not (pb_val (pd_meth (as := [(eVar 2), (eVar 3), (eVar 4)]) T.c_Rule T.m_Rule__may_follow G_Rule_may_follow (hr.mono (by decide)) B_Rule_may_follow (pd_var (pv 0)) (pad_cons (pd_var (pv 2)) (pad_cons (pd_var (pv 3)) (pad_cons (pd_var (pv 4)) pad_nil))) (fun ta tt h1 h2 => pe_meth h1 T.c_Rule T.m_Rule__may_follow G_Rule_may_follow (hr.mono (by decide)) B_Rule_may_follow .nil pass0 h2))))
      (psd_one ps_neverD)
      psd_nil)
      (psd_one (psd_expr (pd_append (as := [(eTup [(eVar 3), (eVar 4)])]) (pd_var (pv 2)) (pad_cons (pd_tup (pad_cons (pd_var (pv 3)) (pad_cons (pd_var (pv 4)) pad_nil))) pad_nil) (fun to ta h1 h2 => pe_bm PySem.F.plainAttrs_list PySem.F.slot_list_append PySem.F.type_list_append mt_append h1 h2))))))
      (psd_cons (psd_if (pb_cmp (opd_eq hr.units) (pd_callB (as := [(eVar 2)]) call_lenD (by rfl) T.f_len bt_len (pad_cons (pd_var (pv 2)) pad_nil)) pd_int (nomark _))
      (psd_one ps_neverD)
      psd_nil)
      (psd_one (psd_fld T.c_Rule T.n_Rule_rows (pd_var (pv 0)) (pd_callTy (as := [(eVar 2)]) (call_tupLD rfl) (by rfl) T.f_tuple bt_tuple (pad_cons (pd_var (pv 2)) pad_nil)) rfl)))))
abbrev N_law_keeps : List Str := ["table", "age", "slack", "ages", "old"]
theorem sc_law_keeps : FnScope N_law_keeps ["table", "age", "slack"] (defScope s_law_keeps) := ⟨rfl, rfl, rfl, by decide +kernel, rfl, by decide +kernel, by decide +kernel⟩
theorem ok_law_keeps (F : ∃ fd, FunD K "_law_keeps" "_law_keeps" (defArgs s_law_keeps) (defBody s_law_keeps) (defScope s_law_keeps) [] [] (DH.ga K "_law_keeps") fd) (T : Txt K mg) : Ok P w K mg 2 (DH.ga K "_law_keeps") ["table", "age", "slack"] (m_law_keeps) := by
  obtain ⟨fd, F⟩ := F
  have nd := sc_law_keeps.nd
  refine ⟨fd, fun base => fnd_ok F sc_law_keeps (fun cdv A outer s H E hr => ?_) (fun ds O Φ _ h => by unfold m_law_keeps at h; exact h), F.bindsN (fun _ _ _ _ _ _ us hl => match us, hl with | [_, _, _], _ => rfl), F.kp, fun s us hl => F.bindsA (fun _ _ _ _ _ _ us hl => match us, hl with | [_, _, _], _ => rfl) s us hl⟩
  have hu := hu_of hr
  exact (psd_cons (psd_for PassesOwn.never rfl (pid_list (pd_var (pv 0))) (pgd_name (pg_name (i := 3) nd rfl (Or.inl rfl)))
      (psd_one (psd_if (pb_not (pb_val (pd_callB (as := [(eLc [4] (itSeq (eVar 3)) (dName 4) bYes (eChain mLe mLe (eVar 1) (eVar 4) (eOp mAdd (eVar 1) (eVar 2))))]) (call_anyD rfl) (by rfl) T.f_any bt_any (pad_cons (pd_lc [("old", 4)] rfl nd (pid_list (pd_var (pv 3))) (blkOk_by (N := N_law_keeps) (sc := defScope s_law_keeps) (by decide +kernel)) (fun _ _ _ _ _ => (pgd_name (pg_name (i := 4) nd rfl (Or.inl rfl)))) (fun _ _ _ _ _ => pbs_nil) (fun _ _ _ _ _ => (pd_chain opd_le opd_le (pd_var (pv 1)) (pd_var (pv 4)) (pd_op opd_add (pd_var (pv 1)) (pd_var (pv 2))))) (by decide)) pad_nil))))
      (psd_one (psd_ret pd_bl))
      psd_nil)))
      (psd_one (psd_ret pd_bl)))
abbrev N_Rule_settled : List Str := ["self", "period", "count"]
theorem sc_Rule_settled : FnScope N_Rule_settled ["self"] (defScope s_Rule_settled) := ⟨rfl, rfl, rfl, by decide +kernel, rfl, by decide +kernel, by decide +kernel⟩
theorem ok_Rule_settled (F : ∃ fd, FunD K "settled" "Rule.settled" (defArgs s_Rule_settled) (defBody s_Rule_settled) (defScope s_Rule_settled) [] [] (DH.pg K (DH.ga K "Rule") "settled") fd) (T : Txt K mg) : Ok P w K mg 2 (DH.pg K (DH.ga K "Rule") "settled") ["self"] (m_Rule_settled K) := by
  obtain ⟨fd, F⟩ := F
  have nd := sc_Rule_settled.nd
  refine ⟨fd, fun base => fnd_ok F sc_Rule_settled (fun cdv A outer s H E hr => ?_) (fun ds O Φ _ h => by unfold m_Rule_settled at h; exact h), F.bindsN (fun _ _ _ _ _ _ us hl => match us, hl with | [_], _ => rfl), F.kp, fun s us hl => F.bindsA (fun _ _ _ _ _ _ us hl => match us, hl with | [_], _ => rfl) s us hl⟩
  have hu := hu_of hr
  exact (psd_one (psd_ret (pd_callB (as := [(eLc [1, 2] (itTup (eFld (DH.ga K "Rule") "rows" (eVar 0))) (dTup 2 (dCons (dName 1) (dCons (dName 2) dNil))) bYes (eOp mMul (eVar 1) (eVar 2)))]) (call_maxD rfl) (by rfl) T.f_max bt_max (pad_cons (pd_lc [("period", 1), ("count", 2)] rfl nd (pid_tup (pd_fld T.c_Rule T.n_Rule_rows (pd_var (pv 0)) rfl)) (blkOk_by (N := N_Rule_settled) (sc := defScope s_Rule_settled) (by decide +kernel)) (fun _ _ _ _ _ => (pgd_tup rfl (pgds_cons (pgd_name (pg_name (i := 1) nd rfl (Or.inl rfl))) (pgds_cons (pgd_name (pg_name (i := 2) nd rfl (Or.inl rfl))) pgds_nil)))) (fun _ _ _ _ _ => pbs_nil) (fun _ _ _ _ _ => (pd_op opd_mul (pd_var (pv 1)) (pd_var (pv 2)))) (by decide)) pad_nil))))
abbrev N_Rule_period : List Str := ["self"]
theorem sc_Rule_period : FnScope N_Rule_period ["self"] (defScope s_Rule_period) := ⟨rfl, rfl, rfl, by decide +kernel, rfl, by decide +kernel, by decide +kernel⟩
theorem ok_Rule_period (F : ∃ fd, FunD K "period" "Rule.period" (defArgs s_Rule_period) (defBody s_Rule_period) (defScope s_Rule_period) [] [] (DH.pg K (DH.ga K "Rule") "period") fd) (T : Txt K mg) : Ok P w K mg 2 (DH.pg K (DH.ga K "Rule") "period") ["self"] (m_Rule_period K) := by
  obtain ⟨fd, F⟩ := F
  have nd := sc_Rule_period.nd
  refine ⟨fd, fun base => fnd_ok F sc_Rule_period (fun cdv A outer s H E hr => ?_) (fun ds O Φ _ h => by unfold m_Rule_period at h; exact h), F.bindsN (fun _ _ _ _ _ _ us hl => match us, hl with | [_], _ => rfl), F.kp, fun s us hl => F.bindsA (fun _ _ _ _ _ _ us hl => match us, hl with | [_], _ => rfl) s us hl⟩
  have hu := hu_of hr
  exact (psd_one (psd_ret (pd_ix (pd_ix (pd_fld T.c_Rule T.n_Rule_rows (pd_var (pv 0)) rfl) (pd_neg pd_int) (fun _ _ => rfl)) pd_int (fun _ _ => rfl))))
abbrev N_Rule_ages : List Str := ["self", "tick", "found", "period", "count", "first", "k"]
theorem sc_Rule_ages : FnScope N_Rule_ages ["self", "tick"] (defScope s_Rule_ages) := ⟨rfl, rfl, rfl, by decide +kernel, rfl, by decide +kernel, by decide +kernel⟩
theorem ok_Rule_ages (F : ∃ fd, FunD K "_ages" "Rule._ages" (defArgs s_Rule_ages) (defBody s_Rule_ages) (defScope s_Rule_ages) [] [] (DH.ma K (DH.ga K "Rule") "_ages") fd) (T : Txt K mg) : Ok P w K mg 2 (DH.ma K (DH.ga K "Rule") "_ages") ["self", "tick"] (m_Rule_ages K) := by
  obtain ⟨fd, F⟩ := F
  have nd := sc_Rule_ages.nd
  refine ⟨fd, fun base => fnd_ok F sc_Rule_ages (fun cdv A outer s H E hr => ?_) (fun ds O Φ _ h => by unfold m_Rule_ages at h; exact h), F.bindsN (fun _ _ _ _ _ _ us hl => match us, hl with | [_, _], _ => rfl), F.kp, fun s us hl => F.bindsA (fun _ _ _ _ _ _ us hl => match us, hl with | [_, _], _ => rfl) s us hl⟩
  have hu := hu_of hr
  exact (psd_cons (psd_set (i := 2) nd rfl (Or.inl rfl) pd_dicO)
      (psd_cons (psd_for PassesOwn.never rfl (pid_tup (pd_fld T.c_Rule T.n_Rule_rows (pd_var (pv 0)) rfl)) (pgd_tup rfl (pgds_cons (pgd_name (pg_name (i := 3) nd rfl (Or.inl rfl))) (pgds_cons (pgd_name (pg_name (i := 4) nd rfl (Or.inl rfl))) pgds_nil)))
      (psd_cons (psd_set (i := 5) nd rfl (Or.inl rfl) (pd_op opd_mod (pd_var (pv 1)) (pd_var (pv 3))))
      (psd_one (psd_for PassesOwn.never rfl (pid_range1 (as := [(eVar 4)]) (by rfl) T.f_range (pad_cons (pd_var (pv 4)) pad_nil)) (pgd_name (pg_name (i := 6) nd rfl (Or.inl rfl)))
      (psd_one (psd_if (pb_cmp opd_le (pd_op opd_add (pd_var (pv 5)) (pd_op opd_mul (pd_var (pv 6)) (pd_var (pv 3)))) (pd_var (pv 1)) (nomark _))
      (psd_one (psd_asg pd_bl (pgd_sub (pd_var (pv 2)) (pd_op opd_add (pd_var (pv 5)) (pd_op opd_mul (pd_var (pv 6)) (pd_var (pv 3)))) (psetd_set hu))))
      psd_nil))))))
      (psd_one (psd_ret (pd_callB (as := [(eVar 2)]) (call_sortDI rfl) (by rfl) T.f_sorted bt_sorted (pad_cons (pd_var (pv 2)) pad_nil))))))
abbrev N_Rule_call : List Str := ["self", "tick", "age"]
theorem sc_Rule_call : FnScope N_Rule_call ["self", "tick"] (defScope s_Rule_call) := ⟨rfl, rfl, rfl, by decide +kernel, rfl, by decide +kernel, by decide +kernel⟩
theorem ok_Rule_call (F : ∃ fd, FunD K "__call__" "Rule.__call__" (defArgs s_Rule_call) (defBody s_Rule_call) (defScope s_Rule_call) [] [] (DH.ma K (DH.ga K "Rule") "__call__") fd) (T : Txt K mg) (c_Rule_ages : Ok P w K mg 2 (DH.ma K (DH.ga K "Rule") "_ages") ["self", "tick"] (m_Rule_ages K)) : Ok P w K mg 3 (DH.ma K (DH.ga K "Rule") "__call__") ["self", "tick"] (m_Rule_call K) := by
  obtain ⟨fd, F⟩ := F
  obtain ⟨fd_Rule_ages, G_Rule_ages, B_Rule_ages, K_Rule_ages, _⟩ := c_Rule_ages
  have nd := sc_Rule_call.nd
  refine ⟨fd, fun base => fnd_ok F sc_Rule_call (fun cdv A outer s H E hr => ?_) (fun ds O Φ _ h => by unfold m_Rule_call at h; exact h), F.bindsN (fun _ _ _ _ _ _ us hl => match us, hl with | [_, _], _ => rfl), F.kp, fun s us hl => F.bindsA (fun _ _ _ _ _ _ us hl => match us, hl with | [_, _], _ => rfl) s us hl⟩
  have G_Rule_ages := G_Rule_ages base
  have hu := hu_of hr
  exact (psd_one (psd_ret (pd_lc [("age", 2)] rfl nd (pid_rev (as := [(eMeth (DH.ga K "Rule") "_ages" (m_Rule_ages K) (eVar 0) [(eVar 1)])]) (by rfl) T.f_reversed (pad_cons (pd_meth (as := [(eVar 1)]) T.c_Rule T.m_Rule__ages G_Rule_ages (hr.mono (by decide)) B_Rule_ages (pd_var (pv 0)) (pad_cons (pd_var (pv 1)) pad_nil) (fun ta tt h1 h2 => pe_meth h1 T.c_Rule T.m_Rule__ages G_Rule_ages (hr.mono (by decide)) B_Rule_ages .nil pass0 h2)) pad_nil)) (blkOk_by (N := N_Rule_call) (sc := defScope s_Rule_call) (by decide +kernel)) (fun _ _ _ _ _ => (pgd_name (pg_name (i := 2) nd rfl (Or.inl rfl)))) (fun _ _ _ _ _ => pbs_nil) (fun _ _ _ _ _ => (pd_op opd_sub (pd_var (pv 1)) (pd_var (pv 2)))) (by decide))))
abbrev N_keeps : List Str := ["rule", "age", "slack", "tick", "kept"]
theorem sc_keeps : FnScope N_keeps ["rule", "age", "slack"] (defScope s_keeps) := ⟨rfl, rfl, rfl, by decide +kernel, rfl, by decide +kernel, by decide +kernel⟩
theorem ok_keeps (F : ∃ fd, FunD K "keeps" "keeps" (defArgs s_keeps) (defBody s_keeps) (defScope s_keeps) [] [] (DH.ga K "keeps") fd) (T : Txt K mg) (c_Rule_settled : Ok P w K mg 2 (DH.pg K (DH.ga K "Rule") "settled") ["self"] (m_Rule_settled K)) (c_Rule_period : Ok P w K mg 2 (DH.pg K (DH.ga K "Rule") "period") ["self"] (m_Rule_period K)) (c_Rule_call : Ok P w K mg 3 (DH.ma K (DH.ga K "Rule") "__call__") ["self", "tick"] (m_Rule_call K)) : Ok P w K mg 4 (DH.ga K "keeps") ["rule", "age", "slack"] (m_keeps K) := by
  obtain ⟨fd, F⟩ := F
  obtain ⟨fd_Rule_settled, G_Rule_settled, B_Rule_settled, K_Rule_settled, _⟩ := c_Rule_settled
  obtain ⟨fd_Rule_period, G_Rule_period, B_Rule_period, K_Rule_period, _⟩ := c_Rule_period
  obtain ⟨fd_Rule_call, G_Rule_call, B_Rule_call, K_Rule_call, _⟩ := c_Rule_call
  have nd := sc_keeps.nd
  refine ⟨fd, fun base => fnd_ok F sc_keeps (fun cdv A outer s H E hr => ?_) (fun ds O Φ _ h => by unfold m_keeps at h; exact h), F.bindsN (fun _ _ _ _ _ _ us hl => match us, hl with | [_, _, _], _ => rfl), F.kp, fun s us hl => F.bindsA (fun _ _ _ _ _ _ us hl => match us, hl with | [_, _, _], _ => rfl) s us hl⟩
  have G_Rule_settled := G_Rule_settled base
  have G_Rule_period := G_Rule_period base
  have G_Rule_call := G_Rule_call base
  have hu := hu_of hr
  exact (psd_cons (psd_for PassesOwn.never rfl (pid_range2 (as := [(eProp (DH.ga K "Rule") (m_Rule_settled K) (eVar 0)), (eOp mAdd (eProp (DH.ga K "Rule") (m_Rule_settled K) (eVar 0)) (eProp (DH.ga K "Rule") (m_Rule_period K) (eVar 0)))]) (by rfl) T.f_range (pad_cons (pd_prop T.c_Rule T.p_Rule_settled G_Rule_settled (hr.mono (by decide)) B_Rule_settled (pd_var (pv 0)) rfl) (pad_cons (pd_op opd_add (pd_prop T.c_Rule T.p_Rule_settled G_Rule_settled (hr.mono (by decide)) B_Rule_settled (pd_var (pv 0)) rfl) (pd_prop T.c_Rule T.p_Rule_period G_Rule_period (hr.mono (by decide)) B_Rule_period (pd_var (pv 0)) rfl)) pad_nil))) (pgd_name (pg_name (i := 3) nd rfl (Or.inr rfl)))
      (psd_one (psd_if (pb_not (pb_val (pd_callB (as := [(eLc [4] (itSeq (eCallO (DH.ga K "Rule") (m_Rule_call K) (eVar 0) [(eVar 3)])) (dName 4) bYes (eChain mLe mLe (eVar 1) (eOp mSub (eVar 3) (eVar 4)) (eOp mAdd (eVar 1) (eVar 2))))]) (call_anyD rfl) (by rfl) T.f_any bt_any (pad_cons (pd_lc [("kept", 4)] rfl nd (pid_list (pd_callO (as := [(eVar 3)]) (pd_var (pv 0)) T.o_Rule G_Rule_call (hr.mono (by decide)) B_Rule_call (pad_cons (pd_var (pv 3)) pad_nil) (fun tf tt h1 h2 => StX.pe_callO h1 T.o_Rule (G_Rule_call.raw B_Rule_call .nil) (hr.mono (by decide)) pass0 h2))) (blkOk_by (N := N_keeps) (sc := defScope s_keeps) (by decide +kernel)) (fun _ _ _ _ _ => (pgd_name (pg_name (i := 4) nd rfl (Or.inl rfl)))) (fun _ _ _ _ _ => pbs_nil) (fun _ _ _ _ _ => (pd_chain opd_le opd_le (pd_var (pv 1)) (pd_op opd_sub (pd_var (pv 3)) (pd_var (pv 4))) (pd_op opd_add (pd_var (pv 1)) (pd_var (pv 2))))) (by decide)) pad_nil))))
      (psd_one (psd_ret pd_bl))
      psd_nil)))
      (psd_one (psd_ret pd_bl)))
abbrev N_Rule_gaps : List Str := ["self", "tick", "found", "before", "age"]
theorem sc_Rule_gaps : FnScope N_Rule_gaps ["self", "tick"] (defScope s_Rule_gaps) := ⟨rfl, rfl, rfl, by decide +kernel, rfl, by decide +kernel, by decide +kernel⟩
theorem ok_Rule_gaps (F : ∃ fd, FunD K "gaps" "Rule.gaps" (defArgs s_Rule_gaps) (defBody s_Rule_gaps) (defScope s_Rule_gaps) [] [] (DH.ma K (DH.ga K "Rule") "gaps") fd) (T : Txt K mg) (c_Rule_ages : Ok P w K mg 2 (DH.ma K (DH.ga K "Rule") "_ages") ["self", "tick"] (m_Rule_ages K)) : Ok P w K mg 3 (DH.ma K (DH.ga K "Rule") "gaps") ["self", "tick"] (m_Rule_gaps K) := by
  obtain ⟨fd, F⟩ := F
  obtain ⟨fd_Rule_ages, G_Rule_ages, B_Rule_ages, K_Rule_ages, _⟩ := c_Rule_ages
  have nd := sc_Rule_gaps.nd
  refine ⟨fd, fun base => fnd_ok F sc_Rule_gaps (fun cdv A outer s H E hr => ?_) (fun ds O Φ _ h => by unfold m_Rule_gaps at h; exact h), F.bindsN (fun _ _ _ _ _ _ us hl => match us, hl with | [_, _], _ => rfl), F.kp, fun s us hl => F.bindsA (fun _ _ _ _ _ _ us hl => match us, hl with | [_, _], _ => rfl) s us hl⟩
  have G_Rule_ages := G_Rule_ages base
  have hu := hu_of hr
  exact (psd_cons (psd_set (i := 2) nd rfl (Or.inl rfl) (pd_lstO pad_nil))
      (psd_cons (psd_set (i := 3) nd rfl (Or.inl rfl) pd_int)
      (psd_cons (psd_for PassesOwn.never rfl (pid_list (pd_meth (as := [(eVar 1)]) T.c_Rule T.m_Rule__ages G_Rule_ages (hr.mono (by decide)) B_Rule_ages (pd_var (pv 0)) (pad_cons (pd_var (pv 1)) pad_nil) (fun ta tt h1 h2 => pe_meth h1 T.c_Rule T.m_Rule__ages G_Rule_ages (hr.mono (by decide)) B_Rule_ages .nil pass0 h2))) (pgd_name (pg_name (i := 4) nd rfl (Or.inl rfl)))
      (psd_cons (psd_expr (pd_append (as := [(eOp mSub (eVar 4) (eVar 3))]) (pd_var (pv 2)) (pad_cons (pd_op opd_sub (pd_var (pv 4)) (pd_var (pv 3))) pad_nil) (fun to ta h1 h2 => pe_bm PySem.F.plainAttrs_list PySem.F.slot_list_append PySem.F.type_list_append mt_append h1 h2)))
      (psd_one (psd_set (i := 3) nd rfl (Or.inl rfl) (pd_var (pv 4))))))
      (psd_one (psd_retF (pd_var (pv 2)))))))
abbrev N_room_at : List Str := ["rule", "tick", "pages", "rate", "gap"]
theorem sc_room_at : FnScope N_room_at ["rule", "tick", "pages", "rate"] (defScope s_room_at) := ⟨rfl, rfl, rfl, by decide +kernel, rfl, by decide +kernel, by decide +kernel⟩
theorem ok_room_at (F : ∃ fd, FunD K "room_at" "room_at" (defArgs s_room_at) (defBody s_room_at) (defScope s_room_at) [] [] (DH.ga K "room_at") fd) (T : Txt K mg) (c_Rule_gaps : Ok P w K mg 3 (DH.ma K (DH.ga K "Rule") "gaps") ["self", "tick"] (m_Rule_gaps K)) : Ok P w K mg 4 (DH.ga K "room_at") ["rule", "tick", "pages", "rate"] (m_room_at K) := by
  obtain ⟨fd, F⟩ := F
  obtain ⟨fd_Rule_gaps, G_Rule_gaps, B_Rule_gaps, K_Rule_gaps, _⟩ := c_Rule_gaps
  have nd := sc_room_at.nd
  refine ⟨fd, fun base => fnd_ok F sc_room_at (fun cdv A outer s H E hr => ?_) (fun ds O Φ _ h => by unfold m_room_at at h; exact h), F.bindsN (fun _ _ _ _ _ _ us hl => match us, hl with | [_, _, _, _], _ => rfl), F.kp, fun s us hl => F.bindsA (fun _ _ _ _ _ _ us hl => match us, hl with | [_, _, _, _], _ => rfl) s us hl⟩
  have G_Rule_gaps := G_Rule_gaps base
  have hu := hu_of hr
  exact (psd_one (psd_ret (pd_op opd_add (pd_var (pv 2)) (pd_callB (as := [(eLc [4] (itSeq (eMeth (DH.ga K "Rule") "gaps" (m_Rule_gaps K) (eVar 0) [(eVar 1)])) (dName 4) bYes (eCB mMin2 [(eVar 2), (eOp mMul (eVar 3) (eVar 4))]))]) (call_sumD rfl) (by rfl) T.f_sum bt_sum (pad_cons (pd_lc [("gap", 4)] rfl nd (pid_list (pd_meth (as := [(eVar 1)]) T.c_Rule T.m_Rule_gaps G_Rule_gaps (hr.mono (by decide)) B_Rule_gaps (pd_var (pv 0)) (pad_cons (pd_var (pv 1)) pad_nil) (fun ta tt h1 h2 => pe_meth h1 T.c_Rule T.m_Rule_gaps G_Rule_gaps (hr.mono (by decide)) B_Rule_gaps .nil pass0 h2))) (blkOk_by (N := N_room_at) (sc := defScope s_room_at) (by decide +kernel)) (fun _ _ _ _ _ => (pgd_name (pg_name (i := 4) nd rfl (Or.inl rfl)))) (fun _ _ _ _ _ => pbs_nil) (fun _ _ _ _ _ => (pd_callB (as := [(eVar 2), (eOp mMul (eVar 3) (eVar 4))]) (call_min2D rfl) (by rfl) T.f_min bt_min (pad_cons (pd_var (pv 2)) (pad_cons (pd_op opd_mul (pd_var (pv 3)) (pd_var (pv 4))) pad_nil)))) (by decide)) pad_nil)))))
abbrev N_greatest_room : List Str := ["rule", "pages", "rate", "best", "tick", "room"]
theorem sc_greatest_room : FnScope N_greatest_room ["rule", "pages", "rate"] (defScope s_greatest_room) := ⟨rfl, rfl, rfl, by decide +kernel, rfl, by decide +kernel, by decide +kernel⟩
theorem ok_greatest_room (F : ∃ fd, FunD K "greatest_room" "greatest_room" (defArgs s_greatest_room) (defBody s_greatest_room) (defScope s_greatest_room) [] [] (DH.ga K "greatest_room") fd) (T : Txt K mg) (c_Rule_settled : Ok P w K mg 2 (DH.pg K (DH.ga K "Rule") "settled") ["self"] (m_Rule_settled K)) (c_Rule_period : Ok P w K mg 2 (DH.pg K (DH.ga K "Rule") "period") ["self"] (m_Rule_period K)) (c_room_at : Ok P w K mg 4 (DH.ga K "room_at") ["rule", "tick", "pages", "rate"] (m_room_at K)) : Ok P w K mg 5 (DH.ga K "greatest_room") ["rule", "pages", "rate"] (m_greatest_room K) := by
  obtain ⟨fd, F⟩ := F
  obtain ⟨fd_Rule_settled, G_Rule_settled, B_Rule_settled, K_Rule_settled, _⟩ := c_Rule_settled
  obtain ⟨fd_Rule_period, G_Rule_period, B_Rule_period, K_Rule_period, _⟩ := c_Rule_period
  obtain ⟨fd_room_at, G_room_at, B_room_at, K_room_at, _⟩ := c_room_at
  have nd := sc_greatest_room.nd
  refine ⟨fd, fun base => fnd_ok F sc_greatest_room (fun cdv A outer s H E hr => ?_) (fun ds O Φ _ h => by unfold m_greatest_room at h; exact h), F.bindsN (fun _ _ _ _ _ _ us hl => match us, hl with | [_, _, _], _ => rfl), F.kp, fun s us hl => F.bindsA (fun _ _ _ _ _ _ us hl => match us, hl with | [_, _, _], _ => rfl) s us hl⟩
  have G_Rule_settled := G_Rule_settled base
  have G_Rule_period := G_Rule_period base
  have G_room_at := G_room_at base
  have hu := hu_of hr
  exact (psd_cons (psd_set (i := 3) nd rfl (Or.inl rfl) (pd_tup (pad_cons pd_int (pad_cons pd_int pad_nil))))
      (psd_cons (psd_for PassesOwn.never rfl (pid_range1 (as := [(eOp mAdd (eProp (DH.ga K "Rule") (m_Rule_settled K) (eVar 0)) (eProp (DH.ga K "Rule") (m_Rule_period K) (eVar 0)))]) (by rfl) T.f_range (pad_cons (pd_op opd_add (pd_prop T.c_Rule T.p_Rule_settled G_Rule_settled (hr.mono (by decide)) B_Rule_settled (pd_var (pv 0)) rfl) (pd_prop T.c_Rule T.p_Rule_period G_Rule_period (hr.mono (by decide)) B_Rule_period (pd_var (pv 0)) rfl)) pad_nil)) (pgd_name (pg_name (i := 4) nd rfl (Or.inl rfl)))
      (psd_cons (psd_set (i := 5) nd rfl (Or.inl rfl) (pd_call (as := [(eVar 0), (eVar 4), (eVar 1), (eVar 2)]) G_room_at (hr.mono (by decide)) (by rfl) T.g_room_at K_room_at B_room_at (pad_cons (pd_var (pv 0)) (pad_cons (pd_var (pv 4)) (pad_cons (pd_var (pv 1)) (pad_cons (pd_var (pv 2)) pad_nil))))))
      (psd_one (psd_if (pb_cmp opd_gt (pd_var (pv 5)) (pd_ix (pd_var (pv 3)) pd_int (fun _ _ => rfl)) (nomark _))
      (psd_one (psd_set (i := 3) nd rfl (Or.inl rfl) (pd_tup (pad_cons (pd_var (pv 5)) (pad_cons (pd_var (pv 4)) pad_nil)))))
      psd_nil))))
      (psd_one (psd_ret (pd_var (pv 3))))))
abbrev N_best_rule : List Str := ["rules", "wants", "pages", "rate", "best", "least", "index", "rule", "room", "age", "slack"]
theorem sc_best_rule : FnScope N_best_rule ["rules", "wants", "pages", "rate"] (defScope s_best_rule) := ⟨rfl, rfl, rfl, by decide +kernel, rfl, by decide +kernel, by decide +kernel⟩
theorem ok_best_rule (F : ∃ fd, FunD K "best_rule" "best_rule" (defArgs s_best_rule) (defBody s_best_rule) (defScope s_best_rule) [] [] (DH.ga K "best_rule") fd) (T : Txt K mg) (c_keeps : Ok P w K mg 4 (DH.ga K "keeps") ["rule", "age", "slack"] (m_keeps K)) (c_greatest_room : Ok P w K mg 5 (DH.ga K "greatest_room") ["rule", "pages", "rate"] (m_greatest_room K)) : Ok P w K mg 6 (DH.ga K "best_rule") ["rules", "wants", "pages", "rate"] (m_best_rule K) := by
  obtain ⟨fd, F⟩ := F
  obtain ⟨fd_keeps, G_keeps, B_keeps, K_keeps, _⟩ := c_keeps
  obtain ⟨fd_greatest_room, G_greatest_room, B_greatest_room, K_greatest_room, _⟩ := c_greatest_room
  have nd := sc_best_rule.nd
  refine ⟨fd, fun base => fnd_ok F sc_best_rule (fun cdv A outer s H E hr => ?_) (fun ds O Φ _ h => by unfold m_best_rule at h; exact h), F.bindsN (fun _ _ _ _ _ _ us hl => match us, hl with | [_, _, _, _], _ => rfl), F.kp, fun s us hl => F.bindsA (fun _ _ _ _ _ _ us hl => match us, hl with | [_, _, _, _], _ => rfl) s us hl⟩
  have G_keeps := G_keeps base
  have G_greatest_room := G_greatest_room base
  have hu := hu_of hr
  exact (psd_cons (psd_set (i := 4) nd rfl (Or.inl rfl) pd_non)
      (psd_cons (psd_set (i := 5) nd rfl (Or.inl rfl) pd_int)
      (psd_cons (psd_for PassesOwn.never rfl (pid_enum (as := [(eVar 0)]) (by rfl) T.f_enumerate (pad_cons (pd_var (pv 0)) pad_nil)) (pgd_tup rfl (pgds_cons (pgd_name (pg_name (i := 6) nd rfl (Or.inl rfl))) (pgds_cons (pgd_name (pg_name (i := 7) nd rfl (Or.inr rfl))) pgds_nil)))
      (psd_one (psd_if (pb_val (pd_callB (as := [(eLc [9, 10] (itSeq (eVar 1)) (dTup 2 (dCons (dName 9) (dCons (dName 10) dNil))) bYes (eCall (m_keeps K) [(eVar 7), (eVar 9), (eVar 10)]))]) (call_allD rfl) (by rfl) T.f_all bt_all (pad_cons (pd_lc [("age", 9), ("slack", 10)] rfl nd (pid_list (pd_var (pv 1))) (blkOk_by (N := N_best_rule) (sc := defScope s_best_rule) (by decide +kernel)) (fun _ _ _ _ _ => (pgd_tup rfl (pgds_cons (pgd_name (pg_name (i := 9) nd rfl (Or.inl rfl))) (pgds_cons (pgd_name (pg_name (i := 10) nd rfl (Or.inl rfl))) pgds_nil)))) (fun _ _ _ _ _ => pbs_nil) (fun _ _ _ _ _ => (pd_call (as := [(eVar 7), (eVar 9), (eVar 10)]) G_keeps (hr.mono (by decide)) (by rfl) T.g_keeps K_keeps B_keeps (pad_cons (pd_var (pv 7)) (pad_cons (pd_var (pv 9)) (pad_cons (pd_var (pv 10)) pad_nil))))) (by decide)) pad_nil)))
      (psd_cons (psd_set (i := 8) nd rfl (Or.inl rfl) (pd_ix (pd_call (as := [(eVar 7), (eVar 2), (eVar 3)]) G_greatest_room (hr.mono (by decide)) (by rfl) T.g_greatest_room K_greatest_room B_greatest_room (pad_cons (pd_var (pv 7)) (pad_cons (pd_var (pv 2)) (pad_cons (pd_var (pv 3)) pad_nil)))) pd_int (fun _ _ => rfl)))
      (psd_one (psd_if ((pw_or (pb_cmp opd_is (pd_var (pv 4)) pd_non (nomark _)) (pw_or1 (pb_cmp opd_lt (pd_var (pv 8)) (pd_var (pv 5)) (nomark _))))).pb
      (psd_cons (psd_set (i := 4) nd rfl (Or.inl rfl) (pd_var (pv 6)))
      (psd_one (psd_set (i := 5) nd rfl (Or.inl rfl) (pd_var (pv 8)))))
      psd_nil)))
      psd_nil)))
      (psd_one (psd_ret (pd_var (pv 4)))))))
abbrev N_law_is : List Str := ["told", "due", "key", "k"]
theorem sc_law_is : FnScope N_law_is ["told", "due"] (defScope s_law_is) := ⟨rfl, rfl, rfl, by decide +kernel, rfl, by decide +kernel, by decide +kernel⟩
theorem ok_law_is (F : ∃ fd, FunD K "_law_is" "_law_is" (defArgs s_law_is) (defBody s_law_is) (defScope s_law_is) [] [] (DH.ga K "_law_is") fd) (T : Txt K mg) : Ok P w K mg 2 (DH.ga K "_law_is") ["told", "due"] (m_law_is) := by
  obtain ⟨fd, F⟩ := F
  have nd := sc_law_is.nd
  refine ⟨fd, fun base => fnd_ok F sc_law_is (fun cdv A outer s H E hr => ?_) (fun ds O Φ _ h => by unfold m_law_is at h; exact h), F.bindsN (fun _ _ _ _ _ _ us hl => match us, hl with | [_, _], _ => rfl), F.kp, fun s us hl => F.bindsA (fun _ _ _ _ _ _ us hl => match us, hl with | [_, _], _ => rfl) s us hl⟩
  have hu := hu_of hr
  exact (psd_cons (psd_if (pb_cmp opd_is (pd_var (pv 1)) pd_non (nomark _))
      (psd_one (psd_ret (pd_cmp opd_is (pd_var (pv 0)) pd_non (nomark _))))
      psd_nil)
      (psd_cons (psd_if (pb_val (pd_callB (as := [(eVar 1), (eC (.ty "int"))]) call_isiD (by rfl) T.f_isinstance bt_isinstance (pad_cons (pd_var (pv 1)) (pad_cons (pd_ty (by rfl) T.f_int bt_int) pad_nil))))
      (psd_one (psd_ret (pd_and (pd_callB (as := [(eVar 0), (eC (.ty "int"))]) call_isiD (by rfl) T.f_isinstance bt_isinstance (pad_cons (pd_var (pv 0)) (pad_cons (pd_ty (by rfl) T.f_int bt_int) pad_nil))) (pd_and (pd_not (pd_callB (as := [(eVar 0), (eC (.ty "bool"))]) call_isiD (by rfl) T.f_isinstance bt_isinstance (pad_cons (pd_var (pv 0)) (pad_cons (pd_ty (by rfl) T.f_bool bt_bool) pad_nil)))) (pd_one (pd_cmp (opd_eq hr.units) (pd_var (pv 0)) (pd_var (pv 1)) (nomark _)))))))
      psd_nil)
      psd_never))
abbrev N_law_best : List Str := ["rules", "tables", "rooms", "wants", "pages", "rate", "good", "passed", "asked", "told", "least", "k", "age", "slack"]
theorem sc_law_best : FnScope N_law_best ["rules", "tables", "rooms", "wants", "pages", "rate"] (defScope s_law_best) := ⟨rfl, rfl, rfl, by decide +kernel, rfl, by decide +kernel, by decide +kernel⟩
theorem ok_law_best (F : ∃ fd, FunD K "_law_best" "_law_best" (defArgs s_law_best) (defBody s_law_best) (defScope s_law_best) [] [] (DH.ga K "_law_best") fd) (T : Txt K mg) (c_law_keeps : Ok P w K mg 2 (DH.ga K "_law_keeps") ["table", "age", "slack"] (m_law_keeps)) (c_best_rule : Ok P w K mg 6 (DH.ga K "best_rule") ["rules", "wants", "pages", "rate"] (m_best_rule K)) (c_law_is : Ok P w K mg 2 (DH.ga K "_law_is") ["told", "due"] (m_law_is)) : Ok P w K mg 7 (DH.ga K "_law_best") ["rules", "tables", "rooms", "wants", "pages", "rate"] (m_law_best K) := by
  obtain ⟨fd, F⟩ := F
  obtain ⟨fd_law_keeps, G_law_keeps, B_law_keeps, K_law_keeps, _⟩ := c_law_keeps
  obtain ⟨fd_best_rule, G_best_rule, B_best_rule, K_best_rule, _⟩ := c_best_rule
  obtain ⟨fd_law_is, G_law_is, B_law_is, K_law_is, _⟩ := c_law_is
  have nd := sc_law_best.nd
  refine ⟨fd, fun base => fnd_ok F sc_law_best (fun cdv A outer s H E hr => ?_) (fun ds O Φ _ h => by unfold m_law_best at h; exact h), F.bindsN (fun _ _ _ _ _ _ us hl => match us, hl with | [_, _, _, _, _, _], _ => rfl), F.kp, fun s us hl => F.bindsA (fun _ _ _ _ _ _ us hl => match us, hl with | [_, _, _, _, _, _], _ => rfl) s us hl⟩
  have G_law_keeps := G_law_keeps base
  have G_best_rule := G_best_rule base
  have G_law_is := G_law_is base
  have hu := hu_of hr
  exact (psd_cons (psd_setLc [("k", 11)] rfl nd rfl rfl (sw_true rfl rfl rfl (by decide +kernel)) (pid_range1 (as := [(eCB mLen [(eVar 0)])]) (by rfl) T.f_range (pad_cons (pd_callB (as := [(eVar 0)]) call_lenD (by rfl) T.f_len bt_len (pad_cons (pd_var (pv 0)) pad_nil)) pad_nil)) (blkOk_by (N := N_law_best) (sc := defScope s_law_best) (by decide +kernel)) (fun _ _ _ _ _ => (pgd_name (pg_name (i := 11) nd rfl (Or.inr rfl)))) (fun _ _ _ _ _ => (pbs_one (pb_val (pd_callB (as := [(eLc [12, 13] (itSeq (eVar 3)) (dTup 2 (dCons (dName 12) (dCons (dName 13) dNil))) bYes (eCall (m_law_keeps) [(eOp mIx (eVar 1) (eVar 11)), (eVar 12), (eVar 13)]))]) (call_allD rfl) (by rfl) T.f_all bt_all (pad_cons (pd_lc [("age", 12), ("slack", 13)] rfl nd (pid_list (pd_var (pv 3))) (blkOk_by (N := N_law_best) (sc := (relS _ (defScope s_law_best))) (by decide +kernel)) (fun _ _ _ _ _ => (pgd_tup rfl (pgds_cons (pgd_name (pg_name (i := 12) nd rfl (Or.inl rfl))) (pgds_cons (pgd_name (pg_name (i := 13) nd rfl (Or.inl rfl))) pgds_nil)))) (fun _ _ _ _ _ => pbs_nil) (fun _ _ _ _ _ => (pd_call (as := [(eOp mIx (eVar 1) (eVar 11)), (eVar 12), (eVar 13)]) G_law_keeps (hr.mono (by decide)) (by rfl) T.g__law_keeps K_law_keeps B_law_keeps (pad_cons (pd_ix (pd_var (pv 1)) (pd_var (pv 11)) (fun _ _ => rfl)) (pad_cons (pd_var (pv 12)) (pad_cons (pd_var (pv 13)) pad_nil))))) (by decide)) pad_nil))))) (fun _ _ _ _ _ => (pd_var (pv 11))) (by decide))
      (psd_cons (psd_set (i := 7) nd rfl (Or.inl rfl) (pd_callTy (as := [(eVar 0)]) call_listD (by rfl) T.f_list bt_list (pad_cons (pd_var (pv 0)) pad_nil)))
      (psd_cons (psd_set (i := 8) nd rfl (Or.inl rfl) (pd_callTy (as := [(eVar 3)]) call_listD (by rfl) T.f_list bt_list (pad_cons (pd_var (pv 3)) pad_nil)))
      (psd_cons (psd_set (i := 9) nd rfl (Or.inl rfl) (pd_call (as := [(eVar 7), (eVar 8), (eVar 4), (eVar 5)]) G_best_rule (hr.mono (by decide)) (by rfl) T.g_best_rule K_best_rule B_best_rule (pad_cons (pd_var (pv 7)) (pad_cons (pd_var (pv 8)) (pad_cons (pd_var (pv 4)) (pad_cons (pd_var (pv 5)) pad_nil))))))
      (psd_cons (psd_if ((pw_or (pb_cmp (opd_ne hr.units) (pd_callB (as := [(eVar 7)]) call_lenD (by rfl) T.f_len bt_len (pad_cons (pd_var (pv 7)) pad_nil)) (pd_callB (as := [(eVar 0)]) call_lenD (by rfl) T.f_len bt_len (pad_cons (pd_var (pv 0)) pad_nil)) (nomark _)) (pw_or1 (pb_cmp (opd_ne hr.units) (pd_var (pv 8)) (pd_var (pv 3)) (nomark _))))).pb
      (psd_one (psd_ret pd_bl))
      psd_nil)
      (psd_cons (psd_if (pb_cmp (opd_eq hr.units) (pd_callB (as := [(eVar 6)]) call_lenD (by rfl) T.f_len bt_len (pad_cons (pd_var (pv 6)) pad_nil)) pd_int (nomark _))
      (psd_one (psd_ret (pd_cmp opd_is (pd_var (pv 9)) pd_non (nomark _))))
      psd_nil)
      (psd_cons (psd_set (i := 10) nd rfl (Or.inr rfl) (pd_callB (as := [(eLc [11] (itSeq (eVar 6)) (dName 11) bYes (eOp mIx (eVar 2) (eVar 11)))]) (call_minD rfl) (by rfl) T.f_min bt_min (pad_cons (pd_lc [("k", 11)] rfl nd (pid_list (pd_var (pv 6))) (blkOk_by (N := N_law_best) (sc := defScope s_law_best) (by decide +kernel)) (fun _ _ _ _ _ => (pgd_name (pg_name (i := 11) nd rfl (Or.inl rfl)))) (fun _ _ _ _ _ => pbs_nil) (fun _ _ _ _ _ => (pd_ix (pd_var (pv 2)) (pd_var (pv 11)) (fun _ _ => rfl))) (by decide)) pad_nil)))
      (psd_one (psd_ret (pd_call (as := [(eVar 9), (eOp mIx (eLc [11] (itSeq (eVar 6)) (dName 11) (bVal (eOp mEq (eOp mIx (eVar 2) (eVar 11)) (eVar 10))) (eVar 11)) (eC (.int 0)))]) G_law_is (hr.mono (by decide)) (by rfl) T.g__law_is K_law_is B_law_is (pad_cons (pd_var (pv 9)) (pad_cons (pd_ix (pd_lc [("k", 11)] rfl nd (pid_list (pd_var (pv 6))) (blkOk_by (N := N_law_best) (sc := defScope s_law_best) (by decide +kernel)) (fun _ _ _ _ _ => (pgd_name (pg_name (i := 11) nd rfl (Or.inl rfl)))) (fun _ _ _ _ _ => (pbs_one (pb_cmp (opd_eq hr.units) (pd_ix (pd_var (pv 2)) (pd_var (pv 11)) (fun _ _ => rfl)) (pd_var (pv 10)) (nomark _)))) (fun _ _ _ _ _ => (pd_var (pv 11))) (by decide)) pd_int (fun _ _ => rfl)) pad_nil))))))))))))
abbrev N_law : List Str := ["script", "state", "many", "asked", "drawn", "pages", "rate", "tables", "rooms", "wants", "rules", "k", "some", "age", "slack", "due", "told", "rows"]
theorem sc_law : FnScope N_law ["script"] (defScope s_law) := ⟨rfl, rfl, rfl, by decide +kernel, rfl, by decide +kernel, by decide +kernel⟩
theorem ok_law (F : ∃ fd, FunD K "law" "law" (defArgs s_law) (defBody s_law) (defScope s_law) [] [] (DH.ga K "law") fd) (T : Txt K mg) (c_law_start : Ok P w K mg 2 (DH.ga K "_law_start") ["script"] (m_law_start)) (c_law_next : Ok P w K mg 3 (DH.ga K "_law_next") ["state", "limit"] (m_law_next)) (c_law_rule : Ok P w K mg 4 (DH.ga K "_law_rule") ["state", "most"] (m_law_rule)) (c_law_size : Ok P w K mg 4 (DH.ga K "_law_size") ["state"] (m_law_size)) (c_law_ages : Ok P w K mg 3 (DH.ga K "_law_ages") ["rows"] (m_law_ages)) (c_law_most : Ok P w K mg 3 (DH.ga K "_law_most") ["rows", "pages", "rate"] (m_law_most)) (c_law_wants : Ok P w K mg 4 (DH.ga K "_law_wants") ["state", "tables", "many"] (m_law_wants)) (c_Rule_init : Ok P w K mg 3 (DH.ma K (DH.ga K "Rule") "__init__") ["self", "rows"] (m_Rule_init K)) (c_law_keeps : Ok P w K mg 2 (DH.ga K "_law_keeps") ["table", "age", "slack"] (m_law_keeps)) (c_keeps : Ok P w K mg 4 (DH.ga K "keeps") ["rule", "age", "slack"] (m_keeps K)) (c_law_best : Ok P w K mg 7 (DH.ga K "_law_best") ["rules", "tables", "rooms", "wants", "pages", "rate"] (m_law_best K)) (c_best_rule : Ok P w K mg 6 (DH.ga K "best_rule") ["rules", "wants", "pages", "rate"] (m_best_rule K)) : Ok P w K mg 8 (DH.ga K "law") ["script"] (m_law K) := by
  obtain ⟨fd, F⟩ := F
  obtain ⟨fd_law_start, G_law_start, B_law_start, K_law_start, _⟩ := c_law_start
  obtain ⟨fd_law_next, G_law_next, B_law_next, K_law_next, _⟩ := c_law_next
  obtain ⟨fd_law_rule, G_law_rule, B_law_rule, K_law_rule, _⟩ := c_law_rule
  obtain ⟨fd_law_size, G_law_size, B_law_size, K_law_size, _⟩ := c_law_size
  obtain ⟨fd_law_ages, G_law_ages, B_law_ages, K_law_ages, _⟩ := c_law_ages
  obtain ⟨fd_law_most, G_law_most, B_law_most, K_law_most, _⟩ := c_law_most
  obtain ⟨fd_law_wants, G_law_wants, B_law_wants, K_law_wants, _⟩ := c_law_wants
  obtain ⟨fd_Rule_init, G_Rule_init, B_Rule_init, K_Rule_init, _⟩ := c_Rule_init
  obtain ⟨fd_law_keeps, G_law_keeps, B_law_keeps, K_law_keeps, _⟩ := c_law_keeps
  obtain ⟨fd_keeps, G_keeps, B_keeps, K_keeps, _⟩ := c_keeps
  obtain ⟨fd_law_best, G_law_best, B_law_best, K_law_best, _⟩ := c_law_best
  obtain ⟨fd_best_rule, G_best_rule, B_best_rule, K_best_rule, _⟩ := c_best_rule
  have nd := sc_law.nd
  refine ⟨fd, fun base => fnd_ok F sc_law (fun cdv A outer s H E hr => ?_) (fun ds O Φ _ h => by unfold m_law at h; exact h), F.bindsN (fun _ _ _ _ _ _ us hl => match us, hl with | [_], _ => rfl), F.kp, fun s us hl => F.bindsA (fun _ _ _ _ _ _ us hl => match us, hl with | [_], _ => rfl) s us hl⟩
  have G_law_start := G_law_start base
  have G_law_next := G_law_next base
  have G_law_rule := G_law_rule base
  have G_law_size := G_law_size base
  have G_law_ages := G_law_ages base
  have G_law_most := G_law_most base
  have G_law_wants := G_law_wants base
  have G_Rule_init := G_Rule_init base
  have G_law_keeps := G_law_keeps base
  have G_keeps := G_keeps base
  have G_law_best := G_law_best base
  have G_best_rule := G_best_rule base
  have hu := hu_of hr
  exact (psd_cons (psd_set (i := 1) nd rfl (Or.inr rfl) (pd_call (as := [(eVar 0)]) G_law_start (hr.mono (by decide)) (by rfl) T.g__law_start K_law_start B_law_start (pad_cons (pd_var (pv 0)) pad_nil)))
      (psd_cons (psd_set (i := 2) nd rfl (Or.inl rfl) (pd_op opd_add pd_int (pd_call (as := [(eVar 1), (eC (.int 4))]) G_law_next (hr.mono (by decide)) (by rfl) T.g__law_next K_law_next B_law_next (pad_cons (pd_var (pv 1)) (pad_cons pd_int pad_nil)))))
      (psd_cons (psd_set (i := 3) nd rfl (Or.inl rfl) (pd_call (as := [(eVar 1), (eC (.int 4))]) G_law_next (hr.mono (by decide)) (by rfl) T.g__law_next K_law_next B_law_next (pad_cons (pd_var (pv 1)) (pad_cons pd_int pad_nil))))
      (psd_cons (psd_if (pb_cmp (opd_eq hr.units) (pd_call (as := [(eVar 1), (eC (.int 16))]) G_law_next (hr.mono (by decide)) (by rfl) T.g__law_next K_law_next B_law_next (pad_cons (pd_var (pv 1)) (pad_cons pd_int pad_nil))) pd_int (nomark _))
      (psd_cons (psd_set (i := 2) nd rfl (Or.inl rfl) pd_int)
      (psd_one (psd_set (i := 3) nd rfl (Or.inl rfl) pd_int)))
      psd_nil)
      (psd_cons (psd_setLcO [("k", 11)] rfl nd rfl rfl (sw_true rfl rfl rfl (by decide +kernel)) (pid_range1 (as := [(eVar 2)]) (by rfl) T.f_range (pad_cons (pd_var (pv 2)) pad_nil)) (blkOk_by (N := N_law) (sc := defScope s_law) (by decide +kernel)) (fun _ _ _ _ _ => (pgd_name (pg_name (i := 11) nd rfl (Or.inl rfl)))) (fun _ _ _ _ _ => pbs_nil) (fun _ _ _ _ _ => (pd_call (as := [(eVar 1), (eC (.int 10))]) G_law_rule (hr.mono (by decide)) (by rfl) T.g__law_rule K_law_rule B_law_rule (pad_cons (pd_var (pv 1)) (pad_cons pd_int pad_nil)))) (by decide))
      (psd_cons (psd_if (pb_cmp (opd_eq hr.units) (pd_call (as := [(eVar 1), (eC (.int 2))]) G_law_next (hr.mono (by decide)) (by rfl) T.g__law_next K_law_next B_law_next (pad_cons (pd_var (pv 1)) (pad_cons pd_int pad_nil))) pd_int (nomark _))
      (psd_one (psd_asg (pd_callTy (as := [(eOp mIx (eVar 4) (eCall (m_law_next) [(eVar 1), (eVar 2)]))]) call_listD (by rfl) T.f_list bt_list (pad_cons (pd_ix (pd_var (pv 4)) (pd_call (as := [(eVar 1), (eVar 2)]) G_law_next (hr.mono (by decide)) (by rfl) T.g__law_next K_law_next B_law_next (pad_cons (pd_var (pv 1)) (pad_cons (pd_var (pv 2)) pad_nil))) (fun _ _ => rfl)) pad_nil)) (pgd_sub (pd_var (pv 4)) (pd_call (as := [(eVar 1), (eVar 2)]) G_law_next (hr.mono (by decide)) (by rfl) T.g__law_next K_law_next B_law_next (pad_cons (pd_var (pv 1)) (pad_cons (pd_var (pv 2)) pad_nil))) (psetd_set hu))))
      psd_nil)
      (psd_cons (psd_frz 4 (psd_set (i := 5) nd rfl (Or.inr rfl) (pd_call (as := [(eVar 1)]) G_law_size (hr.mono (by decide)) (by rfl) T.g__law_size K_law_size B_law_size (pad_cons (pd_var (pv 1)) pad_nil))))
      (psd_cons (psd_set (i := 6) nd rfl (Or.inr rfl) (pd_call (as := [(eVar 1)]) G_law_size (hr.mono (by decide)) (by rfl) T.g__law_size K_law_size B_law_size (pad_cons (pd_var (pv 1)) pad_nil)))
      (psd_cons (psd_setLc [("rows", 17)] rfl nd rfl rfl (sw_true rfl rfl rfl (by decide +kernel)) (pid_list (pd_var (pv 4))) (blkOk_by (N := N_law) (sc := defScope s_law) (by decide +kernel)) (fun _ _ _ _ _ => (pgd_name (pg_name (i := 17) nd rfl (Or.inl rfl)))) (fun _ _ _ _ _ => pbs_nil) (fun _ _ _ _ _ => (pd_call (as := [(eVar 17)]) G_law_ages (hr.mono (by decide)) (by rfl) T.g__law_ages K_law_ages B_law_ages (pad_cons (pd_var (pv 17)) pad_nil))) (by decide))
      (psd_cons (psd_setLc [("rows", 17)] rfl nd rfl rfl (sw_true rfl rfl rfl (by decide +kernel)) (pid_list (pd_var (pv 4))) (blkOk_by (N := N_law) (sc := defScope s_law) (by decide +kernel)) (fun _ _ _ _ _ => (pgd_name (pg_name (i := 17) nd rfl (Or.inl rfl)))) (fun _ _ _ _ _ => pbs_nil) (fun _ _ _ _ _ => (pd_call (as := [(eVar 17), (eVar 5), (eVar 6)]) G_law_most (hr.mono (by decide)) (by rfl) T.g__law_most K_law_most B_law_most (pad_cons (pd_var (pv 17)) (pad_cons (pd_var (pv 5)) (pad_cons (pd_var (pv 6)) pad_nil))))) (by decide))
      (psd_cons (psd_set (i := 9) nd rfl (Or.inl rfl) (pd_call (as := [(eVar 1), (eVar 7), (eVar 3)]) G_law_wants (hr.mono (by decide)) (by rfl) T.g__law_wants K_law_wants B_law_wants (pad_cons (pd_var (pv 1)) (pad_cons (pd_var (pv 7)) (pad_cons (pd_var (pv 3)) pad_nil)))))
      (psd_cons (psd_setLc [("rows", 17)] rfl nd rfl rfl (sw_true rfl rfl rfl (by decide +kernel)) (pid_list (pd_var (pv 4))) (blkOk_by (N := N_law) (sc := defScope s_law) (by decide +kernel)) (fun _ _ _ _ _ => (pgd_name (pg_name (i := 17) nd rfl (Or.inl rfl)))) (fun _ _ _ _ _ => pbs_nil) (fun _ _ _ _ _ => (pd_makeF (as := [(eCB mList [(eVar 17)])]) T.mk_Rule G_Rule_init (hr.mono (by decide)) (by rfl) T.g_Rule B_Rule_init (pad_cons (pd_callTy (as := [(eVar 17)]) call_listD (by rfl) T.f_list bt_list (pad_cons (pd_var (pv 17)) pad_nil)) pad_nil))) (by decide))
      (psd_cons (psd_for PassesOwn.never rfl (pid_range1 (as := [(eVar 2)]) (by rfl) T.f_range (pad_cons (pd_var (pv 2)) pad_nil)) (pgd_name (pg_name (i := 11) nd rfl (Or.inl rfl)))
      (psd_one (psd_for PassesOwn.never rfl (pid_list (pd_op opd_add (pd_var (pv 9)) (pd_lst (pad_cons (pd_tup (pad_cons pd_int (pad_cons pd_int pad_nil))) (pad_cons (pd_tup (pad_cons pd_int (pad_cons pd_int pad_nil))) (pad_cons (pd_tup (pad_cons pd_int (pad_cons pd_int pad_nil))) pad_nil)))))) (pgd_tup rfl (pgds_cons (pgd_name (pg_name (i := 13) nd rfl (Or.inl rfl))) (pgds_cons (pgd_name (pg_name (i := 14) nd rfl (Or.inl rfl))) pgds_nil)))
      (psd_cons (psd_set (i := 15) nd rfl (Or.inl rfl) (pd_call (as := [(eOp mIx (eVar 7) (eVar 11)), (eVar 13), (eVar 14)]) G_law_keeps (hr.mono (by decide)) (by rfl) T.g__law_keeps K_law_keeps B_law_keeps (pad_cons (pd_ix (pd_var (pv 7)) (pd_var (pv 11)) (fun _ _ => rfl)) (pad_cons (pd_var (pv 13)) (pad_cons (pd_var (pv 14)) pad_nil)))))
      (psd_cons (psd_set (i := 16) nd rfl (Or.inl rfl) (pd_call (as := [(eOp mIx (eVar 10) (eVar 11)), (eVar 13), (eVar 14)]) G_keeps (hr.mono (by decide)) (by rfl) T.g_keeps K_keeps B_keeps (pad_cons (pd_ix (pd_var (pv 10)) (pd_var (pv 11)) (fun _ _ => rfl)) (pad_cons (pd_var (pv 13)) (pad_cons (pd_var (pv 14)) pad_nil)))))
      (psd_one (psd_if ((pw_or ((pw_and (pb_val (pd_var (pv 15))) (pw_and1 (pb_cmp opd_isNot (pd_var (pv 16)) pd_bl (nomark _))))).pb (pw_or1 ((pw_and (pb_not (pb_val (pd_var (pv 15)))) (pw_and1 (pb_cmp opd_isNot (pd_var (pv 16)) pd_bl (nomark _))))).pb))).pb
      (psd_one (psd_ret pd_bl))
      psd_nil)))))))
      (psd_cons (psd_for PassesOwn.never rfl (pid_list (pd_lst (pad_cons (pd_var (pv 9)) (pad_cons (pd_lst pad_nil) (pad_cons (pd_op opd_add (pd_var (pv 9)) (pd_lst (pad_cons (pd_tup (pad_cons pd_int (pad_cons pd_int pad_nil))) pad_nil))) pad_nil))))) (pgd_name (pg_name (i := 12) nd rfl (Or.inl rfl)))
      (psd_one (psd_if (pb_not (pb_val (pd_call (as := [(eVar 10), (eVar 7), (eVar 8), (eSlL (eVar 12) (oSome (eNeg (eC (.int 8)))) oNone), (eVar 5), (eVar 6)]) G_law_best (hr.mono (by decide)) (by rfl) T.g__law_best K_law_best B_law_best (pad_cons (pd_var (pv 10)) (pad_cons (pd_var (pv 7)) (pad_cons (pd_var (pv 8)) (pad_cons (pd_slL (pd_var (pv 12)) (pod_some (pd_neg pd_int)) pod_none) (pad_cons (pd_var (pv 5)) (pad_cons (pd_var (pv 6)) pad_nil)))))))))
      (psd_one (psd_ret pd_bl))
      psd_nil)))
      (psd_cons (psd_if (pb_not (pb_val (pd_call (as := [(eRevL (eVar 10)), (eRevL (eVar 7)), (eRevL (eVar 8)), (eVar 9), (eVar 5), (eVar 6)]) G_law_best (hr.mono (by decide)) (by rfl) T.g__law_best K_law_best B_law_best (pad_cons (pd_revL (pd_var (pv 10))) (pad_cons (pd_revL (pd_var (pv 7))) (pad_cons (pd_revL (pd_var (pv 8))) (pad_cons (pd_var (pv 9)) (pad_cons (pd_var (pv 5)) (pad_cons (pd_var (pv 6)) pad_nil)))))))))
      (psd_one (psd_ret pd_bl))
      psd_nil)
      (psd_one (psd_ret (pd_cmp opd_is (pd_call (as := [(eLst []), (eCB mList [(eVar 9)]), (eVar 5), (eVar 6)]) G_best_rule (hr.mono (by decide)) (by rfl) T.g_best_rule K_best_rule B_best_rule (pad_cons (pd_lst pad_nil) (pad_cons (pd_callTy (as := [(eVar 9)]) call_listD (by rfl) T.f_list bt_list (pad_cons (pd_var (pv 9)) pad_nil)) (pad_cons (pd_var (pv 5)) (pad_cons (pd_var (pv 6)) pad_nil))))) pd_non (nomark _)))))))))))))))))))
end
/-! ### the head -/
def dd_law_start : DH.DD := ⟨fun K => DH.ga K "_law_start", "_law_start", "_law_start", defArgs s_law_start, defBody s_law_start, defScope s_law_start, [], []⟩
def dd_law_mix : DH.DD := ⟨fun K => DH.ga K "_law_mix", "_law_mix", "_law_mix", defArgs s_law_mix, defBody s_law_mix, defScope s_law_mix, [], []⟩
def dd_law_next : DH.DD := ⟨fun K => DH.ga K "_law_next", "_law_next", "_law_next", defArgs s_law_next, defBody s_law_next, defScope s_law_next, [], []⟩
def dd_law_rule : DH.DD := ⟨fun K => DH.ga K "_law_rule", "_law_rule", "_law_rule", defArgs s_law_rule, defBody s_law_rule, defScope s_law_rule, [], []⟩
def dd_law_size : DH.DD := ⟨fun K => DH.ga K "_law_size", "_law_size", "_law_size", defArgs s_law_size, defBody s_law_size, defScope s_law_size, [], []⟩
def dd_law_stands : DH.DD := ⟨fun K => DH.ga K "_law_stands", "_law_stands", "_law_stands", defArgs s_law_stands, defBody s_law_stands, defScope s_law_stands, [], []⟩
def dd_law_ages : DH.DD := ⟨fun K => DH.ga K "_law_ages", "_law_ages", "_law_ages", defArgs s_law_ages, defBody s_law_ages, defScope s_law_ages, [], []⟩
def dd_law_most : DH.DD := ⟨fun K => DH.ga K "_law_most", "_law_most", "_law_most", defArgs s_law_most, defBody s_law_most, defScope s_law_most, [], []⟩
def dd_law_needed : DH.DD := ⟨fun K => DH.ga K "_law_needed", "_law_needed", "_law_needed", defArgs s_law_needed, defBody s_law_needed, defScope s_law_needed, [], []⟩
def dd_law_wants : DH.DD := ⟨fun K => DH.ga K "_law_wants", "_law_wants", "_law_wants", defArgs s_law_wants, defBody s_law_wants, defScope s_law_wants, [], []⟩
def dd_Rule_may_follow : DH.DD := ⟨fun K => DH.ma K (DH.ga K "Rule") "_may_follow", "_may_follow", "Rule._may_follow", defArgs s_Rule_may_follow, defBody s_Rule_may_follow, defScope s_Rule_may_follow, [], []⟩
def dd_Rule_init : DH.DD := ⟨fun K => DH.ma K (DH.ga K "Rule") "__init__", "__init__", "Rule.__init__", defArgs s_Rule_init, defBody s_Rule_init, defScope s_Rule_init, [], []⟩
def dd_law_keeps : DH.DD := ⟨fun K => DH.ga K "_law_keeps", "_law_keeps", "_law_keeps", defArgs s_law_keeps, defBody s_law_keeps, defScope s_law_keeps, [], []⟩
def dd_Rule_settled : DH.DD := ⟨fun K => DH.pg K (DH.ga K "Rule") "settled", "settled", "Rule.settled", defArgs s_Rule_settled, defBody s_Rule_settled, defScope s_Rule_settled, [], []⟩
def dd_Rule_period : DH.DD := ⟨fun K => DH.pg K (DH.ga K "Rule") "period", "period", "Rule.period", defArgs s_Rule_period, defBody s_Rule_period, defScope s_Rule_period, [], []⟩
def dd_Rule_ages : DH.DD := ⟨fun K => DH.ma K (DH.ga K "Rule") "_ages", "_ages", "Rule._ages", defArgs s_Rule_ages, defBody s_Rule_ages, defScope s_Rule_ages, [], []⟩
def dd_Rule_call : DH.DD := ⟨fun K => DH.ma K (DH.ga K "Rule") "__call__", "__call__", "Rule.__call__", defArgs s_Rule_call, defBody s_Rule_call, defScope s_Rule_call, [], []⟩
def dd_keeps : DH.DD := ⟨fun K => DH.ga K "keeps", "keeps", "keeps", defArgs s_keeps, defBody s_keeps, defScope s_keeps, [], []⟩
def dd_Rule_gaps : DH.DD := ⟨fun K => DH.ma K (DH.ga K "Rule") "gaps", "gaps", "Rule.gaps", defArgs s_Rule_gaps, defBody s_Rule_gaps, defScope s_Rule_gaps, [], []⟩
def dd_room_at : DH.DD := ⟨fun K => DH.ga K "room_at", "room_at", "room_at", defArgs s_room_at, defBody s_room_at, defScope s_room_at, [], []⟩
def dd_greatest_room : DH.DD := ⟨fun K => DH.ga K "greatest_room", "greatest_room", "greatest_room", defArgs s_greatest_room, defBody s_greatest_room, defScope s_greatest_room, [], []⟩
def dd_best_rule : DH.DD := ⟨fun K => DH.ga K "best_rule", "best_rule", "best_rule", defArgs s_best_rule, defBody s_best_rule, defScope s_best_rule, [], []⟩
def dd_law_is : DH.DD := ⟨fun K => DH.ga K "_law_is", "_law_is", "_law_is", defArgs s_law_is, defBody s_law_is, defScope s_law_is, [], []⟩
def dd_law_best : DH.DD := ⟨fun K => DH.ga K "_law_best", "_law_best", "_law_best", defArgs s_law_best, defBody s_law_best, defScope s_law_best, [], []⟩
def dd_law : DH.DD := ⟨fun K => DH.ga K "law", "law", "law", defArgs s_law, defBody s_law, defScope s_law, [], []⟩
def fn : List DH.DD := [dd_law_start, dd_law_mix, dd_law_next, dd_law_rule, dd_law_size, dd_law_stands, dd_law_ages, dd_law_most, dd_law_needed, dd_law_wants, dd_Rule_may_follow, dd_Rule_init, dd_law_keeps, dd_Rule_settled, dd_Rule_period, dd_Rule_ages, dd_Rule_call, dd_keeps, dd_Rule_gaps, dd_room_at, dd_greatest_room, dd_best_rule, dd_law_is, dd_law_best, dd_law]
def fa : List DH.Fact := [DH.fHe (.free "abs"), DH.fHe (.free "all"), DH.fHe (.free "any"), DH.fHe (.free "bool"), DH.fHe (.free "enumerate"), DH.fHe (.free "int"), DH.fHe (.free "isinstance"), DH.fHe (.free "len"), DH.fHe (.free "list"), DH.fHe (.free "max"), DH.fHe (.free "min"), DH.fHe (.free "range"), DH.fHe (.free "reversed"), DH.fHe (.free "set"), DH.fHe (.free "sorted"), DH.fHe (.free "sum"), DH.fHe (.free "tuple"), DH.fHe (.glo "Rule"), DH.fHe (.glo "_law_ages"), DH.fHe (.glo "_law_best"), DH.fHe (.glo "_law_is"), DH.fHe (.glo "_law_keeps"), DH.fHe (.glo "_law_mix"), DH.fHe (.glo "_law_most"), DH.fHe (.glo "_law_needed"), DH.fHe (.glo "_law_next"), DH.fHe (.glo "_law_rule"), DH.fHe (.glo "_law_size"), DH.fHe (.glo "_law_stands"), DH.fHe (.glo "_law_start"), DH.fHe (.glo "_law_wants"), DH.fHe (.glo "best_rule"), DH.fHe (.glo "greatest_room"), DH.fHe (.glo "keeps"), DH.fHe (.glo "room_at"), DH.fHe (.cls "Rule"), DH.fCon "Rule" "MOST_ROWS" 4, DH.fCon "Rule" "MOST_PERIOD" 200, DH.fCon "Rule" "MOST_COUNT" 8, DH.fHe (.meth "Rule" "_may_follow"), DH.fHe (.noat "Rule" "rows"), DH.fHe (.meth "Rule" "_ages"), DH.fProp "Rule" "settled", DH.fProp "Rule" "period", DH.fCallO "Rule", DH.fHe (.meth "Rule" "gaps"), DH.fHe (.mkr "Rule"), DH.fHe (.glo "law")]
theorem txt {K : Frag} {h : Heap} {mg : Str → Option Value} (X : K.In h) (G : h.Ns mainGlobals mg) (c : DH.Says fa fn K) : Txt K mg := ⟨
  He.free_ok X G (c.fact 0),
  He.free_ok X G (c.fact 1),
  He.free_ok X G (c.fact 2),
  He.free_ok X G (c.fact 3),
  He.free_ok X G (c.fact 4),
  He.free_ok X G (c.fact 5),
  He.free_ok X G (c.fact 6),
  He.free_ok X G (c.fact 7),
  He.free_ok X G (c.fact 8),
  He.free_ok X G (c.fact 9),
  He.free_ok X G (c.fact 10),
  He.free_ok X G (c.fact 11),
  He.free_ok X G (c.fact 12),
  He.free_ok X G (c.fact 13),
  He.free_ok X G (c.fact 14),
  He.free_ok X G (c.fact 15),
  He.free_ok X G (c.fact 16),
  He.glo_ok X G (c.fact 17),
  He.glo_ok X G (c.fact 18),
  He.glo_ok X G (c.fact 19),
  He.glo_ok X G (c.fact 20),
  He.glo_ok X G (c.fact 21),
  He.glo_ok X G (c.fact 22),
  He.glo_ok X G (c.fact 23),
  He.glo_ok X G (c.fact 24),
  He.glo_ok X G (c.fact 25),
  He.glo_ok X G (c.fact 26),
  He.glo_ok X G (c.fact 27),
  He.glo_ok X G (c.fact 28),
  He.glo_ok X G (c.fact 29),
  He.glo_ok X G (c.fact 30),
  He.glo_ok X G (c.fact 31),
  He.glo_ok X G (c.fact 32),
  He.glo_ok X G (c.fact 33),
  He.glo_ok X G (c.fact 34),
  He.cls_ok (c.fact 35),
  DH.con_ok (c.fact 36),
  DH.con_ok (c.fact 37),
  DH.con_ok (c.fact 38),
  He.meth_ok (c.fact 39),
  He.noat_ok (c.fact 40),
  He.meth_ok (c.fact 41),
  DH.prop_ok (c.fact 42),
  DH.prop_ok (c.fact 43),
  DH.callO_ok (c.fact 44),
  He.meth_ok (c.fact 45),
  He.mkr_ok (c.fact 46)⟩
def lawFact : Nat := 47
/-- all defs, callees first -/
theorem all_ok {P : Program} {w : World} {K : Frag} {mg : Str → Option Value} {h : Heap} (X : K.In h) (G : h.Ns mainGlobals mg) (c : DH.Says fa fn K) : Ok P w K mg 8 (DH.ga K "law") ["script"] (m_law K) := by
  have T := txt X G c
  have o_law_start := ok_law_start (P := P) (w := w) (c.def_ 0 (d := dd_law_start) rfl) T
  have o_law_mix := ok_law_mix (P := P) (w := w) (c.def_ 1 (d := dd_law_mix) rfl) T
  have o_law_next := ok_law_next (P := P) (w := w) (c.def_ 2 (d := dd_law_next) rfl) T o_law_mix
  have o_law_rule := ok_law_rule (P := P) (w := w) (c.def_ 3 (d := dd_law_rule) rfl) T o_law_next
  have o_law_size := ok_law_size (P := P) (w := w) (c.def_ 4 (d := dd_law_size) rfl) T o_law_next
  have o_law_stands := ok_law_stands (P := P) (w := w) (c.def_ 5 (d := dd_law_stands) rfl) T
  have o_law_ages := ok_law_ages (P := P) (w := w) (c.def_ 6 (d := dd_law_ages) rfl) T o_law_stands
  have o_law_most := ok_law_most (P := P) (w := w) (c.def_ 7 (d := dd_law_most) rfl) T o_law_stands
  have o_law_needed := ok_law_needed (P := P) (w := w) (c.def_ 8 (d := dd_law_needed) rfl) T
  have o_law_wants := ok_law_wants (P := P) (w := w) (c.def_ 9 (d := dd_law_wants) rfl) T o_law_next o_law_needed
  have o_Rule_may_follow := ok_Rule_may_follow (P := P) (w := w) (c.def_ 10 (d := dd_Rule_may_follow) rfl) T
  have o_Rule_init := ok_Rule_init (P := P) (w := w) (c.def_ 11 (d := dd_Rule_init) rfl) T o_Rule_may_follow
  have o_law_keeps := ok_law_keeps (P := P) (w := w) (c.def_ 12 (d := dd_law_keeps) rfl) T
  have o_Rule_settled := ok_Rule_settled (P := P) (w := w) (c.def_ 13 (d := dd_Rule_settled) rfl) T
  have o_Rule_period := ok_Rule_period (P := P) (w := w) (c.def_ 14 (d := dd_Rule_period) rfl) T
  have o_Rule_ages := ok_Rule_ages (P := P) (w := w) (c.def_ 15 (d := dd_Rule_ages) rfl) T
  have o_Rule_call := ok_Rule_call (P := P) (w := w) (c.def_ 16 (d := dd_Rule_call) rfl) T o_Rule_ages
  have o_keeps := ok_keeps (P := P) (w := w) (c.def_ 17 (d := dd_keeps) rfl) T o_Rule_settled o_Rule_period o_Rule_call
  have o_Rule_gaps := ok_Rule_gaps (P := P) (w := w) (c.def_ 18 (d := dd_Rule_gaps) rfl) T o_Rule_ages
  have o_room_at := ok_room_at (P := P) (w := w) (c.def_ 19 (d := dd_room_at) rfl) T o_Rule_gaps
  have o_greatest_room := ok_greatest_room (P := P) (w := w) (c.def_ 20 (d := dd_greatest_room) rfl) T o_Rule_settled o_Rule_period o_room_at
  have o_best_rule := ok_best_rule (P := P) (w := w) (c.def_ 21 (d := dd_best_rule) rfl) T o_keeps o_greatest_room
  have o_law_is := ok_law_is (P := P) (w := w) (c.def_ 22 (d := dd_law_is) rfl) T
  have o_law_best := ok_law_best (P := P) (w := w) (c.def_ 23 (d := dd_law_best) rfl) T o_law_keeps o_best_rule o_law_is
  have o_law := ok_law (P := P) (w := w) (c.def_ 24 (d := dd_law) rfl) T o_law_start o_law_next o_law_rule o_law_size o_law_ages o_law_most o_law_wants o_Rule_init o_law_keeps o_keeps o_law_best o_best_rule
  exact o_law

end K68

set_option maxHeartbeats 0
namespace K68
open PySem PySem.Spec PyProof.Rows L2 DL
abbrev R : PySem.W.OpenRow := PySem.W.OpenLaw.row PySem.Challenge.rw_whatcomesfree_k68_rules_that_keep
abbrev hk : PySem.W.Hook := DH.hook 6 fa fn
def ob (s : PySem.W.SharedT) : DH.Al := DH.obsG 6 fa fn (HandSHeadRun.getT s)
theorem ob_eq (s : PySem.W.SharedT) : ob s = hk.obs s.abs := DH.obsG_eq (HandSHeadRun.getT_eq s)
def loose : List Str := ["_wall", "StoreError", "BadRule", "Rule", "keeps", "room_at", "greatest_room", "best_rule", "_law_mix", "_law_start", "_law_next", "_law_is", "_law_rule", "_law_stands", "_law_ages", "_law_keeps", "_law_needed", "_law_size", "_law_most", "_law_wants", "_law_best"]
theorem run (w : World) : HandSHeadRun.RunEq R (PySem.W.view R.prog [25]) hk ob 3000 loose w := by
  intro os
  kernel_rfl
end K68

set_option maxHeartbeats 1000000
namespace K68
open PySem PySem.Spec PyProof.Rows L2 DL
local macro_rules | `(tactic| walk_at "w") => `(tactic| with_reducible conv => whnf)
theorem mix_spec {n : Int} {O : OM} {Φ : D → OM → Prop} (h : ∀ r : Int, Φ (.int r) O) : m_law_mix [.int n] O Φ := by
  have z : (0 : Int) < 2 ^ Int.toNat 64 := by decide
  unfold m_law_mix
  refine ⟨.inr (by decide), _, rfl, ⟨by decide, by decide, by decide⟩, z, ?_⟩
  refine ⟨⟨by decide, by decide, by decide⟩, div_ok (by decide) (by decide), ?_⟩
  refine ⟨.inr (by decide), _, rfl, ⟨by decide, by decide, by decide⟩, z, ?_⟩
  refine ⟨⟨by decide, by decide, by decide⟩, div_ok (by decide) (by decide), ?_⟩
  exact h _
/-- the state of the draws -/
def St (L : List D) : Prop := ∃ (ns : List Int) (a b c : Int), L = [.lst (ns.map D.int), .int a, .int b, .int c] ∧ 0 ≤ a
theorem start_spec {ns : List Int} {O : OM} {Φ : D → OM → Prop} (h : ∀ p L, O p = none → St L → Φ (.ref p) (updO O p (.lst L))) : m_law_start [.scr (ns.map D.int)] O Φ := by
  unfold m_law_start
  refine ⟨_, _, rfl, rfl, ?_⟩
  exact fun p hp => h p _ hp ⟨ns, 0, 0, 0, rfl, Int.le_refl _⟩
theorem next_spec {p : Addr} {L : List D} {lim : Int} {O : OM} {Φ : D → OM → Prop} (hO : O p = some (.lst L)) (hL : St L) (h0 : 0 < lim) (h1 : lim < 2 ^ 64)
    (h : ∀ r L', 0 ≤ r → r < lim → St L' → Φ (.int r) (updO O p (.lst L'))) : m_law_next [.ref p, .int lim] O Φ := by
  obtain ⟨ns, a, b, c, rfl, ha⟩ := hL
  have fin : ∀ (a b c : Int) (O : OM) (x : Option D), 0 ≤ a → O p = some (.lst [.lst (ns.map D.int), .int a, .int b, .int c]) → (∀ r L', 0 ≤ r → r < lim → St L' → Φ (.int r) (updO O p (.lst L'))) → sSeq (sAsg (eOp mMod (eCB mInt [eOp mIx (eVar 0) (eC (D.int 2))]) (eVar 1)) (dName 2))
                (sSeq (sAsg (eOp mDiv (eOp mIx (eVar 0) (eC (D.int 2))) (eVar 1)) (dSub mSet (eVar 0) (eC (D.int 2))))
                  (sRet (eVar 2)))
                { nx := fun x O1 => Φ D.non O1, rt := Φ } [some (.ref p), some (.int lim), none, x] O := fun a b c O x ha hO h => by
    walk_at "w"
    refine ix_o hO (atI_2 ..) ?_
    walk_at "w"
    refine ⟨_, rfl, h0, ?_⟩
    walk_at "w"
    refine ix_o hO (atI_2 ..) ?_
    walk_at "w"
    refine ⟨div_ok h0 h1, ?_⟩
    walk_at "w"
    refine set_o hO ixN_42 ?_
    walk_at "w"
    exact h _ _ (Int.emod_nonneg _ (by omega)) (Int.emod_lt_of_pos _ h0) ⟨ns, a, _, c, rfl, ha⟩
  -- behind the number
  have num : ∀ (n : Int), sSeq (sAsg (eOp mAdd (eOp mIx (eVar 0) (eC (.int 1))) (eC (.int 1))) (dSub mSet (eVar 0) (eC (.int 1)))) (sAsg (eVar 3) (dSub mSet (eVar 0) (eC (.int 2))))
      { nx := sSeq (sAsg (eOp mMod (eCB mInt [eOp mIx (eVar 0) (eC (D.int 2))]) (eVar 1)) (dName 2))
                (sSeq (sAsg (eOp mDiv (eOp mIx (eVar 0) (eC (D.int 2))) (eVar 1)) (dSub mSet (eVar 0) (eC (D.int 2))))
                  (sRet (eVar 2)))
                { nx := fun x O1 => Φ D.non O1, rt := Φ }, rt := Φ } [some (.ref p), some (.int lim), none, some (.int n)] (updO O p (.lst [.lst (ns.map D.int), .int a, .int b, .int (c + 1)])) := fun n => by
    walk_at "w"
    refine ix_o updO_same (atI_1 ..) ?_
    walk_at "w"
    refine set_o updO_same ixN_41 ?_
    walk_at "w"
    refine set_o updO_same ixN_42 ?_
    refine fin (a + 1) n (c + 1) _ _ (by omega) (by simp) ?_
    intro r L' q1 q2 q3
    simp only [updO_updO]
    exact h r L' q1 q2 q3
  unfold m_law_next
  walk_at "w"
  refine ix_o hO (atI_3 ..) ?_
  walk_at "w"
  refine set_o hO ixN_43 ?_
  walk_at "w"
  refine ix_o updO_same (atI_2 ..) ?_
  walk_at "w"
  refine dec_ite (fun hb => ?_) (fun hb => ?_)
  · walk_at "w"
    refine ix_o updO_same (atI_3 ..) ?_
    walk_at "w"
    refine ix_o updO_same (atI_0 ..) ?_
    walk_at "w"
    refine len_l ?_
    walk_at "w"
    refine ⟨.inl ⟨by decide, by decide⟩, ?_⟩
    refine mix_spec fun n => ?_
    walk_at "w"
    refine ix_o updO_same (atI_1 ..) ?_
    walk_at "w"
    refine ix_o updO_same (atI_0 ..) ?_
    walk_at "w"
    refine len_l ?_
    walk_at "w"
    refine dec_ite (fun hl => ?_) (fun hl => ?_)
    · walk_at "w"
      rw [List.length_map] at hl
      have l : a.toNat < ns.length := by omega
      refine ix_o updO_same (atI_0 ..) ?_
      walk_at "w"
      refine ix_o updO_same (atI_1 ..) ?_
      walk_at "w"
      refine ix_l (atI_nat ha (int_at (List.getElem?_eq_getElem l))) ?_
      walk_at "w"
      refine ⟨_, rfl, ?_⟩
      walk_at "w"
      refine ⟨⟨by decide, by decide, by decide⟩, ?_⟩
      with_reducible refine lt_any (j := 10 ^ Int.toNat 18) fun k => ?_
      walk_at "w"
      refine b_ite (fun hl => ?_) (fun hl => ?_)
      · walk_at "w"
        refine mix_spec fun n2 => ?_
        walk_at "w"
        refine ix_o updO_same (atI_1 ..) ?_
        walk_at "w"
        refine mix_spec fun n3 => ?_
        exact num n3
      · exact num _
    · exact num _
  · refine fin a b (c + 1) _ _ ha updO_same ?_
    intro r L' q1 q2 q3
    rw [updO_updO]
    exact h r L' q1 q2 q3
end K68

set_option maxHeartbeats 1000000
namespace K68
open PySem PySem.Spec PyProof.Rows L2 DL
local macro_rules | `(tactic| walk_at "w") => `(tactic| with_reducible conv => whnf)
/-- the draws stand at p -/
def Dr (p : Addr) (O : OM) : Prop := ∃ L, O p = some (.lst L) ∧ St L
theorem Dr.keep {p q : Addr} {O : OM} {c : OC} (h : Dr p O) (n : p ≠ q) : Dr p (updO O q c) := by
  obtain ⟨L, h, s⟩ := h
  exact ⟨L, by rw [updO_ne n]; exact h, s⟩
theorem Dr.del {p q : Addr} {O : OM} (h : Dr p O) (n : p ≠ q) : Dr p (delO O q) := by
  obtain ⟨L, h, s⟩ := h
  exact ⟨L, by rw [delO_ne n]; exact h, s⟩
theorem Dr.ne {p q : Addr} {O : OM} (h : Dr p O) (hq : O q = none) : p ≠ q := fun e => by
  obtain ⟨L, h, s⟩ := h
  rw [e, hq] at h; cases h
theorem next_dr {p : Addr} {lim : Int} {O : OM} {Φ : D → OM → Prop} (hd : Dr p O) (h0 : 0 < lim) (h1 : lim < 2 ^ 64)
    (h : ∀ r O', 0 ≤ r → r < lim → Dr p O' → Exc p O O' → Φ (.int r) O') : m_law_next [.ref p, .int lim] O Φ := by
  obtain ⟨L, hO, hL⟩ := hd
  exact next_spec hO hL h0 h1 fun r L' a b c => h r _ a b ⟨L', updO_same, c⟩ Exc.refl.upd
def NextS (nx : M) : Prop := ∀ {p : Addr} {lim : Int} {O : OM} {Φ : D → OM → Prop}, Dr p O → 0 < lim → lim < 2 ^ 64 → (∀ r O', 0 ≤ r → r < lim → Dr p O' → Exc p O O' → Φ (.int r) O') → nx [.ref p, .int lim] O Φ
abbrev Row := Int × Int
def rowD (r : Row) : D := .tup [.int r.1, .int r.2]
structure RowOk (r : Row) : Prop where
  p1 : 1 ≤ r.1
  p2 : r.1 ≤ 10
  c1 : 1 ≤ r.2
  c2 : r.2 ≤ 8
structure Vr (rs : List Row) : Prop where
  ne : rs ≠ []
  len : rs.length ≤ 4
  mem : ∀ r ∈ rs, RowOk r
  chain : ∀ i a b, rs[i]? = some a → rs[i + 1]? = some b → a.1 < b.1 ∧ b.1 % a.1 = 0
theorem Vr.one {r : Row} (h : RowOk r) : Vr [r] := ⟨by simp, by simp, fun x hx => by rw [List.mem_singleton] at hx; rw [hx]; exact h, fun i a b _ h2 => by simp at h2⟩
theorem Vr.add {rs : List Row} {a r : Row} (h : Vr rs) (hl : rs.getLast? = some a) (hr : RowOk r) (n : rs.length < 4) (h1 : a.1 < r.1) (h2 : r.1 % a.1 = 0) : Vr (rs ++ [r]) := by
  refine ⟨by simp, by simp; omega, fun x hx => ?_, fun i x y hx hy => ?_⟩
  · rcases List.mem_append.mp hx with z | z
    · exact h.mem x z
    · rw [List.mem_singleton] at z; rw [z]; exact hr
  · by_cases l : i + 1 < rs.length
    · rw [List.getElem?_append_left (by omega)] at hx
      rw [List.getElem?_append_left l] at hy
      exact h.chain i x y hx hy
    · have l1 := (List.getElem?_eq_some_iff.mp hy).1
      rw [List.length_append, List.length_singleton] at l1
      have e : i + 1 = rs.length := by omega
      rw [e, List.getElem?_concat_length] at hy
      rw [List.getElem?_append_left (by omega)] at hx
      rw [List.getLast?_eq_getElem?, show rs.length - 1 = i by omega, hx] at hl
      cases hl; cases hy
      exact ⟨h1, h2⟩
theorem rule_t {nx : M} (next_dr : NextS nx) {p : Addr} {O : OM} {Φ : D → OM → Prop} (hd : Dr p O)
    (h : ∀ rs O', Vr rs → Dr p O' → Exc p O O' → Φ (.lst (rs.map rowD)) O') : bodyM 5 (t_law_rule nx) [.ref p, .int 10] O Φ := by
  have body : ∀ (e : Int) (O1 : OM), 1 ≤ e → e ≤ 10 → Dr p O1 → Exc p O O1 → sSeq (sAsg (eLstO [(eTup [(eVar 2), (eOp mAdd (eC (.int 1)) (eCall nx [(eVar 0), (eC (.int 8))]))])]) (dName 3))
      (sSeq (sFor (itR1 [(eCall nx [(eVar 0), (eC (.int 4))])]) (dName 4)
      (sSeq (sIf (bVal (eOp mGt (eOp mMul (eC (.int 2)) (eVar 2)) (eVar 1)))
  sBreak
  sNil)
      (sSeq (sAsg (eOp mMul (eVar 2) (eOp mAdd (eC (.int 2)) (eCall nx [(eVar 0), (eOp mSub (eOp mDiv (eVar 1) (eVar 2)) (eC (.int 1)))]))) (dName 2))
      (sExpr (eAppend (eVar 3) [(eTup [(eVar 2), (eOp mAdd (eC (.int 1)) (eCall nx [(eVar 0), (eC (.int 8))]))])])))))
      (sRetF (eVar 3))) { nx := fun x O1 => Φ D.non O1, rt := Φ } [some (.ref p), some (.int 10), some (.int e), none, none] O1 := by
    intro e O1 e1 e2 d1 x1
    walk_at "w"
    refine next_dr d1 (by decide) (by decide) fun r O2 r0 r1 d2 x2 => ?_
    walk_at "w"
    intro q hq
    have nq : p ≠ q := d2.ne hq
    have Oq : O q = none := by
      cases z : O q with
      | none => rfl
      | some c => rw [(x1.trans x2) q c (Ne.symm nq) z] at hq; cases hq
    have d3 := d2.keep (c := .lst [D.tup [D.int e, D.int (1 + r)]]) nq
    refine next_dr d3 (by decide) (by decide) fun r3 O3 r30 r31 d4 x4 => ?_
    walk_at "w"
    refine ⟨⟨by omega, by omega⟩, ?_⟩
    refine loop_ind (I := fun xs ds O' => ∃ e rs x4 b, ds = [some (.ref p), some (.int 10), some (.int e), some (.ref q), x4] ∧ 1 ≤ e ∧ e ≤ 10 ∧ O' q = some (.lst (rs.map rowD)) ∧ Dr p O' ∧ Exc p O O' ∧ Vr rs ∧ rs.getLast? = some (e, b) ∧ rs.length + xs.length ≤ 4) ?_ ?_ _ _ _ ?_
    · rintro ds O' ⟨e, rs, x4, b, rfl, e1, e2, hO, hd, hx, hv, hl, hn⟩
      walk_at "w"
      refine ⟨_, hO, ?_⟩
      exact h rs _ hv (hd.del nq) (hx.del Oq)
    · rintro x r ds O' ⟨e, rs, x4, b, rfl, e1, e2, hO, hd, hx, hv, hl, hn⟩ k
      walk_at "w"
      refine ⟨.inl ⟨by decide, by decide⟩, ?_⟩
      walk_at "w"
      refine dec_ite (fun hb => ?_) (fun hb => ?_)
      · walk_at "w"
        refine ⟨_, hO, ?_⟩
        exact h rs _ hv (hd.del nq) (hx.del Oq)
      · walk_at "w"
        refine ⟨div_ok (by omega) (by omega), ?_⟩
        walk_at "w"
        have dd : 2 ≤ 10 / e := (Int.le_ediv_iff_mul_le (by omega)).mpr (by omega)
        have dm : 10 / e * e ≤ 10 := Int.ediv_mul_le 10 (by omega)
        have du : 10 / e ≤ 10 := Int.ediv_le_self e (by decide)
        refine next_dr hd (by omega) (by omega) fun f O5 f0 f1 d5 x5 => ?_
        walk_at "w"
        refine ⟨.inl ⟨by omega, by omega⟩, ?_⟩
        walk_at "w"
        have b1 : e * (2 + f) ≤ 10 := by
          have : e * (2 + f) ≤ e * (10 / e) := Int.mul_le_mul_of_nonneg_left (by omega) (by omega)
          rw [Int.mul_comm e (10 / e)] at this
          omega
        have b2 : e < e * (2 + f) := by
          have : e * 2 ≤ e * (2 + f) := Int.mul_le_mul_of_nonneg_left (by omega) (by omega)
          omega
        have hO5 := x5 q _ (Ne.symm nq) hO
        refine ⟨⟨_, hO5⟩, ?_⟩
        refine next_dr d5 (by decide) (by decide) fun c O6 c0 c1 d6 x6 => ?_
        have hO6 := x6 q _ (Ne.symm nq) hO5
        walk_at "w"
        refine app_o hO6 (by rw [List.length_map]; omega) ?_
        refine k _ _ ⟨e * (2 + f), rs ++ [(e * (2 + f), 1 + c)], _, 1 + c, rfl, by omega, b1, ?_, d6.keep nq, (hx.trans (x5.trans x6)).new Oq, ?_, ?_, ?_⟩
        · rw [updO_same, List.map_append]; rfl
        · exact hv.add hl ⟨by simp; omega, by simp; omega, by simp; omega, by simp; omega⟩ (by simp at hn; omega) b2 (Int.mul_emod_right e (2 + f))
        · simp
        · simp at hn ⊢; omega
    · refine ⟨e, [(e, 1 + r)], none, 1 + r, rfl, e1, e2, ?_, d4, ?_, Vr.one ⟨e1, e2, by simp; omega, by simp; omega⟩, rfl, ?_⟩
      · exact x4 q _ (Ne.symm nq) updO_same
      · exact ((x1.trans x2).new Oq).trans x4
      · rw [rangeD_len]; simp; omega
  walk_at "w"
  refine next_dr hd (by decide) (by decide) fun r O1 r0 r1 d1 x1 => ?_
  walk_at "w"
  refine dec_ite (fun hb => ?_) (fun hb => ?_)
  · walk_at "w"
    refine next_dr d1 (by decide) (by decide) fun r' O2 r0' r1' d2 x2 => ?_
    exact body _ _ (by omega) (by omega) d2 (x1.trans x2)
  · exact body _ _ (by omega) (by omega) d1 x1
theorem rule_spec {p : Addr} {O : OM} {Φ : D → OM → Prop} (hd : Dr p O)
    (h : ∀ rs O', Vr rs → Dr p O' → Exc p O O' → Φ (.lst (rs.map rowD)) O') : m_law_rule [.ref p, .int 10] O Φ := by
  unfold m_law_rule
  exact rule_t next_dr hd h
theorem size_t {nx : M} (next_dr : NextS nx) {p : Addr} {O : OM} {Φ : D → OM → Prop} (hd : Dr p O)
    (h : ∀ r O', 1 ≤ r → r ≤ 1000 → Dr p O' → Exc p O O' → Φ (.int r) O') : bodyM 1 (t_law_size nx) [.ref p] O Φ := by
  walk_at "w"
  refine next_dr hd (by decide) (by decide) fun r O1 r0 r1 d1 x1 => ?_
  walk_at "w"
  refine dec_ite (fun hb => ?_) (fun hb => ?_)
  · walk_at "w"
    refine next_dr d1 (by decide) (by decide) fun r' O2 r0' r1' d2 x2 => ?_
    exact h _ _ (by omega) (by omega) d2 (x1.trans x2)
  · walk_at "w"
    refine next_dr d1 (by decide) (by decide) fun r' O2 r0' r1' d2 x2 => ?_
    exact h _ _ (by omega) (by omega) d2 (x1.trans x2)
theorem size_spec {p : Addr} {O : OM} {Φ : D → OM → Prop} (hd : Dr p O)
    (h : ∀ r O', 1 ≤ r → r ≤ 1000 → Dr p O' → Exc p O O' → Φ (.int r) O') : m_law_size [.ref p] O Φ := by
  unfold m_law_size
  exact size_t next_dr hd h
end K68

set_option maxHeartbeats 1000000
namespace K68
open PySem PySem.Spec PyProof.Rows L2 DL
/-- a day's stand -/
def StP (rs : List Row) (d x : Int) : Prop := 0 ≤ x ∧ ∃ r ∈ rs, ∃ k : Nat, (k : Int) < r.2 ∧ x = d - d % r.1 - k * r.1
open Classical in
noncomputable def standL (rs : List Row) (d : Int) : List Int := ((List.range (d + 1).toNat).map fun i : Nat => (i : Int)).filter fun x => decide (StP rs d x)
theorem standL_pw (rs : List Row) (d : Int) : (standL rs d).Pairwise (· < ·) := by
  unfold standL
  apply List.Pairwise.filter
  rw [List.pairwise_map]
  exact List.Pairwise.imp (fun h => by omega) List.pairwise_lt_range
open Classical in
theorem standL_mem {rs : List Row} {d x : Int} (hv : Vr rs) (hd : 0 ≤ d) : x ∈ standL rs d ↔ StP rs d x := by
  unfold standL
  rw [List.mem_filter, decide_eq_true_eq]
  refine ⟨fun h => h.2, fun h => ⟨?_, h⟩⟩
  obtain ⟨h0, r, hr, k, hk, e⟩ := h
  have o := hv.mem r hr
  have m := Int.emod_nonneg d (show r.1 ≠ 0 by have := o.p1; omega)
  have p : 0 ≤ (k : Int) * r.1 := Int.mul_nonneg (by omega) (by have := o.p1; omega)
  rw [List.mem_map]
  exact ⟨x.toNat, by rw [List.mem_range]; omega, by omega⟩
theorem pw_uniq {a b : List Int} (ha : a.Pairwise (· < ·)) (hb : b.Pairwise (· < ·)) (h : ∀ x, x ∈ a ↔ x ∈ b) : a = b := by
  have na : a.Nodup := ha.imp fun h => by omega
  have nb : b.Nodup := hb.imp fun h => by omega
  exact List.Perm.eq_of_pairwise (le := (· < ·)) (fun x y _ _ h1 h2 => by omega) ha hb ((List.perm_ext_iff_of_nodup na nb).mpr h)
theorem standL_uniq {rs : List Row} {d : Int} {out : List Int} (hv : Vr rs) (hd : 0 ≤ d) (h1 : out.Pairwise (· < ·)) (h2 : ∀ x, x ∈ out ↔ StP rs d x) : out = standL rs d :=
  pw_uniq h1 (standL_pw rs d) fun x => (h2 x).trans (standL_mem hv hd).symm
/-- the greatest -/
def mx : List Int → Int
  | [] => 0
  | x :: r => r.foldl max x
theorem foldl_max_ge : ∀ (r : List Int) (m : Int), m ≤ r.foldl max m ∧ (∀ y ∈ r, y ≤ r.foldl max m) ∧ (r.foldl max m = m ∨ r.foldl max m ∈ r)
  | [], m => ⟨Int.le_refl _, by simp, .inl rfl⟩
  | x :: r, m => by
    obtain ⟨a, b, c⟩ := foldl_max_ge r (max m x)
    rw [List.foldl_cons]
    refine ⟨by omega, fun y hy => ?_, ?_⟩
    · rcases List.mem_cons.mp hy with rfl | hy
      · omega
      · exact b y hy
    · rcases c with c | c
      · by_cases l : m ≤ x
        · right; rw [c, Int.max_eq_right l]; exact List.mem_cons_self
        · left; rw [c]; omega
      · right; exact List.mem_cons_of_mem _ c
theorem mx_uniq {ns : List Int} {m : Int} (h1 : m ∈ ns) (h2 : ∀ y ∈ ns, y ≤ m) : m = mx ns := by
  cases ns with
  | nil => cases h1
  | cons x r =>
    obtain ⟨a, b, c⟩ := foldl_max_ge r x
    have e1 : mx (x :: r) ≤ m := by
      rcases c with c | c
      · show r.foldl max x ≤ m
        rw [c]; exact h2 x List.mem_cons_self
      · exact h2 _ (List.mem_cons_of_mem _ c)
    have e2 : m ≤ mx (x :: r) := by
      rcases List.mem_cons.mp h1 with rfl | h1
      · exact a
      · exact b m h1
    omega
def prods (rs : List Row) : List Int := rs.map fun r => r.1 * r.2
def setl (rs : List Row) : Int := mx (prods rs)
def per (rs : List Row) : Int := ((rs.getLast?).map (·.1)).getD 0
theorem Vr.last {rs : List Row} (h : Vr rs) : ∃ r, rs.getLast? = some r ∧ per rs = r.1 ∧ RowOk r := by
  cases e : rs.getLast? with
  | none => exact absurd (List.getLast?_eq_none_iff.mp e) h.ne
  | some r => exact ⟨r, rfl, by unfold per; rw [e]; rfl, h.mem r (List.mem_of_getLast? e)⟩
theorem Vr.setl {rs : List Row} (h : Vr rs) : 1 ≤ setl rs ∧ setl rs ≤ 80 := by
  have key : ∀ y ∈ prods rs, 1 ≤ y ∧ y ≤ 80 := by
    intro y hy
    obtain ⟨r, hr, rfl⟩ := List.mem_map.mp hy
    have o := h.mem r hr
    have a1 := o.p1; have a2 := o.p2; have a3 := o.c1; have a4 := o.c2
    refine ⟨?_, ?_⟩
    · have : 1 * 1 ≤ r.1 * r.2 := Int.mul_le_mul a1 a3 (by omega) (by omega)
      omega
    · have : r.1 * r.2 ≤ 10 * 8 := Int.mul_le_mul a2 a4 (by omega) (by omega)
      omega
  unfold K68.setl
  cases e : prods rs with
  | nil => exact absurd (List.map_eq_nil_iff.mp e) h.ne
  | cons x r =>
    rw [e] at key
    obtain ⟨a, b, c⟩ := foldl_max_ge r x
    rcases c with c | c
    · show 1 ≤ r.foldl max x ∧ r.foldl max x ≤ 80
      rw [c]; exact key x List.mem_cons_self
    · exact key _ (List.mem_cons_of_mem _ c)
/-- the days of a turn; from the first day on -/
def dayL (rs : List Row) : List Int := (List.range (setl rs + per rs - setl rs).toNat).map fun i : Nat => setl rs + (i : Int)
def dayM (rs : List Row) : List Int := (List.range (setl rs + per rs).toNat).map fun i : Nat => 0 + (i : Int)
theorem dayL_D (rs : List Row) : rangeD (setl rs) (setl rs + per rs - setl rs).toNat = (dayL rs).map D.int := by
  unfold rangeD dayL; rw [List.map_map]; rfl
theorem dayM_D (rs : List Row) : rangeD 0 (setl rs + per rs).toNat = (dayM rs).map D.int := by
  unfold rangeD dayM; rw [List.map_map]; rfl
theorem dayL_mem {rs : List Row} {d : Int} (hv : Vr rs) (h : d ∈ dayL rs) : 0 ≤ d ∧ d < 90 := by
  obtain ⟨i, hi, rfl⟩ := List.mem_map.mp h
  rw [List.mem_range] at hi
  obtain ⟨r, _, e, o⟩ := hv.last
  have := hv.setl; have := o.p2
  omega
theorem dayM_mem {rs : List Row} {d : Int} (hv : Vr rs) (h : d ∈ dayM rs) : 0 ≤ d ∧ d < 90 := by
  obtain ⟨i, hi, rfl⟩ := List.mem_map.mp h
  rw [List.mem_range] at hi
  obtain ⟨r, _, e, o⟩ := hv.last
  have := hv.setl; have := o.p2
  omega
theorem standL_len (rs : List Row) (d : Int) : (standL rs d).length ≤ (d + 1).toNat := by
  unfold standL
  refine Nat.le_trans (List.length_filter_le _ _) ?_
  rw [List.length_map, List.length_range]
  exact Nat.le_refl _
theorem dayL_len {rs : List Row} (hv : Vr rs) : 1 ≤ (dayL rs).length ∧ (dayL rs).length ≤ 10 := by
  obtain ⟨r, _, e, o⟩ := hv.last
  unfold dayL
  rw [List.length_map, List.length_range, e]
  have := o.p1; have := o.p2
  omega
noncomputable def ageL (rs : List Row) (d : Int) : List Int := (standL rs d).reverse.map fun x => d - x
noncomputable def agesT (rs : List Row) : List (List Int) := (dayL rs).map (ageL rs)
def tabD (tab : List (List Int)) : D := .lst (tab.map fun as => .lst (as.map D.int))
def inR (low slack a : Int) : Bool := decide (low ≤ a) && decide (a ≤ low + slack)
def keepB (tab : List (List Int)) (low slack : Int) : Bool := tab.all fun as => as.any (inR low slack)
def gapsF (last : Int) : List Int → List Int
  | [] => []
  | a :: r => (a - last) :: gapsF a r
noncomputable def room (rs : List Row) (w c d : Int) : Int := w + ((gapsF 0 (ageL rs d)).map fun g => min w (c * g)).sum
noncomputable def mostR (rs : List Row) (w c : Int) : Int := ((dayM rs).map (room rs w c)).foldl max 0
end K68

set_option maxHeartbeats 1000000
namespace K68
open PySem PySem.Spec PyProof.Rows L2 DL
local macro_rules | `(tactic| walk_at "w") => `(tactic| with_reducible conv => whnf)
def StandS (st : M) : Prop := ∀ {rs : List Row} {d : Int} {O : OM} {Φ : D → OM → Prop}, Vr rs → 0 ≤ d → (∀ O', Ext O O' → Φ (.lst ((standL rs d).map D.int)) O') → st [.lst (rs.map rowD), .int d] O Φ
theorem stands_t {rs : List Row} {d : Int} {O : OM} {Φ : D → OM → Prop} (hv : Vr rs) (hd : 0 ≤ d) (h : ∀ O', Ext O O' → Φ (.lst ((standL rs d).map D.int)) O') : bodyM 7 t_law_stands [.lst (rs.map rowD), .int d] O Φ := by
  walk_at "w"
  refine loop_on rowD (fun l r ds O' => ∃ x3 x4 x5, ∃ ns : List Int, ds = [some (.lst (rs.map rowD)), some (.int d), some (.lst (ns.map D.int)), x3, x4, x5, none] ∧ ns.length ≤ 8 * l.length ∧ (∀ x, x ∈ ns ↔ StP l d x) ∧ Ext O O') rs ?_ ?_ ?_
  · rintro ds O' ⟨x3, x4, x5, ns, rfl, hl, hm, hx⟩
    walk_at "w"
    have := hv.len
    refine ⟨_, ns, rfl, rfl, by omega, fun out o1 o2 => ?_⟩
    rw [standL_uniq hv hd o1 fun x => (o2 x).trans (hm x)]
    exact h _ hx
  · rintro l r rest ds O' hs ⟨x3, x4, x5, ns, rfl, hl, hm, hx⟩ k
    have ro := hv.mem r (by rw [← hs]; simp)
    have p1 := ro.p1; have p2 := ro.p2; have c1 := ro.c1; have c2 := ro.c2
    walk_at "w"
    refine ⟨rfl, ?_⟩
    walk_at "w"
    refine ⟨_, rfl, ?_⟩
    walk_at "w"
    refine ⟨by omega, ?_⟩
    walk_at "w"
    refine ⟨⟨by omega, by omega⟩, ?_⟩
    refine lc_ext (fun i : Nat => D.int (0 + (i : Int))) (fun i : Nat => decide ((0 + (i : Int)) * r.1 ≤ d - d % r.1)) (fun i : Nat => .int (d - d % r.1 - (0 + (i : Int)) * r.1)) (List.range r.2.toNat) ?_ (by rw [List.length_range]; omega) ?_
    · intro i hi O0 N S hS hN
      have hi := List.mem_range.mp hi
      walk_at "w"
      refine ⟨.inl ⟨by omega, by omega⟩, ?_⟩
      walk_at "w"
      refine dec_ite (fun hb => ?_) (fun hb => ?_)
      · walk_at "w"
        refine ⟨.inl ⟨by omega, by omega⟩, ?_⟩
        walk_at "w"
        exact hS (by simpa using hb) _ .refl
      · exact hN (by simpa using hb) _ .refl
    · intro O2 hx2
      walk_at "w"
      refine ⟨_, _, rfl, rfl, ?_, ?_⟩
      · rw [List.length_map, List.length_map]
        have e : ((List.range r.2.toNat).filter fun i : Nat => decide ((0 + (i : Int)) * r.1 ≤ d - d % r.1)).length ≤ r.2.toNat := by
          refine Nat.le_trans (List.length_filter_le _ _) ?_
          rw [List.length_range]
          exact Nat.le_refl _
        have := hv.len
        have : l.length + 1 ≤ rs.length := by rw [← hs]; simp
        omega
      · walk_at "w"
        refine k _ _ ⟨_, _, _, ns ++ (((List.range r.2.toNat).filter fun i : Nat => decide ((0 + (i : Int)) * r.1 ≤ d - d % r.1)).map fun i : Nat => d - d % r.1 - (0 + (i : Int)) * r.1), by rw [List.map_append, List.map_map]; rfl, ?_, fun x => ?_, hx.trans hx2⟩
        · have e : ((List.range r.2.toNat).filter fun i : Nat => decide ((0 + (i : Int)) * r.1 ≤ d - d % r.1)).length ≤ r.2.toNat := by
            refine Nat.le_trans (List.length_filter_le _ _) ?_
            rw [List.length_range]
            exact Nat.le_refl _
          rw [List.length_append, List.length_map, List.length_append, List.length_singleton]
          omega
        · rw [List.mem_append, hm x, List.mem_map]
          constructor
          · rintro (⟨h0, r', hr', kk, hk, e⟩ | ⟨i, hi, e⟩)
            · exact ⟨h0, r', List.mem_append_left _ hr', kk, hk, e⟩
            · rw [List.mem_filter, List.mem_range, decide_eq_true_eq] at hi
              rw [Int.zero_add] at hi e
              exact ⟨by omega, r, by simp, i, by omega, by omega⟩
          · rintro ⟨h0, r', hr', kk, hk, e⟩
            rcases List.mem_append.mp hr' with hr' | hr'
            · exact .inl ⟨h0, r', hr', kk, hk, e⟩
            · rw [List.mem_singleton] at hr'
              subst hr'
              refine .inr ⟨kk, ?_, ?_⟩
              · rw [List.mem_filter, List.mem_range, decide_eq_true_eq, Int.zero_add]
                exact ⟨by omega, by omega⟩
              · rw [Int.zero_add]; omega
  · exact ⟨_, _, _, [], rfl, by simp, fun x => ⟨fun z => (by cases z), fun ⟨_, r, hr, _⟩ => (by cases hr)⟩, .refl⟩
theorem stands_spec : StandS m_law_stands := fun hv hd h => by
  unfold m_law_stands
  exact stands_t hv hd h
theorem seq_int {O : OM} {α : Type} (f : α → Int) (xs : List α) : seqOf O (.lst (xs.map fun a => D.int (f a))) = some ((xs.map f).map D.int) := by
  rw [List.map_map]; rfl
theorem ages_t {st : M} (hst : StandS st) {rs : List Row} {O : OM} {Φ : D → OM → Prop} (hv : Vr rs) (h : ∀ O', Ext O O' → Φ (tabD (agesT rs)) O') : bodyM 7 (t_law_ages st) [.lst (rs.map rowD)] O Φ := by
  walk_at "w"
  refine lc_all rowD (fun r : Row => .int (r.1 * r.2)) rs ?_ (by have := hv.len; omega) ?_
  · intro r hr O0 S hS
    have ro := hv.mem r hr
    have p1 := ro.p1; have p2 := ro.p2
    walk_at "w"
    refine ⟨rfl, ?_⟩
    walk_at "w"
    refine ⟨.inl ⟨by omega, by omega⟩, ?_⟩
    exact hS _ .refl
  intro O1 x1
  walk_at "w"
  refine ⟨_, prods rs, rfl, seq_int (fun r : Row => r.1 * r.2) rs, fun e => hv.ne (List.map_eq_nil_iff.mp e), fun m m1 m2 => ?_⟩
  have em : m = setl rs := mx_uniq m1 m2
  subst em
  clear m1 m2
  walk_at "w"
  intro q hq
  obtain ⟨rl, hl, hp, ro⟩ := hv.last
  have p1 := ro.p1; have p2 := ro.p2
  have hs := hv.setl
  walk_at "w"
  refine ix_l (atI_last (by rw [List.getLast?_map, hl]; rfl)) ?_
  walk_at "w"
  refine ix_t (atI_0 ..) ?_
  walk_at "w"
  refine ⟨⟨by omega, by omega, by omega, by omega⟩, ?_⟩
  rw [← hp, dayL_D]
  refine loop_on D.int (fun l r ds O' => ∃ x, ds = [some (.lst (rs.map rowD)), some (.int (setl rs)), some (.ref q), x, none, none, none] ∧ O' q = some (.lst (l.map fun d => .lst ((ageL rs d).map D.int))) ∧ Ext O1 O') (dayL rs) ?_ ?_ ?_
  · rintro ds O' ⟨x, rfl, hO, hx⟩
    walk_at "w"
    refine ⟨_, hO, ?_⟩
    have := h (delO O' q) (x1.trans (hx.del hq))
    rw [tabD, agesT, List.map_map] at this
    exact this
  · rintro l d rest ds O' hs2 ⟨x, rfl, hO, hx⟩ k
    have hm : d ∈ dayL rs := by rw [← hs2]; simp
    walk_at "w"
    refine ⟨⟨_, hO⟩, ?_⟩
    walk_at "w"
    refine hst hv (dayL_mem hv hm).1 fun O2 x2 => ?_
    walk_at "w"
    rw [← List.map_reverse]
    refine lc_all D.int (fun x : Int => .int (d - x)) (standL rs d).reverse ?_ ?_ ?_
    · intro a ha O0 S hS
      walk_at "w"
      exact hS _ .refl
    · have := (dayL_mem hv hm).2
      have := standL_len rs d
      rw [List.length_reverse]
      omega
    · intro O3 x3
      walk_at "w"
      have hO3 := x3 q _ (x2 q _ hO)
      refine app_o hO3 ?_ ?_
      · have := (dayL_len hv).2
        have : l.length ≤ (dayL rs).length := by rw [← hs2]; simp
        rw [List.length_map]; omega
      · refine k _ _ ⟨_, rfl, ?_, (hx.trans (x2.trans x3)).new hq⟩
        rw [updO_same, List.map_append]
        unfold ageL
        simp only [List.map_cons, List.map_nil, List.map_map]
        rfl
  · exact ⟨none, rfl, by rw [updO_same]; rfl, Ext.refl.newest hq⟩
end K68

set_option maxHeartbeats 1000000
namespace K68
open PySem PySem.Spec PyProof.Rows L2 DL
local macro_rules | `(tactic| walk_at "w") => `(tactic| with_reducible conv => whnf)
theorem lkeeps_t {tab : List (List Int)} {low slack : Int} {O : OM} {Φ : D → OM → Prop} (hl : ∀ as ∈ tab, as.length ≤ 100000) (h : ∀ O', Ext O O' → Φ (.bl (keepB tab low slack)) O') : bodyM 5 t_law_keeps [tabD tab, .int low, .int slack] O Φ := by
  unfold tabD
  walk_at "w"
  refine loop_on (fun as : List Int => D.lst (as.map D.int)) (fun l r ds O' => ∃ x, ds = [some (.lst (tab.map fun as => .lst (as.map D.int))), some (.int low), some (.int slack), x, none] ∧ l.all (fun as => as.any (inR low slack)) = true ∧ Ext O O') tab ?_ ?_ ?_
  · rintro ds O' ⟨x, rfl, ha, hx⟩
    walk_at "w"
    have := h O' hx
    rw [keepB, ha] at this
    exact this
  · rintro l as rest ds O' hs ⟨x, rfl, ha, hx⟩ k
    walk_at "w"
    refine lc_all D.int (fun a => .bl (inR low slack a)) as ?_ (hl as (by rw [← hs]; simp)) ?_
    · intro a _ O0 S hS
      walk_at "w"
      refine chain_ite (fun e => ?_) (fun e => ?_)
      · walk_at "w"
        have := hS _ .refl
        rw [inR, e, Bool.true_and] at this
        exact this
      · have := hS _ .refl
        rw [inR, e, Bool.false_and] at this
        exact this
    · intro O2 x2
      walk_at "w"
      refine ⟨_, as.map (inR low slack), rfl, by rw [List.map_map]; rfl, ?_⟩
      walk_at "w"
      rw [List.any_map]
      refine nb_ite (fun e => ?_) (fun e => ?_)
      · walk_at "w"
        have := h O2 (hx.trans x2)
        rw [keepB, ← hs, List.all_append, List.all_cons, show as.any (inR low slack) = false from e, Bool.false_and, Bool.and_false] at this
        exact this
      · exact k _ _ ⟨_, rfl, by rw [List.all_append, ha, List.all_cons, show as.any (inR low slack) = true from e]; rfl, hx.trans x2⟩
  · exact ⟨none, rfl, rfl, .refl⟩
theorem most_t {st : M} (hst : StandS st) {rs : List Row} {w c : Int} {O : OM} {Φ : D → OM → Prop} (hv : Vr rs) (c0 : 0 ≤ c) (c1 : c ≤ 1000) (h : ∀ O', Ext O O' → Φ (.int (mostR rs w c)) O') : bodyM 11 (t_law_most st) [.lst (rs.map rowD), .int w, .int c] O Φ := by
  walk_at "w"
  refine lc_all rowD (fun r : Row => .int (r.1 * r.2)) rs ?_ (by have := hv.len; omega) ?_
  · intro r hr O0 S hS
    have ro := hv.mem r hr
    have p1 := ro.p1; have p2 := ro.p2
    walk_at "w"
    refine ⟨rfl, ?_⟩
    walk_at "w"
    refine ⟨.inl ⟨by omega, by omega⟩, ?_⟩
    exact hS _ .refl
  intro O1 x1
  walk_at "w"
  refine ⟨_, prods rs, rfl, seq_int (fun r : Row => r.1 * r.2) rs, fun e => hv.ne (List.map_eq_nil_iff.mp e), fun m m1 m2 => ?_⟩
  have em : m = setl rs := mx_uniq m1 m2
  subst em
  clear m1 m2
  obtain ⟨rl, hl, hp, ro⟩ := hv.last
  have p1 := ro.p1; have p2 := ro.p2
  have hs := hv.setl
  walk_at "w"
  refine ix_l (atI_last (by rw [List.getLast?_map, hl]; rfl)) ?_
  walk_at "w"
  refine ix_t (atI_0 ..) ?_
  walk_at "w"
  refine ⟨⟨by omega, by omega⟩, ?_⟩
  rw [← hp, dayM_D]
  refine loop_on D.int (fun l r ds O' => ∃ m x5 x6 x7 x8, ds = [some (.lst (rs.map rowD)), some (.int w), some (.int c), some (.int m), some (.int (setl rs)), x5, x6, x7, x8, none, none] ∧ (r.map (room rs w c)).foldl max m = mostR rs w c ∧ Ext O O') (dayM rs) ?_ ?_ ?_
  · rintro ds O' ⟨m, x5, x6, x7, x8, rfl, hm, hx⟩
    walk_at "w"
    have := h O' hx
    rw [← hm] at this
    exact this
  · rintro l d rest ds O' hs2 ⟨m, x5, x6, x7, x8, rfl, hm, hx⟩ k
    have hd : d ∈ dayM rs := by rw [← hs2]; simp
    walk_at "w"
    refine hst hv (dayM_mem hv hd).1 fun O2 x2 => ?_
    walk_at "w"
    rw [← List.map_reverse]
    refine loop_on D.int (fun l r ds O' => ∃ rm nw x8, ds = [some (.lst (rs.map rowD)), some (.int w), some (.int c), some (.int m), some (.int (setl rs)), some (.int d), some (.int rm), some (.int nw), x8, none, none] ∧ rm + ((gapsF (d - nw) (r.map fun x => d - x)).map fun g => min w (c * g)).sum = room rs w c d ∧ Ext O O') (standL rs d).reverse ?_ ?_ ?_
    · rintro ds O' ⟨rm, nw, x8, rfl, hr, hx⟩
      walk_at "w"
      refine ⟨_, _, rfl, ?_⟩
      walk_at "w"
      refine k _ _ ⟨_, _, _, _, _, rfl, ?_, hx⟩
      rw [← hm, List.map_cons, List.foldl_cons, ← hr]
      simp [gapsF]
    · rintro l s rest ds O' hs3 ⟨rm, nw, x8, rfl, hr, hx⟩ k2
      walk_at "w"
      refine ⟨.inl ⟨by omega, by omega⟩, ?_⟩
      walk_at "w"
      refine ⟨_, _, rfl, ?_⟩
      walk_at "w"
      refine k2 _ _ ⟨_, _, _, rfl, ?_, hx⟩
      rw [← hr]
      simp only [List.map_cons, gapsF, List.sum_cons]
      rw [show d - s - (d - nw) = nw - s by omega]
      omega
    · refine ⟨w, d, x8, rfl, ?_, hx.trans x2⟩
      rw [show d - d = 0 by omega]
      rfl
  · exact ⟨0, none, none, none, none, rfl, rfl, x1⟩
theorem needed_t {tab : List (List Int)} {low : Int} {O : OM} {Φ : D → OM → Prop} (hl : ∀ as ∈ tab, as.length ≤ 100000) (h : ∀ i O', Ext O O' → Φ (.int i) O') : bodyM 6 t_law_needed [tabD tab, .int low] O Φ := by
  unfold tabD
  walk_at "w"
  refine loop_on (fun as : List Int => D.lst (as.map D.int)) (fun l r ds O' => ∃ n x3 x4, ds = [some (.lst (tab.map fun as => .lst (as.map D.int))), some (.int low), some (.int n), x3, x4, none] ∧ Ext O O') tab ?_ ?_ ?_
  · rintro ds O' ⟨n, x3, x4, rfl, hx⟩
    walk_at "w"
    exact h _ _ hx
  · rintro l as rest ds O' hs ⟨n, x3, x4, rfl, hx⟩ k
    walk_at "w"
    refine lc_ext D.int (fun a => decide (low ≤ a)) (fun a => .int (a - low)) as ?_ (hl as (by rw [← hs]; simp)) ?_
    · intro a _ O0 N S hS hN
      walk_at "w"
      refine dec_ite (fun e => ?_) (fun e => ?_)
      · walk_at "w"
        exact hS (by simpa using e) _ .refl
      · exact hN (by simpa using e) _ .refl
    · intro O2 x2
      walk_at "w"
      refine len_l ?_
      walk_at "w"
      refine dec_ite (fun e => ?_) (fun e => ?_)
      · walk_at "w"
        exact h _ _ (hx.trans x2)
      · walk_at "w"
        refine ⟨_, _, rfl, seq_int (fun a : Int => a - low) _, fun e2 => e (by rw [List.map_eq_nil_iff] at e2; rw [e2]; rfl), fun m _ _ => ?_⟩
        walk_at "w"
        refine ⟨_, _, rfl, ?_⟩
        exact k _ _ ⟨_, _, _, rfl, hx.trans x2⟩
  · exact ⟨0, none, none, rfl, .refl⟩
def NeedS (nd : M) : Prop := ∀ {tab : List (List Int)} {low : Int} {O : OM} {Φ : D → OM → Prop}, (∀ as ∈ tab, as.length ≤ 100000) → (∀ i O', Ext O O' → Φ (.int i) O') → nd [tabD tab, .int low] O Φ
theorem needed_spec : NeedS m_law_needed := fun hl h => by
  unfold m_law_needed
  exact needed_t hl h
@[reducible] def t_wb : TSD := (sIf (bAnd (bVal (eOp mLt (eVar 9) (eC (.int 3)))) (bVal (eOp mGt (eVar 8) (eC (.int 0)))))
  (sExpr (eAppend (eVar 3) [(eTup [(eVar 6), (eOp mSub (eVar 8) (eC (.int 1)))])]))
  (sIf (bVal (eOp mGe (eVar 8) (eC (.int 0))))
  (sExpr (eAppend (eVar 3) [(eTup [(eVar 6), (eVar 8)])]))
  (sExpr (eAppend (eVar 3) [(eTup [(eVar 6), (eC (.int 999999))])]))))
theorem wb {E : EndsD} {q : Addr} {x0 x1 x2 x4 x5 : Option D} {a b n k : Int} {ws : List Row} {O : OM} (hO : O q = some (.lst (ws.map rowD))) (hl : ws.length < 1000)
    (h : ∀ w, E.nx [x0, x1, x2, some (.ref q), x4, x5, some (.int a), some (.int b), some (.int n), some (.int k)] (updO O q (.lst ((ws ++ [w]).map rowD)))) :
    t_wb E [x0, x1, x2, some (.ref q), x4, x5, some (.int a), some (.int b), some (.int n), some (.int k)] O := by
  have fin : ∀ w : Row, (ws.map rowD).length < 1000000 ∧ E.nx [x0, x1, x2, some (.ref q), x4, x5, some (.int a), some (.int b), some (.int n), some (.int k)] (updO O q (.lst (ws.map rowD ++ [rowD w]))) := fun w => by
    have := h w
    rw [List.map_append] at this
    exact ⟨by rw [List.length_map]; omega, this⟩
  have rest : (sIf (bVal (eOp mGe (eVar 8) (eC (.int 0))))
      (sExpr (eAppend (eVar 3) [(eTup [(eVar 6), (eVar 8)])]))
      (sExpr (eAppend (eVar 3) [(eTup [(eVar 6), (eC (.int 999999))])]))) E [x0, x1, x2, some (.ref q), x4, x5, some (.int a), some (.int b), some (.int n), some (.int k)] O := by
    walk_at "w"
    refine dec_ite (fun e => ?_) (fun e => ?_)
    · walk_at "w"
      refine ⟨⟨_, hO⟩, ?_⟩
      exact app_o hO (fin (a, n)).1 (fin (a, n)).2
    · walk_at "w"
      refine ⟨⟨_, hO⟩, ?_⟩
      exact app_o hO (fin (a, 999999)).1 (fin (a, 999999)).2
  walk_at "w"
  refine dec_ite (fun e => ?_) (fun e => ?_)
  · walk_at "w"
    refine dec_ite (fun e => ?_) (fun e => ?_)
    · walk_at "w"
      refine ⟨⟨_, hO⟩, ?_⟩
      exact app_o hO (fin (a, n - 1)).1 (fin (a, n - 1)).2
    · exact rest
  · exact f_ite rest
theorem wants_t {nx nd : M} (hn : NextS nx) (hnd : NeedS nd) {p : Addr} {tabs : List (List (List Int))} {many : Int} {O : OM} {Φ : D → OM → Prop} (hd : Dr p O) (m0 : 0 ≤ many) (m1 : many ≤ 8) (t0 : 1 ≤ tabs.length) (t1 : tabs.length ≤ 8)
    (hl : ∀ tab ∈ tabs, (1 ≤ tab.length ∧ ∀ as ∈ tab, as.length ≤ 100000)) (h : ∀ (ws : List Row) O', ws.length ≤ 8 → Dr p O' → Exc p O O' → Φ (.lst (ws.map rowD)) O') : bodyM 10 (t_law_wants nx nd) [.ref p, .lst (tabs.map tabD), .int many] O Φ := by
  walk_at "w"
  intro q hq
  have nq : p ≠ q := hd.ne hq
  walk_at "w"
  refine ⟨⟨by omega, by omega⟩, ?_⟩
  refine loop_on (fun i : Nat => D.int (0 + (i : Int))) (fun l r ds O' => ∃ x4 x5 x6 x7 x8 x9, ∃ ws : List Row, ds = [some (.ref p), some (.lst (tabs.map tabD)), some (.int many), some (.ref q), x4, x5, x6, x7, x8, x9] ∧ O' q = some (.lst (ws.map rowD)) ∧ ws.length = l.length ∧ Dr p O' ∧ Exc p O O') (List.range many.toNat) ?_ ?_ ?_
  · rintro ds O' ⟨x4, x5, x6, x7, x8, x9, ws, rfl, hO, hw, hd, hx⟩
    walk_at "w"
    refine ⟨_, hO, ?_⟩
    rw [List.length_range] at hw
    exact h ws _ (by omega) (hd.del nq) (hx.del hq)
  · rintro l i rest ds O' hs ⟨x4, x5, x6, x7, x8, x9, ws, rfl, hO, hw, hd, hx⟩ k
    have hll : ws.length < 8 := by
      have : l.length + 1 ≤ (List.range many.toNat).length := by rw [← hs]; simp
      rw [List.length_range] at this
      omega
    walk_at "w"
    refine len_l ?_
    rw [List.length_map]
    refine hn hd (by omega) (by omega) fun t O2 r0 r1 d2 x2 => ?_
    have lt : t.toNat < tabs.length := by omega
    walk_at "w"
    refine ix_l (z := tabD tabs[t.toNat]) (atI_nat r0 (by rw [List.getElem?_map, List.getElem?_eq_getElem lt]; rfl)) ?_
    walk_at "w"
    refine hn d2 (by decide) (by decide) fun a O3 a0 a1 d3 x3 => ?_
    walk_at "w"
    refine hn d3 (by decide) (by decide) fun b O4 b0 b1 d4 x4 => ?_
    walk_at "w"
    refine hnd (hl _ (List.getElem_mem lt)).2 fun n O5 x5 => ?_
    walk_at "w"
    have d5 : Dr p O5 := by obtain ⟨L, e, s⟩ := d4; exact ⟨L, x5 _ _ e, s⟩
    refine hn d5 (by decide) (by decide) fun kd O6 k0 k1 d6 x6 => ?_
    have X : Exc p O' O6 := x2.trans (x3.trans (x4.trans ((Exc.of x5).trans x6)))
    have hO6 := X q _ (Ne.symm nq) hO
    have fin : ∀ (O7 : OM) (w : Row), Dr p O7 → Exc p O6 O7 → _ := fun O7 w d7 x7 => k [some (.ref p), some (.lst (tabs.map tabD)), some (.int many), some (.ref q), some (.int (0 + (i : Int))), some (tabD tabs[t.toNat]), some (.int a), some (.int b), some (.int n), some (.int kd)] (updO O7 q (.lst ((ws ++ [w]).map rowD))) ⟨_, _, _, _, _, _, ws ++ [w], rfl, updO_same, by simp [hw], d7.keep nq, (hx.trans (X.trans x7)).new hq⟩
    walk_at "w"
    refine dec_ite (fun e => ?_) (fun e => ?_)
    · walk_at "w"
      refine ⟨⟨_, hO6⟩, ?_⟩
      refine app_o hO6 (by rw [List.length_map]; omega) ?_
      have := fin O6 (a, b) d6 .refl
      rw [List.map_append] at this
      exact this
    · walk_at "w"
      refine dec_ite (fun e => ?_) (fun e => ?_)
      · walk_at "w"
        refine hn d6 (by decide) (by decide) fun z O7 z0 z1 d7 x7 => ?_
        walk_at "w"
        refine dec_ite (fun e => ?_) (fun e => ?_)
        · walk_at "w"
          have hO7 := x7 q _ (Ne.symm nq) hO6
          refine ⟨⟨_, hO7⟩, ?_⟩
          walk_at "w"
          refine ⟨⟨by decide, by decide, by decide⟩, ?_⟩
          refine hn d7 (by decide) (by decide) fun u O8 u0 u1 d8 x8 => ?_
          walk_at "w"
          refine ⟨⟨by decide, by decide, by decide⟩, ?_⟩
          refine hn d8 (by decide) (by decide) fun v O9 v0 v1 d9 x9 => ?_
          refine app_o (x9 q _ (Ne.symm nq) (x8 q _ (Ne.symm nq) hO7)) (by rw [List.length_map]; omega) ?_
          have := fin O9 (u, v) d9 (x7.trans (x8.trans x9))
          rw [List.map_append] at this
          exact this
        · exact wb (x7 q _ (Ne.symm nq) hO6) (by omega) fun w => fin O7 w d7 x7
      · exact f_ite (wb hO6 (by omega) fun w => fin O6 w d6 .refl)
  · exact ⟨none, none, none, none, none, none, [], rfl, updO_same, rfl, hd.keep nq, Exc.refl.new hq⟩
end K68

set_option maxHeartbeats 1000000
namespace K68
open PySem PySem.Spec PyProof.Rows L2 DL
local macro_rules | `(tactic| walk_at "w") => `(tactic| with_reducible conv => whnf)
def ruleD (K : Frag) (rs : List Row) : D := .obj (DH.ga K "Rule") [("rows", .tup (rs.map rowD))]
theorem insR {O : OM} {x C : Addr} {fds : List (Str × D)} (h : O x = some (.ins C fds)) : insOf O (.ref x) = some (C, fds) := by simp only [insOf, h]
theorem lkR (z : D) : List.lookup ("rows" : Str) [(("rows" : Str), z)] = some z := by simp [List.lookup]
theorem mfollow_t {K : Frag} {x q : Addr} {ws : List Row} {r : Row} {O : OM} {Φ : D → OM → Prop} (hx : O x = some (.ins (DH.ga K "Rule") [])) (hq : O q = some (.lst (ws.map rowD))) (hn : ws.length < 4) (ro : RowOk r)
    (hw : ∀ a ∈ ws, RowOk a) (hch : ∀ a, ws.getLast? = some a → a.1 < r.1 ∧ r.1 % a.1 = 0) (h : Φ (.bl true) O) : bodyM 5 (t_Rule_may_follow K) [.ref x, .ref q, .int r.1, .int r.2] O Φ := by
  have p1 := ro.p1; have p2 := ro.p2; have c1 := ro.c1; have c2 := ro.c2
  walk_at "w"
  refine len_o hq ?_
  walk_at "w"
  rw [insR hx]
  walk_at "w"
  refine ⟨rfl, rfl, ?_⟩
  rw [List.length_map]
  walk_at "w"
  refine dec_ite (fun e => absurd e (by omega)) (fun _ => ?_)
  walk_at "w"
  refine dec_ite (fun e => absurd e (by omega)) (fun _ => ?_)
  walk_at "w"
  rw [insR hx]
  walk_at "w"
  refine ⟨rfl, rfl, ?_⟩
  walk_at "w"
  refine dec_ite (fun e => absurd e (by omega)) (fun _ => ?_)
  have fin : sRet (eChain mLe mLe (eC (.int 1)) (eVar 3) (eCon (DH.ga K "Rule") "MOST_COUNT" (.int 8) (eVar 0))) { nx := fun x O1 => Φ D.non O1, rt := Φ } [some (.ref x), some (.ref q), some (.int r.1), some (.int r.2), none] O ∧ ∀ y, sRet (eChain mLe mLe (eC (.int 1)) (eVar 3) (eCon (DH.ga K "Rule") "MOST_COUNT" (.int 8) (eVar 0))) { nx := fun x O1 => Φ D.non O1, rt := Φ } [some (.ref x), some (.ref q), some (.int r.1), some (.int r.2), some (.int y)] O := by
    refine ⟨?_, fun y => ?_⟩
    · walk_at "w"
      refine chain_ite (fun _ => ?_) (fun e => absurd c1 (by simpa using e))
      walk_at "w"
      rw [insR hx]
      walk_at "w"
      refine ⟨rfl, rfl, ?_⟩
      have : decide (r.2 ≤ 8) = true := by simpa using c2
      show Φ (.bl (decide (r.2 ≤ 8))) O
      rw [this]; exact h
    · walk_at "w"
      refine chain_ite (fun _ => ?_) (fun e => absurd c1 (by simpa using e))
      walk_at "w"
      rw [insR hx]
      walk_at "w"
      refine ⟨rfl, rfl, ?_⟩
      have : decide (r.2 ≤ 8) = true := by simpa using c2
      show Φ (.bl (decide (r.2 ≤ 8))) O
      rw [this]; exact h
  walk_at "w"
  refine len_o hq ?_
  rw [List.length_map]
  walk_at "w"
  refine dec_ite (fun e => ?_) (fun e => fin.1)
  cases hl : ws.getLast? with
  | none => rw [List.getLast?_eq_none_iff.mp hl] at e; cases e
  | some a =>
    have ch := hch a hl
    have ao := hw a (List.mem_of_getLast? hl)
    have a1 := ao.p1
    walk_at "w"
    refine ix_o hq (atI_last (by rw [List.getLast?_map, hl]; rfl)) ?_
    walk_at "w"
    refine ix_t (atI_0 ..) ?_
    walk_at "w"
    refine dec_ite (fun e => absurd e (by omega)) (fun _ => ?_)
    walk_at "w"
    refine ⟨by omega, ?_⟩
    walk_at "w"
    refine ndec_ite (fun e => absurd ch.2 e) (fun _ => ?_)
    exact fin.2 a.1
def MayS (K : Frag) (mf : Frag → M) : Prop := ∀ {x q : Addr} {ws : List Row} {r : Row} {O : OM} {Φ : D → OM → Prop}, O x = some (.ins (DH.ga K "Rule") []) → O q = some (.lst (ws.map rowD)) → ws.length < 4 → RowOk r →
    (∀ a ∈ ws, RowOk a) → (∀ a, ws.getLast? = some a → a.1 < r.1 ∧ r.1 % a.1 = 0) → Φ (.bl true) O → mf K [.ref x, .ref q, .int r.1, .int r.2] O Φ
theorem mfollow_spec (K : Frag) : MayS K m_Rule_may_follow := fun a b c d e f g => by
  unfold m_Rule_may_follow
  exact mfollow_t a b c d e f g
theorem init_t {K : Frag} {mf : Frag → M} (hmf : MayS K mf) {rs : List Row} {x : Addr} {O : OM} {Φ : D → OM → Prop} (hv : Vr rs) (hx : O x = some (.ins (DH.ga K "Rule") []))
    (h : ∀ O', O' x = some (.ins (DH.ga K "Rule") [("rows", .tup (rs.map rowD))]) → Exc x O O' → Φ .non O') : bodyM 5 (t_Rule_init K mf) [.ref x, .lst (rs.map rowD)] O Φ := by
  walk_at "w"
  intro q hq
  have nq : x ≠ q := fun e => by rw [e, hq] at hx; cases hx
  walk_at "w"
  refine loop_on rowD (fun l r ds O' => ∃ x3 x4, ds = [some (.ref x), some (.lst (rs.map rowD)), some (.ref q), x3, x4] ∧ O' q = some (.lst (l.map rowD)) ∧ Ext O O') rs ?_ ?_ ?_
  · rintro ds O' ⟨x3, x4, rfl, hO, he⟩
    walk_at "w"
    refine len_o hO ?_
    rw [List.length_map]
    walk_at "w"
    refine dec_ite (fun e => absurd (List.length_eq_zero_iff.mp (by omega)) hv.ne) (fun _ => ?_)
    walk_at "w"
    refine ⟨_, rs.map rowD, rfl, by simp only [seqOf, lstOf, hO], ?_⟩
    walk_at "w"
    refine ⟨[], he x _ hx, by decide, ?_⟩
    walk_at "w"
    exact h _ updO_same (Exc.of he).upd
  · rintro l r rest ds O' hs ⟨x3, x4, rfl, hO, he⟩ k
    have ro := hv.mem r (by rw [← hs]; simp)
    have hll : l.length + 1 ≤ rs.length := by rw [← hs]; simp
    have h4 := hv.len
    walk_at "w"
    refine ⟨rfl, ?_⟩
    walk_at "w"
    rw [insR (he x _ hx)]
    walk_at "w"
    refine ⟨rfl, rfl, ?_⟩
    walk_at "w"
    refine hmf (he x _ hx) hO (by omega) ro (fun a ha => hv.mem a (by rw [← hs]; exact List.mem_append_left _ ha)) (fun a ha => ?_) ?_
    · rw [List.getLast?_eq_getElem?] at ha
      have la := (List.getElem?_eq_some_iff.mp ha).1
      refine hv.chain (l.length - 1) a r ?_ ?_
      · rw [← hs, List.getElem?_append_left la]; exact ha
      · rw [show l.length - 1 + 1 = l.length by omega, ← hs, List.getElem?_append_right (Nat.le_refl _), Nat.sub_self]; rfl
    · walk_at "w"
      refine nb_ite (fun e => by cases e) (fun _ => ?_)
      walk_at "w"
      refine ⟨⟨_, hO⟩, ?_⟩
      refine app_o hO (by rw [List.length_map]; omega) ?_
      refine k _ _ ⟨_, _, rfl, ?_, he.new hq⟩
      rw [updO_same, List.map_append]; rfl
  · exact ⟨none, none, rfl, updO_same, Ext.refl.new hq⟩
theorem settled_t {K : Frag} {rs : List Row} {O : OM} {Φ : D → OM → Prop} (hv : Vr rs) (h : ∀ O', Ext O O' → Φ (.int (setl rs)) O') : bodyM 3 (t_Rule_settled K) [ruleD K rs] O Φ := by
  unfold ruleD
  walk_at "w"
  refine ⟨rfl, ?_⟩
  rw [lkR]
  walk_at "w"
  refine lc_all rowD (fun r : Row => .int (r.1 * r.2)) rs ?_ (by have := hv.len; omega) ?_
  · intro r hr O0 S hS
    have ro := hv.mem r hr
    have p1 := ro.p1; have p2 := ro.p2
    walk_at "w"
    refine ⟨rfl, ?_⟩
    walk_at "w"
    refine ⟨.inl ⟨by omega, by omega⟩, ?_⟩
    exact hS _ .refl
  intro O1 x1
  walk_at "w"
  refine ⟨_, prods rs, rfl, seq_int (fun r : Row => r.1 * r.2) rs, fun e => hv.ne (List.map_eq_nil_iff.mp e), fun m m1 m2 => ?_⟩
  have em : m = setl rs := mx_uniq m1 m2
  subst em
  exact h _ x1
theorem period_t {K : Frag} {rs : List Row} {O : OM} {Φ : D → OM → Prop} (hv : Vr rs) (h : Φ (.int (per rs)) O) : bodyM 1 (t_Rule_period K) [ruleD K rs] O Φ := by
  unfold ruleD
  obtain ⟨rl, hl, hp, ro⟩ := hv.last
  walk_at "w"
  refine ⟨rfl, ?_⟩
  rw [lkR]
  walk_at "w"
  refine ix_t (atI_last (by rw [List.getLast?_map, hl]; rfl)) ?_
  walk_at "w"
  refine ix_t (atI_0 ..) ?_
  rw [← hp]
  exact h
end K68

set_option maxHeartbeats 1000000
namespace K68
open PySem PySem.Spec PyProof.Rows L2 DL
local macro_rules | `(tactic| walk_at "w") => `(tactic| with_reducible conv => whnf)
def SetlS (K : Frag) (f : Frag → M) : Prop := ∀ {rs : List Row} {O : OM} {Φ : D → OM → Prop}, Vr rs → (∀ O', Ext O O' → Φ (.int (setl rs)) O') → f K [ruleD K rs] O Φ
def PerS (K : Frag) (f : Frag → M) : Prop := ∀ {rs : List Row} {O : OM} {Φ : D → OM → Prop}, Vr rs → Φ (.int (per rs)) O → f K [ruleD K rs] O Φ
theorem settled_spec (K : Frag) : SetlS K m_Rule_settled := fun a b => by
  unfold m_Rule_settled
  exact settled_t a b
theorem period_spec (K : Frag) : PerS K m_Rule_period := fun a b => by
  unfold m_Rule_period
  exact period_t a b
def AgP (rs : List Row) (d a : Int) : Prop := a ≤ d ∧ ∃ r ∈ rs, ∃ k : Nat, (k : Int) < r.2 ∧ a = d % r.1 + k * r.1
theorem ageL_mem {rs : List Row} {d a : Int} (hv : Vr rs) (hd : 0 ≤ d) : a ∈ ageL rs d ↔ AgP rs d a := by
  unfold ageL
  rw [List.mem_map]
  constructor
  · rintro ⟨x, hx, rfl⟩
    rw [List.mem_reverse, standL_mem hv hd] at hx
    obtain ⟨h0, r, hr, k, hk, e⟩ := hx
    exact ⟨by omega, r, hr, k, hk, by omega⟩
  · rintro ⟨h0, r, hr, k, hk, e⟩
    refine ⟨d - a, ?_, by omega⟩
    rw [List.mem_reverse, standL_mem hv hd]
    exact ⟨by omega, r, hr, k, hk, by omega⟩
theorem ageL_pw (rs : List Row) (d : Int) : (ageL rs d).Pairwise (· < ·) := by
  unfold ageL
  rw [List.pairwise_map, List.pairwise_reverse]
  exact (standL_pw rs d).imp fun h => by omega
theorem ageL_len (rs : List Row) (d : Int) : (ageL rs d).length ≤ (d + 1).toNat := by
  unfold ageL
  rw [List.length_map, List.length_reverse]
  exact standL_len rs d
theorem put_keys {kds : List (Key × D)} {ks : List Int} {k : Int} {v : D} (h : kds.map (·.1) = ks.map Sum.inl) (hn : ks.Nodup) :
    ∃ ks' : List Int, (putD kds (.inl k) v).map (·.1) = ks'.map Sum.inl ∧ ks'.Nodup ∧ ks'.length ≤ ks.length + 1 ∧ ∀ x, x ∈ ks' ↔ x ∈ ks ∨ x = k := by
  have km : (kds.any fun kv => decide (kv.1 = .inl k)) = true ↔ k ∈ ks := by
    rw [List.any_eq_true]
    constructor
    · rintro ⟨kv, h1, h2⟩
      have h2 := of_decide_eq_true h2
      have : kv.1 ∈ kds.map (·.1) := List.mem_map.mpr ⟨kv, h1, rfl⟩
      rw [h, h2] at this
      obtain ⟨y, hy, e⟩ := List.mem_map.mp this
      cases e
      exact hy
    · intro hk
      have : (Sum.inl k : Key) ∈ kds.map (·.1) := by rw [h]; exact List.mem_map.mpr ⟨k, hk, rfl⟩
      obtain ⟨kv, h1, h2⟩ := List.mem_map.mp this
      exact ⟨kv, h1, by rw [h2]; exact decide_eq_true rfl⟩
  unfold putD
  by_cases e : k ∈ ks
  · rw [if_pos (km.mpr e)]
    refine ⟨ks, ?_, hn, by omega, fun x => ⟨.inl, fun z => z.elim id fun z => z ▸ e⟩⟩
    rw [← h, List.map_map]
    apply List.map_congr_left
    intro kv _
    show (if kv.1 = .inl k then (kv.1, v) else kv).1 = kv.1
    split <;> rfl
  · rw [if_neg (fun z => e (km.mp z))]
    refine ⟨ks ++ [k], by rw [List.map_append, h, List.map_append]; rfl, ?_, by simp, fun x => by simp⟩
    rw [List.nodup_append]
    exact ⟨hn, by simp, fun a ha b hb => by rw [List.mem_singleton] at hb; rw [hb]; exact fun z => e (z ▸ ha)⟩
def AgeS (K : Frag) (f : Frag → M) : Prop := ∀ {rs : List Row} {d : Int} {O : OM} {Φ : D → OM → Prop}, Vr rs → 0 ≤ d → (∀ O', Ext O O' → Φ (.lst ((ageL rs d).map D.int)) O') → f K [ruleD K rs, .int d] O Φ
theorem rages_t {K : Frag} {rs : List Row} {d : Int} {O : OM} {Φ : D → OM → Prop} (hv : Vr rs) (hd : 0 ≤ d) (h : ∀ O', Ext O O' → Φ (.lst ((ageL rs d).map D.int)) O') : bodyM 7 (t_Rule_ages K) [ruleD K rs, .int d] O Φ := by
  unfold ruleD
  walk_at "w"
  intro q hq
  walk_at "w"
  refine ⟨rfl, ?_⟩
  rw [lkR]
  walk_at "w"
  refine loop_on rowD (fun l r ds O' => ∃ x3 x4 x5 x6, ∃ (kds : List (Key × D)) (ks : List Int), ds = [some (.obj (DH.ga K "Rule") [("rows", .tup (rs.map rowD))]), some (.int d), some (.ref q), x3, x4, x5, x6] ∧ O' q = some (.dic kds) ∧ kds.map (·.1) = ks.map Sum.inl ∧ ks.Nodup ∧ ks.length ≤ 8 * l.length ∧ (∀ x, x ∈ ks ↔ AgP l d x) ∧ Ext O O') rs ?_ ?_ ?_
  · rintro ds O' ⟨x3, x4, x5, x6, kds, ks, rfl, hO, hk, hn, hl, hm, he⟩
    walk_at "w"
    have h4 := hv.len
    refine ⟨_, kds, ks, rfl, .inr ⟨_, rfl, hO⟩, hk, by omega, fun out o1 o2 => ?_⟩
    have e : out = ageL rs d := pw_uniq (by
      have nd : out.Nodup := o1.nodup_iff.mpr hn
      exact List.Pairwise.imp₂ (fun a b h1 h2 => by omega) o2 nd) (ageL_pw rs d) fun x => (o1.mem_iff.trans (hm x)).trans (ageL_mem hv hd).symm
    rw [e]
    exact h _ he
  · rintro l r rest ds O' hs ⟨x3, x4, x5, x6, kds, ks, rfl, hO, hk, hn, hl, hm, he⟩ k
    have ro := hv.mem r (by rw [← hs]; simp)
    have p1 := ro.p1; have p2 := ro.p2; have c1 := ro.c1; have c2 := ro.c2
    have hll : l.length + 1 ≤ rs.length := by rw [← hs]; simp
    have h4 := hv.len
    walk_at "w"
    refine ⟨rfl, ?_⟩
    walk_at "w"
    refine ⟨by omega, ?_⟩
    walk_at "w"
    refine ⟨⟨by omega, by omega⟩, ?_⟩
    refine loop_on (fun i : Nat => D.int (0 + (i : Int))) (fun l2 r2 ds O' => ∃ x6, ∃ (kds : List (Key × D)) (ks : List Int), ds = [some (.obj (DH.ga K "Rule") [("rows", .tup (rs.map rowD))]), some (.int d), some (.ref q), some (.int r.1), some (.int r.2), some (.int (d % r.1)), x6] ∧ O' q = some (.dic kds) ∧ kds.map (·.1) = ks.map Sum.inl ∧ ks.Nodup ∧ ks.length ≤ 8 * l.length + l2.length ∧ (∀ x, x ∈ ks ↔ AgP l d x ∨ x ≤ d ∧ ∃ i ∈ l2, x = d % r.1 + (i : Nat) * r.1) ∧ Ext O O') (List.range r.2.toNat) ?_ ?_ ?_
    · rintro ds O' ⟨x6, kds, ks, rfl, hO, hk, hn, hl, hm, he⟩
      refine k _ _ ⟨_, _, _, _, kds, ks, rfl, hO, hk, hn, ?_, fun x => ?_, he⟩
      · rw [List.length_range] at hl
        rw [List.length_append, List.length_singleton]
        omega
      · rw [hm x]
        constructor
        · rintro (⟨h0, r', hr', kk, hk, e⟩ | ⟨h0, i, hi, e⟩)
          · exact ⟨h0, r', List.mem_append_left _ hr', kk, hk, e⟩
          · rw [List.mem_range] at hi
            exact ⟨h0, r, by simp, i, by omega, e⟩
        · rintro ⟨h0, r', hr', kk, hk, e⟩
          rcases List.mem_append.mp hr' with hr' | hr'
          · exact .inl ⟨h0, r', hr', kk, hk, e⟩
          · rw [List.mem_singleton] at hr'
            subst hr'
            exact .inr ⟨h0, kk, by rw [List.mem_range]; omega, e⟩
    · rintro l2 i rest2 ds O' hs2 ⟨x6, kds, ks, rfl, hO, hk, hn, hl, hm, he⟩ k2
      have hi : i < r.2.toNat := by rw [← List.mem_range, ← hs2]; simp
      walk_at "w"
      refine ⟨.inl ⟨by omega, by omega⟩, ?_⟩
      walk_at "w"
      refine dec_ite (fun e => ?_) (fun e => ?_)
      · walk_at "w"
        refine ⟨.inl ⟨by omega, by omega⟩, ?_⟩
        walk_at "w"
        have hkl : kds.length = ks.length := by
          have := congrArg List.length hk
          rw [List.length_map, List.length_map] at this
          exact this
        have hl2 : l2.length + 1 ≤ r.2.toNat := by
          have : l2.length + 1 ≤ (List.range r.2.toNat).length := by rw [← hs2]; simp
          rw [List.length_range] at this
          exact this
        refine setd_o hO rfl (by omega) ?_
        obtain ⟨ks', h1, h2, h3, h5⟩ := put_keys (k := d % r.1 + (0 + (i : Int)) * r.1) (v := .bl true) hk hn
        refine k2 _ _ ⟨_, _, ks', rfl, updO_same, h1, h2, by rw [List.length_append, List.length_singleton]; omega, fun x => ?_, he.new hq⟩
        rw [h5 x, hm x]
        rw [Int.zero_add] at e ⊢
        constructor
        · rintro ((z | ⟨z, j, hj, e2⟩) | z)
          · exact .inl z
          · exact .inr ⟨z, j, List.mem_append_left _ hj, e2⟩
          · exact .inr ⟨by omega, i, by simp, z⟩
        · rintro (z | ⟨z, j, hj, e2⟩)
          · exact .inl (.inl z)
          · rcases List.mem_append.mp hj with hj | hj
            · exact .inl (.inr ⟨z, j, hj, e2⟩)
            · rw [List.mem_singleton] at hj
              subst hj
              exact .inr e2
      · refine k2 _ _ ⟨_, kds, ks, rfl, hO, hk, hn, by rw [List.length_append, List.length_singleton]; omega, fun x => ?_, he⟩
        rw [hm x]
        rw [Int.zero_add] at e
        constructor
        · rintro (z | ⟨z, j, hj, e2⟩)
          · exact .inl z
          · exact .inr ⟨z, j, List.mem_append_left _ hj, e2⟩
        · rintro (z | ⟨z, j, hj, e2⟩)
          · exact .inl z
          · rcases List.mem_append.mp hj with hj | hj
            · exact .inr ⟨z, j, hj, e2⟩
            · rw [List.mem_singleton] at hj
              subst hj
              omega
    · exact ⟨_, kds, ks, rfl, hO, hk, hn, by simpa using hl, fun x => by rw [hm x]; simp, he⟩
  · exact ⟨none, none, none, none, [], [], rfl, updO_same, rfl, List.nodup_nil, by simp, fun x => ⟨fun z => (by cases z), fun ⟨_, r, hr, _⟩ => (by cases hr)⟩, Ext.refl.new hq⟩
theorem rages_spec (K : Frag) : AgeS K m_Rule_ages := fun a b c => by
  unfold m_Rule_ages
  exact rages_t a b c
end K68

set_option maxHeartbeats 1000000
namespace K68
open PySem PySem.Spec PyProof.Rows L2 DL
local macro_rules | `(tactic| walk_at "w") => `(tactic| with_reducible conv => whnf)
noncomputable def callL (rs : List Row) (d : Int) : List Int := (ageL rs d).reverse.map fun a => d - a
def CallS (K : Frag) (f : Frag → M) : Prop := ∀ {rs : List Row} {d : Int} {O : OM} {Φ : D → OM → Prop}, Vr rs → 0 ≤ d → d < 1000 → (∀ O', Ext O O' → Φ (.lst ((callL rs d).map D.int)) O') → f K [ruleD K rs, .int d] O Φ
theorem rcall_t {K : Frag} {ag : Frag → M} (ha : AgeS K ag) {rs : List Row} {d : Int} {O : OM} {Φ : D → OM → Prop} (hv : Vr rs) (hd : 0 ≤ d) (hd1 : d < 1000) (h : ∀ O', Ext O O' → Φ (.lst ((callL rs d).map D.int)) O') : bodyM 3 (t_Rule_call K ag) [ruleD K rs, .int d] O Φ := by
  have ha : ∀ {O : OM} {Φ : D → OM → Prop}, (∀ O', Ext O O' → Φ (.lst ((ageL rs d).map D.int)) O') → ag K [ruleD K rs, .int d] O Φ := fun z => ha hv hd z
  unfold ruleD at ha ⊢
  walk_at "w"
  refine ⟨rfl, rfl, ?_⟩
  walk_at "w"
  refine ha fun O1 x1 => ?_
  walk_at "w"
  rw [← List.map_reverse]
  refine lc_all D.int (fun a : Int => .int (d - a)) (ageL rs d).reverse ?_ ?_ ?_
  · intro a _ O0 S hS
    walk_at "w"
    exact hS _ .refl
  · have := ageL_len rs d
    rw [List.length_reverse]; omega
  · intro O2 x2
    have := h O2 (x1.trans x2)
    rw [callL, List.map_map] at this
    exact this
def GapS (K : Frag) (f : Frag → M) : Prop := ∀ {rs : List Row} {d : Int} {O : OM} {Φ : D → OM → Prop}, Vr rs → 0 ≤ d → d < 1000 → (∀ O', Ext O O' → Φ (.lst ((gapsF 0 (ageL rs d)).map D.int)) O') → f K [ruleD K rs, .int d] O Φ
theorem gapsF_len : ∀ (x : Int) (as : List Int), (gapsF x as).length = as.length
  | _, [] => rfl
  | _, a :: r => congrArg Nat.succ (gapsF_len a r)
theorem gaps_t {K : Frag} {ag : Frag → M} (ha : AgeS K ag) {rs : List Row} {d : Int} {O : OM} {Φ : D → OM → Prop} (hv : Vr rs) (hd : 0 ≤ d) (hd1 : d < 1000) (h : ∀ O', Ext O O' → Φ (.lst ((gapsF 0 (ageL rs d)).map D.int)) O') : bodyM 5 (t_Rule_gaps K ag) [ruleD K rs, .int d] O Φ := by
  have ha : ∀ {O : OM} {Φ : D → OM → Prop}, (∀ O', Ext O O' → Φ (.lst ((ageL rs d).map D.int)) O') → ag K [ruleD K rs, .int d] O Φ := fun z => ha hv hd z
  unfold ruleD at ha ⊢
  walk_at "w"
  intro q hq
  walk_at "w"
  refine ⟨rfl, rfl, ?_⟩
  walk_at "w"
  refine ha fun O1 x1 => ?_
  walk_at "w"
  refine loop_on D.int (fun l r ds O' => ∃ x4 last, ∃ g : List Int, ds = [some (.obj (DH.ga K "Rule") [("rows", .tup (rs.map rowD))]), some (.int d), some (.ref q), some (.int last), x4] ∧ O' q = some (.lst (g.map D.int)) ∧ g ++ gapsF last r = gapsF 0 (ageL rs d) ∧ g.length = l.length ∧ Ext O O') (ageL rs d) ?_ ?_ ?_
  · rintro ds O' ⟨x4, last, g, rfl, hO, hg, hl, he⟩
    walk_at "w"
    refine ⟨_, hO, ?_⟩
    have := h _ (he.del hq)
    rw [← hg, gapsF, List.append_nil] at this
    exact this
  · rintro l a rest ds O' hs ⟨x4, last, g, rfl, hO, hg, hl, he⟩ k
    have hll : l.length + 1 ≤ (ageL rs d).length := by rw [← hs]; simp
    have := ageL_len rs d
    walk_at "w"
    refine ⟨⟨_, hO⟩, ?_⟩
    walk_at "w"
    refine app_o hO (by rw [List.length_map]; omega) ?_
    walk_at "w"
    refine k _ _ ⟨_, _, g ++ [a - last], rfl, ?_, ?_, by simp [hl], he.new hq⟩
    · rw [updO_same, List.map_append]; rfl
    · rw [← hg, gapsF, List.append_assoc]; rfl
  · exact ⟨none, 0, [], rfl, x1 q _ updO_same, rfl, rfl, (Ext.refl.newest hq).trans x1⟩
def RoomS (K : Frag) (f : Frag → M) : Prop := ∀ {rs : List Row} {d w c : Int} {O : OM} {Φ : D → OM → Prop}, Vr rs → 0 ≤ d → d < 1000 → 0 ≤ c → c ≤ 1000 → (∀ O', Ext O O' → Φ (.int (room rs w c d)) O') → f K [ruleD K rs, .int d, .int w, .int c] O Φ
theorem roomat_t {K : Frag} {gp : Frag → M} (hgp : GapS K gp) {rs : List Row} {d w c : Int} {O : OM} {Φ : D → OM → Prop} (hv : Vr rs) (hd : 0 ≤ d) (hd1 : d < 1000) (c0 : 0 ≤ c) (c1 : c ≤ 1000) (h : ∀ O', Ext O O' → Φ (.int (room rs w c d)) O') : bodyM 5 (t_room_at K gp) [ruleD K rs, .int d, .int w, .int c] O Φ := by
  have ha : ∀ {O : OM} {Φ : D → OM → Prop}, (∀ O', Ext O O' → Φ (.lst ((gapsF 0 (ageL rs d)).map D.int)) O') → gp K [ruleD K rs, .int d] O Φ := fun z => hgp hv hd hd1 z
  unfold ruleD at ha ⊢
  walk_at "w"
  refine ⟨rfl, rfl, ?_⟩
  walk_at "w"
  refine ha fun O1 x1 => ?_
  walk_at "w"
  refine lc_all D.int (fun g : Int => .int (min w (c * g))) (gapsF 0 (ageL rs d)) ?_ ?_ ?_
  · intro a _ O0 S hS
    walk_at "w"
    refine ⟨.inl ⟨by omega, by omega⟩, ?_⟩
    walk_at "w"
    refine ⟨_, _, rfl, ?_⟩
    exact hS _ .refl
  · have := ageL_len rs d
    rw [gapsF_len]; omega
  · intro O2 x2
    walk_at "w"
    refine ⟨_, _, rfl, seq_int (fun g : Int => min w (c * g)) _, ?_⟩
    walk_at "w"
    exact h O2 (x1.trans x2)
def GreatS (K : Frag) (f : Frag → M) : Prop := ∀ {rs : List Row} {w c : Int} {O : OM} {Φ : D → OM → Prop}, Vr rs → 0 ≤ c → c ≤ 1000 → (∀ dd O', Ext O O' → Φ (.tup [.int (mostR rs w c), .int dd]) O') → f K [ruleD K rs, .int w, .int c] O Φ
theorem great_t {K : Frag} {st pe ro : Frag → M} (hst : SetlS K st) (hpe : PerS K pe) (hro : RoomS K ro) {rs : List Row} {w c : Int} {O : OM} {Φ : D → OM → Prop} (hv : Vr rs) (c0 : 0 ≤ c) (c1 : c ≤ 1000) (h : ∀ dd O', Ext O O' → Φ (.tup [.int (mostR rs w c), .int dd]) O') : bodyM 6 (t_greatest_room K st pe ro) [ruleD K rs, .int w, .int c] O Φ := by
  have hst : ∀ {O : OM} {Φ : D → OM → Prop}, (∀ O', Ext O O' → Φ (.int (setl rs)) O') → st K [ruleD K rs] O Φ := fun z => hst hv z
  have hpe : ∀ {O : OM} {Φ : D → OM → Prop}, Φ (.int (per rs)) O → pe K [ruleD K rs] O Φ := fun z => hpe hv z
  have hro : ∀ {d : Int} {O : OM} {Φ : D → OM → Prop}, 0 ≤ d → d < 1000 → (∀ O', Ext O O' → Φ (.int (room rs w c d)) O') → ro K [ruleD K rs, .int d, .int w, .int c] O Φ := fun a b z => hro hv a b c0 c1 z
  have hs := hv.setl
  obtain ⟨rl, hl, hp, rok⟩ := hv.last
  have p1 := rok.p1; have p2 := rok.p2
  unfold ruleD at hst hpe hro ⊢
  walk_at "w"
  refine ⟨rfl, ?_⟩
  refine hst fun O1 x1 => ?_
  walk_at "w"
  refine ⟨rfl, ?_⟩
  refine hpe ?_
  walk_at "w"
  refine ⟨⟨by omega, by omega⟩, ?_⟩
  rw [dayM_D]
  refine loop_on D.int (fun l r ds O' => ∃ m dd x4 x5, ds = [some (.obj (DH.ga K "Rule") [("rows", .tup (rs.map rowD))]), some (.int w), some (.int c), some (.tup [.int m, .int dd]), x4, x5] ∧ (r.map (room rs w c)).foldl max m = mostR rs w c ∧ Ext O O') (dayM rs) ?_ ?_ ?_
  · rintro ds O' ⟨m, dd, x4, x5, rfl, hm, he⟩
    walk_at "w"
    have := h dd O' he
    rw [← hm] at this
    exact this
  · rintro l d rest ds O' hs2 ⟨m, dd, x4, x5, rfl, hm, he⟩ k
    have hd := dayM_mem hv (show d ∈ dayM rs by rw [← hs2]; simp)
    walk_at "w"
    refine hro hd.1 (by omega) fun O2 x2 => ?_
    walk_at "w"
    refine ix_t (atI_0 ..) ?_
    walk_at "w"
    rw [List.map_cons, List.foldl_cons] at hm
    refine dec_ite (fun e => ?_) (fun e => ?_)
    · walk_at "w"
      refine k _ _ ⟨_, _, _, _, rfl, ?_, he.trans x2⟩
      rw [← hm, Int.max_eq_right (by omega)]
    · refine k _ _ ⟨_, _, _, _, rfl, ?_, he.trans x2⟩
      rw [← hm, Int.max_eq_left (by omega)]
  · exact ⟨0, 0, none, none, rfl, rfl, x1⟩
def KeepS (K : Frag) (f : Frag → M) : Prop := ∀ {rs : List Row} {low slack : Int} {O : OM} {Φ : D → OM → Prop}, Vr rs → (∀ O', Ext O O' → Φ (.bl (keepB (agesT rs) low slack)) O') → f K [ruleD K rs, .int low, .int slack] O Φ
theorem call_any {rs : List Row} {d low slack : Int} : (callL rs d).any (fun s => inR low slack (d - s)) = (ageL rs d).any (inR low slack) := by
  unfold callL
  rw [List.any_map, List.any_reverse]
  congr 1
  funext a
  show inR low slack (d - (d - a)) = inR low slack a
  rw [show d - (d - a) = a by omega]
theorem keeps_t {K : Frag} {st pe ca : Frag → M} (hst : SetlS K st) (hpe : PerS K pe) (hca : CallS K ca) {rs : List Row} {low slack : Int} {O : OM} {Φ : D → OM → Prop} (hv : Vr rs) (h : ∀ O', Ext O O' → Φ (.bl (keepB (agesT rs) low slack)) O') : bodyM 5 (t_keeps K st pe ca) [ruleD K rs, .int low, .int slack] O Φ := by
  have hst : ∀ {O : OM} {Φ : D → OM → Prop}, (∀ O', Ext O O' → Φ (.int (setl rs)) O') → st K [ruleD K rs] O Φ := fun z => hst hv z
  have hpe : ∀ {O : OM} {Φ : D → OM → Prop}, Φ (.int (per rs)) O → pe K [ruleD K rs] O Φ := fun z => hpe hv z
  have hca : ∀ {d : Int} {O : OM} {Φ : D → OM → Prop}, 0 ≤ d → d < 1000 → (∀ O', Ext O O' → Φ (.lst ((callL rs d).map D.int)) O') → ca K [ruleD K rs, .int d] O Φ := fun a b z => hca hv a b z
  have hs := hv.setl
  obtain ⟨rl, hl, hp, rok⟩ := hv.last
  have p1 := rok.p1; have p2 := rok.p2
  have hk : keepB (agesT rs) low slack = (dayL rs).all fun d => (ageL rs d).any (inR low slack) := by
    unfold keepB agesT
    rw [List.all_map]; rfl
  rw [hk] at h
  unfold ruleD at hst hpe hca ⊢
  walk_at "w"
  refine ⟨rfl, ?_⟩
  refine hst fun O1 x1 => ?_
  walk_at "w"
  refine ⟨rfl, ?_⟩
  refine hst fun O2 x2 => ?_
  walk_at "w"
  refine ⟨rfl, ?_⟩
  refine hpe ?_
  walk_at "w"
  refine ⟨⟨by omega, by omega, by omega, by omega⟩, ?_⟩
  rw [dayL_D]
  refine loop_on D.int (fun l r ds O' => ∃ x3, ds = [some (.obj (DH.ga K "Rule") [("rows", .tup (rs.map rowD))]), some (.int low), some (.int slack), x3, none] ∧ l.all (fun d => (ageL rs d).any (inR low slack)) = true ∧ Ext O O') (dayL rs) ?_ ?_ ?_
  · rintro ds O' ⟨x3, rfl, ha, he⟩
    walk_at "w"
    have := h O' he
    rw [ha] at this
    exact this
  · rintro l d rest ds O' hs2 ⟨x3, rfl, ha, he⟩ k
    have hd := dayL_mem hv (show d ∈ dayL rs by rw [← hs2]; simp)
    walk_at "w"
    refine ⟨rfl, ?_⟩
    refine ⟨⟨_, rfl⟩, ?_⟩
    refine hca hd.1 (by omega) fun O3 x3 => ?_
    walk_at "w"
    refine lc_all D.int (fun s => .bl (inR low slack (d - s))) (callL rs d) ?_ ?_ ?_
    · intro s _ O0 S hS
      walk_at "w"
      refine chain_ite (fun e => ?_) (fun e => ?_)
      · walk_at "w"
        have := hS _ .refl
        rw [inR, e, Bool.true_and] at this
        exact this
      · have := hS _ .refl
        rw [inR, e, Bool.false_and] at this
        exact this
    · have := ageL_len rs d
      unfold callL
      rw [List.length_map, List.length_reverse]; omega
    · intro O4 x4
      walk_at "w"
      refine ⟨_, (callL rs d).map (fun s => inR low slack (d - s)), rfl, by rw [List.map_map]; rfl, ?_⟩
      walk_at "w"
      rw [List.any_map]
      refine nb_ite (fun e => ?_) (fun e => ?_)
      · walk_at "w"
        have := h O4 (he.trans (x3.trans x4))
        rw [← hs2, List.all_append, List.all_cons, ← call_any, show (callL rs d).any (fun s => inR low slack (d - s)) = false from e, Bool.false_and, Bool.and_false] at this
        exact this
      · exact k _ _ ⟨_, rfl, by rw [List.all_append, ha, List.all_cons, ← call_any, show (callL rs d).any (fun s => inR low slack (d - s)) = true from e]; rfl, he.trans (x3.trans x4)⟩
  · exact ⟨none, rfl, rfl, x1.trans x2⟩
theorem call_spec (K : Frag) : CallS K m_Rule_call := fun a b c d => by
  unfold m_Rule_call
  exact rcall_t (rages_spec K) a b c d
theorem gaps_spec (K : Frag) : GapS K m_Rule_gaps := fun a b c d => by
  unfold m_Rule_gaps
  exact gaps_t (rages_spec K) a b c d
theorem room_spec (K : Frag) : RoomS K m_room_at := fun a b c d e f => by
  unfold m_room_at
  exact roomat_t (gaps_spec K) a b c d e f
theorem great_spec (K : Frag) : GreatS K m_greatest_room := fun a b c d => by
  unfold m_greatest_room
  exact great_t (settled_spec K) (period_spec K) (room_spec K) a b c d
theorem keeps_spec (K : Frag) : KeepS K m_keeps := fun a b => by
  unfold m_keeps
  exact keeps_t (settled_spec K) (period_spec K) (call_spec K) a b
end K68

set_option maxHeartbeats 1000000
namespace K68
open PySem PySem.Spec PyProof.Rows L2 DL
/-- rows numbered from k on -/
def enR (k : Nat) : List (List Row) → List (Nat × List Row)
  | [] => []
  | r :: rs => (k, r) :: enR (k + 1) rs
theorem enR_fst : ∀ (k : Nat) (rss : List (List Row)), (enR k rss).map (·.1) = List.range' k rss.length
  | _, [] => rfl
  | k, r :: rs => by rw [enR, List.map_cons, enR_fst (k + 1) rs, List.length_cons, List.range'_succ]
theorem enR_D (rss : List (List Row)) : rangeD 0 rss.length = (enR 0 rss).map fun p => D.int (0 + (p.1 : Int)) := by
  unfold rangeD
  rw [List.range_eq_range', ← enR_fst 0 rss, List.map_map]
  rfl
theorem enR_en {K : Frag} : ∀ (k : Nat) (rss : List (List Row)), enumD k (rss.map (ruleD K)) = (enR k rss).map fun p => D.tup [.int (p.1 : Nat), ruleD K p.2]
  | _, [] => rfl
  | k, r :: rs => by
    show _ :: enumD (k + 1) (rs.map (ruleD K)) = _ :: (enR (k + 1) rs).map _
    rw [enR_en (k + 1) rs]
theorem enR_get : ∀ {k : Nat} {rss : List (List Row)} {p : Nat × List Row}, p ∈ enR k rss → ∃ i, p.1 = k + i ∧ rss[i]? = some p.2
  | _, [], _, h => by cases h
  | k, r :: rs, p, h => by
    rcases List.mem_cons.mp h with rfl | h
    · exact ⟨0, rfl, rfl⟩
    · obtain ⟨i, e, g⟩ := enR_get h
      exact ⟨i + 1, by omega, g⟩
theorem enR_len (k : Nat) (rss : List (List Row)) : (enR k rss).length = rss.length := by
  have := congrArg List.length (enR_fst k rss)
  rw [List.length_map, List.length_range'] at this
  exact this
theorem enR_get0 {rss : List (List Row)} {p : Nat × List Row} (h : p ∈ enR 0 rss) : rss[p.1]? = some p.2 := by
  obtain ⟨i, e, g⟩ := enR_get h
  rw [show p.1 = i by omega]; exact g
def bst (ok : List Row → Bool) (rm : List Row → Int) : List (Nat × List Row) → Option (Nat × Int) → Option (Nat × Int)
  | [], s => s
  | p :: r, s => bst ok rm r (if ok p.2 = true then (match s with
    | none => some (p.1, rm p.2)
    | some (b, l) => if rm p.2 < l then some (p.1, rm p.2) else some (b, l)) else s)
def Good (ok : List Row → Bool) (rm : List Row → Int) (l : List (Nat × List Row)) : Option (Nat × Int) → Prop
  | none => ∀ p ∈ l, ok p.2 = false
  | some (b, v) => ∃ l1 p l2, l = l1 ++ p :: l2 ∧ p.1 = b ∧ ok p.2 = true ∧ rm p.2 = v ∧ (∀ q ∈ l1, ok q.2 = true → v < rm q.2) ∧ ∀ q ∈ l2, ok q.2 = true → v ≤ rm q.2
theorem bst_good {ok : List Row → Bool} {rm : List Row → Int} : ∀ (r l : List (Nat × List Row)) (s : Option (Nat × Int)), Good ok rm l s → Good ok rm (l ++ r) (bst ok rm r s)
  | [], l, s, h => by rw [List.append_nil]; exact h
  | p :: r, l, s, h => by
    rw [show l ++ p :: r = (l ++ [p]) ++ r by simp]
    refine bst_good r (l ++ [p]) _ ?_
    by_cases o : ok p.2 = true
    · rw [if_pos o]
      cases s with
      | none => exact ⟨l, p, [], rfl, rfl, o, rfl, fun q hq z => (by rw [h q hq] at z; cases z), fun q hq => (by cases hq)⟩
      | some bl =>
        obtain ⟨b, v⟩ := bl
        obtain ⟨l1, p', l2, e1, e2, e3, e4, e5, e6⟩ := h
        show Good ok rm (l ++ [p]) (if rm p.2 < v then some (p.1, rm p.2) else some (b, v))
        by_cases c : rm p.2 < v
        · rw [if_pos c]
          refine ⟨l, p, [], rfl, rfl, o, rfl, fun q hq z => ?_, fun q hq => by cases hq⟩
          rw [e1] at hq
          rcases List.mem_append.mp hq with hq | hq
          · have := e5 q hq z; omega
          · rcases List.mem_cons.mp hq with rfl | hq
            · omega
            · have := e6 q hq z; omega
        · rw [if_neg c]
          refine ⟨l1, p', l2 ++ [p], by rw [e1]; simp, e2, e3, e4, e5, fun q hq z => ?_⟩
          rcases List.mem_append.mp hq with hq | hq
          · exact e6 q hq z
          · rw [List.mem_singleton] at hq; rw [hq]; omega
    · rw [if_neg o]
      cases s with
      | none =>
        intro q hq
        rcases List.mem_append.mp hq with hq | hq
        · exact h q hq
        · rw [List.mem_singleton] at hq; rw [hq]; simpa using o
      | some bl =>
        obtain ⟨b, v⟩ := bl
        obtain ⟨l1, p', l2, e1, e2, e3, e4, e5, e6⟩ := h
        refine ⟨l1, p', l2 ++ [p], by rw [e1]; simp, e2, e3, e4, e5, fun q hq z => ?_⟩
        rcases List.mem_append.mp hq with hq | hq
        · exact e6 q hq z
        · rw [List.mem_singleton] at hq; rw [hq] at z; exact absurd z o
/-- none: none is good -/
theorem good_none {ok : List Row → Bool} {rm : List Row → Int} {l : List (Nat × List Row)} : Good ok rm l none ↔ (l.filter fun p => ok p.2) = [] := by
  rw [List.filter_eq_nil_iff]
  constructor
  · intro h p hp z; rw [h p hp] at z; cases z
  · intro h p hp; have := h p hp; simpa using this
/-- one: it is the first of the least -/
theorem good_some {ok : List Row → Bool} {rm : List Row → Int} {l : List (Nat × List Row)} {b : Nat} {v m : Int} (h : Good ok rm l (some (b, v))) (h1 : m ∈ (l.filter fun p => ok p.2).map fun p => rm p.2) (h2 : ∀ y ∈ (l.filter fun p => ok p.2).map (fun p => rm p.2), m ≤ y) :
    ∃ p t, ((l.filter fun p => ok p.2).filter fun p => decide (rm p.2 = m)) = p :: t ∧ p.1 = b := by
  obtain ⟨l1, p, l2, e1, e2, e3, e4, e5, e6⟩ := h
  have hp : p ∈ l.filter fun p => ok p.2 := List.mem_filter.mpr ⟨by rw [e1]; simp, e3⟩
  have a1 : m ≤ v := by rw [← e4]; exact h2 _ (List.mem_map.mpr ⟨p, hp, rfl⟩)
  have a2 : v ≤ m := by
    obtain ⟨q, hq, rfl⟩ := List.mem_map.mp h1
    obtain ⟨hq, z⟩ := List.mem_filter.mp hq
    rw [e1] at hq
    rcases List.mem_append.mp hq with hq | hq
    · have := e5 q hq z; omega
    · rcases List.mem_cons.mp hq with rfl | hq
      · omega
      · exact e6 q hq z
  have em : m = v := by omega
  subst em
  refine ⟨p, (l2.filter fun p => ok p.2).filter fun p => decide (rm p.2 = m), ?_, e2⟩
  rw [e1, List.filter_append, List.filter_cons, if_pos e3, List.filter_append, List.filter_cons, if_pos (by simpa using e4)]
  have n : ((l1.filter fun p => ok p.2).filter fun p => decide (rm p.2 = m)) = [] := by
    rw [List.filter_eq_nil_iff]
    intro q hq z
    obtain ⟨hq, o⟩ := List.mem_filter.mp hq
    have := e5 q hq o
    have := of_decide_eq_true z
    omega
  rw [n, List.nil_append]
/-! equal pairs -/
def pyR (r : Row) : PyData := .tuple [.int r.1, .int r.2]
theorem pyDs_rows : ∀ ws : List Row, pyDs (ws.map rowD) = some (ws.map pyR)
  | [] => by simp only [List.map_nil, pyDs]
  | w :: ws => by
    rw [List.map_cons, List.map_cons, pyDs, pyDs_rows ws]
    simp only [rowD, pyD, pyDs, Option.map_some, pyR]
theorem eqv_rows : ∀ ws : List Row, PyData.eqvAll (ws.map pyR) (ws.map pyR) = true
  | [] => by simp [PyData.eqvAll]
  | w :: ws => by simp [PyData.eqvAll, pyR, PyData.eqv, eqv_rows ws]
theorem lay_rows : ∀ ws : List Row, PyData.canLayAll0 (ws.map pyR) = true
  | [] => by simp [PyData.canLayAll0]
  | w :: ws => by simp [PyData.canLayAll0, pyR, PyData.canLay0, lay_rows ws]
theorem depth_rows : ∀ ws : List Row, PyData.depthAll (ws.map pyR) ≤ 1
  | [] => by simp [PyData.depthAll]
  | w :: ws => by
    have := depth_rows ws
    simp [PyData.depthAll, pyR, PyData.depth]
    omega
theorem pyL (ws : List Row) : pyD (.lst (ws.map rowD)) = some (.list (ws.map pyR)) := by rw [pyD, pyDs_rows]; rfl
theorem shp (ws : List Row) : SeqAt.shaped (.list (ws.map pyR)) = true := by
  unfold SeqAt.shaped
  rw [PyData.canLay0, lay_rows, PyData.depth]
  have := depth_rows ws
  simp
  omega
theorem eqvL (ws : List Row) : PyData.eqv (.list (ws.map pyR)) (.list (ws.map pyR)) = true := by rw [PyData.eqv, eqv_rows]
end K68

set_option maxHeartbeats 1000000
namespace K68
open PySem PySem.Spec PyProof.Rows L2 DL
local macro_rules | `(tactic| walk_at "w") => `(tactic| with_reducible conv => whnf)
noncomputable def okW (ws : List Row) (rs : List Row) : Bool := ws.all fun w => keepB (agesT rs) w.1 w.2
def bestD : Option (Nat × Int) → D
  | none => .non
  | some (b, _) => .int (b : Nat)
def leastD : Option (Nat × Int) → D
  | none => .int 0
  | some (_, l) => .int l
noncomputable def bestF (rss : List (List Row)) (ws : List Row) (w c : Int) : Option (Nat × Int) := bst (okW ws) (fun rs => mostR rs w c) (enR 0 rss) none
theorem bst_cons {ok : List Row → Bool} {rm : List Row → Int} {p : Nat × List Row} {r : List (Nat × List Row)} {s : Option (Nat × Int)} : bst ok rm (p :: r) s = bst ok rm r (if ok p.2 = true then (match s with
    | none => some (p.1, rm p.2)
    | some (b, l) => if rm p.2 < l then some (p.1, rm p.2) else some (b, l)) else s) := rfl
def BestS (K : Frag) (f : Frag → M) : Prop := ∀ {rss : List (List Row)} {ws : List Row} {w c : Int} {O : OM} {Φ : D → OM → Prop}, (∀ rs ∈ rss, Vr rs) → ws.length ≤ 1000 → 0 ≤ c → c ≤ 1000 → (∀ O', Ext O O' → Φ (bestD (bestF rss ws w c)) O') → f K [.lst (rss.map (ruleD K)), .lst (ws.map rowD), .int w, .int c] O Φ
theorem best_t {K : Frag} {ke gr : Frag → M} (hke : KeepS K ke) (hgr : GreatS K gr) {rss : List (List Row)} {ws : List Row} {w c : Int} {O : OM} {Φ : D → OM → Prop} (hv : ∀ rs ∈ rss, Vr rs) (hw : ws.length ≤ 1000) (c0 : 0 ≤ c) (c1 : c ≤ 1000)
    (h : ∀ O', Ext O O' → Φ (bestD (bestF rss ws w c)) O') : bodyM 11 (t_best_rule K ke gr) [.lst (rss.map (ruleD K)), .lst (ws.map rowD), .int w, .int c] O Φ := by
  walk_at "w"
  rw [enR_en]
  refine loop_on (fun p : Nat × List Row => D.tup [.int (p.1 : Nat), ruleD K p.2]) (fun l r ds O' => ∃ s x6 x7 x8, ds = [some (.lst (rss.map (ruleD K))), some (.lst (ws.map rowD)), some (.int w), some (.int c), some (bestD s), some (leastD s), x6, x7, x8, none, none] ∧ bst (okW ws) (fun rs => mostR rs w c) r s = bestF rss ws w c ∧ Ext O O') (enR 0 rss) ?_ ?_ ?_
  · rintro ds O' ⟨s, x6, x7, x8, rfl, hs, he⟩
    walk_at "w"
    have := h O' he
    rw [← hs] at this
    exact this
  · rintro l p rest ds O' hs ⟨s, x6, x7, x8, rfl, hb, he⟩ k
    have hp : Vr p.2 := by
      obtain ⟨i, _, g⟩ := enR_get (show p ∈ enR 0 rss by rw [← hs]; simp)
      exact hv _ (List.mem_of_getElem? g)
    walk_at "w"
    refine ⟨rfl, ?_⟩
    walk_at "w"
    refine lc_all rowD (fun x : Row => .bl (keepB (agesT p.2) x.1 x.2)) ws ?_ (by omega) ?_
    · intro x _ O0 S hS
      walk_at "w"
      refine ⟨rfl, ?_⟩
      walk_at "w"
      exact hke hp fun O1 x1 => hS _ x1
    · intro O2 x2
      walk_at "w"
      refine ⟨_, ws.map fun x => keepB (agesT p.2) x.1 x.2, rfl, by rw [List.map_map]; rfl, ?_⟩
      walk_at "w"
      rw [List.all_map]
      have he2 := he.trans x2
      refine b_ite (fun e => ?_) (fun e => ?_)
      · walk_at "w"
        have ok : okW ws p.2 = true := e
        refine hgr hp c0 c1 fun dd O3 x3 => ?_
        walk_at "w"
        refine ix_t (atI_0 ..) ?_
        have he3 := he2.trans x3
        rw [bst_cons, if_pos ok] at hb
        cases s with
        | none =>
          walk_at "w"
          refine t_ite ?_
          walk_at "w"
          refine t_ite ?_
          walk_at "w"
          exact k _ _ ⟨some (p.1, mostR p.2 w c), _, _, _, rfl, hb, he3⟩
        | some bl =>
          obtain ⟨b, v⟩ := bl
          walk_at "w"
          refine f_ite ?_
          walk_at "w"
          refine dec_ite (fun e => ?_) (fun e => ?_)
          · walk_at "w"
            refine k _ _ ⟨some (p.1, mostR p.2 w c), _, _, _, rfl, ?_, he3⟩
            rw [← hb]
            show _ = bst _ _ rest (if mostR p.2 w c < v then some (p.1, mostR p.2 w c) else some (b, v))
            rw [if_pos e]
          · walk_at "w"
            refine k _ _ ⟨some (b, v), _, _, _, rfl, ?_, he3⟩
            rw [← hb]
            show _ = bst _ _ rest (if mostR p.2 w c < v then some (p.1, mostR p.2 w c) else some (b, v))
            rw [if_neg e]
      · have ok : ¬ okW ws p.2 = true := fun z => by
          have e : okW ws p.2 = false := e
          rw [e] at z; cases z
        rw [bst_cons, if_neg ok] at hb
        exact k _ _ ⟨s, _, _, _, rfl, hb, he2⟩
  · exact ⟨none, none, none, none, rfl, rfl, .refl⟩
theorem best_spec (K : Frag) : BestS K m_best_rule := fun a b c d e => by
  unfold m_best_rule
  exact best_t (keeps_spec K) (great_spec K) a b c d e
def IsS (f : M) : Prop := ∀ {i : Int} {O : OM} {Φ : D → OM → Prop}, Φ (.bl true) O → f [.int i, .int i] O Φ
theorem is_t {i : Int} {O : OM} {Φ : D → OM → Prop} (h : Φ (.bl true) O) : bodyM 4 t_law_is [.int i, .int i] O Φ := by
  walk_at "w"
  refine f_ite ?_
  walk_at "w"
  refine ⟨_, _, true, rfl, (show ("int" : String) ≠ "" by decide), (show kitB "int" "int" = some true by decide), ?_⟩
  walk_at "w"
  refine t_ite ?_
  walk_at "w"
  refine ⟨_, _, true, rfl, (show ("int" : String) ≠ "" by decide), (show kitB "int" "int" = some true by decide), ?_⟩
  walk_at "w"
  refine ⟨_, _, false, rfl, (show ("int" : String) ≠ "" by decide), (show kitB "int" "bool" = some false by decide), ?_⟩
  walk_at "w"
  show Φ (.bl (decide (i = i))) O
  rw [decide_eq_true rfl]
  exact h
theorem is_spec : IsS m_law_is := fun a => by
  unfold m_law_is
  exact is_t a
end K68

set_option maxHeartbeats 1000000
namespace K68
open PySem PySem.Spec PyProof.Rows L2 DL
local macro_rules | `(tactic| walk_at "w") => `(tactic| with_reducible conv => whnf)
def LKeepS (f : M) : Prop := ∀ {tab : List (List Int)} {low slack : Int} {O : OM} {Φ : D → OM → Prop}, (∀ as ∈ tab, as.length ≤ 100000) → (∀ O', Ext O O' → Φ (.bl (keepB tab low slack)) O') → f [tabD tab, .int low, .int slack] O Φ
theorem lkeeps_spec : LKeepS m_law_keeps := fun a b => by
  unfold m_law_keeps
  exact lkeeps_t a b
theorem agesT_ok {rs : List Row} (hv : Vr rs) : 1 ≤ (agesT rs).length ∧ ∀ as ∈ agesT rs, as.length ≤ 100000 := by
  unfold agesT
  refine ⟨by rw [List.length_map]; exact (dayL_len hv).1, fun as h => ?_⟩
  obtain ⟨d, hd, rfl⟩ := List.mem_map.mp h
  have := (dayL_mem hv hd).2
  have := ageL_len rs d
  omega
def LBestS (K : Frag) (f : Frag → M) : Prop := ∀ {rss : List (List Row)} {ws : List Row} {w c : Int} {O : OM} {Φ : D → OM → Prop}, (∀ rs ∈ rss, Vr rs) → rss.length ≤ 8 → ws.length ≤ 1000 → 0 ≤ c → c ≤ 1000 → (∀ O', Ext O O' → Φ (.bl true) O') →
    f K [.lst (rss.map (ruleD K)), .lst (rss.map fun rs => tabD (agesT rs)), .lst (rss.map fun rs => .int (mostR rs w c)), .lst (ws.map rowD), .int w, .int c] O Φ
theorem lbest_t {K : Frag} {lk : M} {be : Frag → M} {li : M} (hlk : LKeepS lk) (hbe : BestS K be) (hli : IsS li) {rss : List (List Row)} {ws : List Row} {w c : Int} {O : OM} {Φ : D → OM → Prop} (hv : ∀ rs ∈ rss, Vr rs) (hr : rss.length ≤ 8) (hw : ws.length ≤ 1000) (c0 : 0 ≤ c) (c1 : c ≤ 1000) (h : ∀ O', Ext O O' → Φ (.bl true) O') :
    bodyM 14 (t_law_best K lk be li) [.lst (rss.map (ruleD K)), .lst (rss.map fun rs => tabD (agesT rs)), .lst (rss.map fun rs => .int (mostR rs w c)), .lst (ws.map rowD), .int w, .int c] O Φ := by
  walk_at "w"
  refine len_l ?_
  rw [List.length_map]
  walk_at "w"
  refine ⟨⟨by omega, by omega⟩, ?_⟩
  rw [Int.toNat_natCast, enR_D]
  refine lc_ext (fun p : Nat × List Row => D.int (0 + (p.1 : Int))) (fun p => okW ws p.2) (fun p => .int (0 + (p.1 : Int))) (enR 0 rss) ?_ (by rw [enR_len]; omega) ?_
  · intro p hp O0 N S hS hN
    have g := enR_get0 hp
    have vp : Vr p.2 := hv _ (List.mem_of_getElem? g)
    walk_at "w"
    refine lc_all rowD (fun x : Row => .bl (keepB (agesT p.2) x.1 x.2)) ws ?_ (by omega) ?_
    · intro x _ O0 S hS
      walk_at "w"
      refine ⟨rfl, ?_⟩
      walk_at "w"
      refine ix_l (z := tabD (agesT p.2)) (atI_nat (by omega) (by rw [show (0 + (p.1 : Int)).toNat = p.1 by omega, List.getElem?_map, g]; rfl)) ?_
      walk_at "w"
      exact hlk (agesT_ok vp).2 fun O1 x1 => hS _ x1
    · intro O2 x2
      walk_at "w"
      refine ⟨_, ws.map fun x => keepB (agesT p.2) x.1 x.2, rfl, by rw [List.map_map]; rfl, ?_⟩
      walk_at "w"
      rw [List.all_map]
      refine b_ite (fun e => ?_) (fun e => ?_)
      · exact hS e _ x2
      · exact hN e _ x2
  intro O1 x1
  walk_at "w"
  refine ⟨_, _, rfl, rfl, ?_⟩
  walk_at "w"
  refine ⟨_, _, rfl, rfl, ?_⟩
  walk_at "w"
  refine hbe hv hw c0 c1 fun O2 x2 => ?_
  walk_at "w"
  refine len_l ?_
  walk_at "w"
  refine len_l ?_
  walk_at "w"
  rw [decide_eq_true (show ((rss.map (ruleD K)).length : Int) = (rss.map (ruleD K)).length from rfl)]
  refine f_ite ?_
  walk_at "w"
  refine ⟨_, _, pyL ws, pyL ws, shp ws, shp ws, ?_⟩
  walk_at "w"
  refine nb_ite (fun e => by rw [eqvL] at e; cases e) (fun _ => ?_)
  have G : Good (okW ws) (fun rs => mostR rs w c) ([] ++ enR 0 rss) (bestF rss ws w c) := bst_good (enR 0 rss) [] none (fun p hp => by cases hp)
  rw [List.nil_append] at G
  walk_at "w"
  refine len_l ?_
  rw [List.length_map]
  walk_at "w"
  have he := x1.trans x2
  refine dec_ite (fun e => ?_) (fun e => ?_)
  · have e0 : ((enR 0 rss).filter fun p => okW ws p.2) = [] := List.length_eq_zero_iff.mp (by omega)
    cases s : bestF rss ws w c with
    | none =>
      walk_at "w"
      exact h _ he
    | some bl =>
      obtain ⟨b, v⟩ := bl
      rw [s] at G
      obtain ⟨l1, p, l2, e1, _, o, _⟩ := G
      have : p ∈ (enR 0 rss).filter fun p => okW ws p.2 := List.mem_filter.mpr ⟨by rw [e1]; simp, o⟩
      rw [e0] at this
      cases this
  · walk_at "w"
    refine lc_all (fun p : Nat × List Row => D.int (0 + (p.1 : Int))) (fun p => .int (mostR p.2 w c)) ((enR 0 rss).filter fun p => okW ws p.2) ?_ ?_ ?_
    · intro p hp O0 S hS
      have g := enR_get0 (List.mem_filter.mp hp).1
      walk_at "w"
      refine ix_l (z := .int (mostR p.2 w c)) (atI_nat (by omega) (by rw [show (0 + (p.1 : Int)).toNat = p.1 by omega, List.getElem?_map, g]; rfl)) ?_
      exact hS _ .refl
    · have := List.length_filter_le (fun p : Nat × List Row => okW ws p.2) (enR 0 rss)
      rw [enR_len] at this
      omega
    intro O3 x3
    walk_at "w"
    refine ⟨_, _, rfl, seq_int (fun p : Nat × List Row => mostR p.2 w c) _, fun z => e (by rw [List.map_eq_nil_iff.mp z]; rfl), fun m m1 m2 => ?_⟩
    walk_at "w"
    refine lc_ext (fun p : Nat × List Row => D.int (0 + (p.1 : Int))) (fun p => decide (mostR p.2 w c = m)) (fun p => .int (0 + (p.1 : Int))) ((enR 0 rss).filter fun p => okW ws p.2) ?_ ?_ ?_
    · intro p hp O0 N S hS hN
      have g := enR_get0 (List.mem_filter.mp hp).1
      walk_at "w"
      refine ix_l (z := .int (mostR p.2 w c)) (atI_nat (by omega) (by rw [show (0 + (p.1 : Int)).toNat = p.1 by omega, List.getElem?_map, g]; rfl)) ?_
      walk_at "w"
      refine dec_ite (fun e => ?_) (fun e => ?_)
      · exact hS (by simpa using e) _ .refl
      · exact hN (by simpa using e) _ .refl
    · have := List.length_filter_le (fun p : Nat × List Row => okW ws p.2) (enR 0 rss)
      rw [enR_len] at this
      omega
    intro O4 x4
    walk_at "w"
    cases s : bestF rss ws w c with
    | none =>
      rw [s] at G
      exact absurd (by rw [good_none.mp G]; rfl) e
    | some bl =>
      obtain ⟨b, v⟩ := bl
      rw [s] at G
      obtain ⟨p, t, e1, e2⟩ := good_some G m1 m2
      rw [e1, List.map_cons]
      refine ix_l (atI_0 ..) ?_
      walk_at "w"
      have := @hli (b : Int) O4 Φ (h _ (he.trans (x3.trans x4)))
      rw [e2, Int.zero_add]
      exact this
theorem lbest_spec (K : Frag) : LBestS K m_law_best := fun a b c d e f => by
  unfold m_law_best
  exact lbest_t lkeeps_spec (best_spec K) is_spec a b c d e f
end K68

set_option maxHeartbeats 2000000
namespace K68
open PySem PySem.Spec PyProof.Rows L2 DL
local macro_rules | `(tactic| walk_at "w") => `(tactic| with_reducible conv => whnf)
def rowsD (rs : List Row) : D := .lst (rs.map rowD)
def StartS (f : M) : Prop := ∀ {ns : List Int} {O : OM} {Φ : D → OM → Prop}, (∀ p O', Dr p O' → Φ (.ref p) O') → f [.scr (ns.map D.int)] O Φ
def RuleS (f : M) : Prop := ∀ {p : Addr} {O : OM} {Φ : D → OM → Prop}, Dr p O → (∀ rs O', Vr rs → Dr p O' → Exc p O O' → Φ (rowsD rs) O') → f [.ref p, .int 10] O Φ
def SizeS (f : M) : Prop := ∀ {p : Addr} {O : OM} {Φ : D → OM → Prop}, Dr p O → (∀ r O', 1 ≤ r → r ≤ 1000 → Dr p O' → Exc p O O' → Φ (.int r) O') → f [.ref p] O Φ
def LAgesS (f : M) : Prop := ∀ {rs : List Row} {O : OM} {Φ : D → OM → Prop}, Vr rs → (∀ O', Ext O O' → Φ (tabD (agesT rs)) O') → f [rowsD rs] O Φ
def LMostS (f : M) : Prop := ∀ {rs : List Row} {w c : Int} {O : OM} {Φ : D → OM → Prop}, Vr rs → 0 ≤ c → c ≤ 1000 → (∀ O', Ext O O' → Φ (.int (mostR rs w c)) O') → f [rowsD rs, .int w, .int c] O Φ
def WantS (f : M) : Prop := ∀ {p : Addr} {tabs : List (List (List Int))} {many : Int} {O : OM} {Φ : D → OM → Prop}, Dr p O → 0 ≤ many → many ≤ 8 → 1 ≤ tabs.length → tabs.length ≤ 8 →
    (∀ tab ∈ tabs, (1 ≤ tab.length ∧ ∀ as ∈ tab, as.length ≤ 100000)) → (∀ (ws : List Row) O', ws.length ≤ 8 → Φ (.lst (ws.map rowD)) O') → f [.ref p, .lst (tabs.map tabD), .int many] O Φ
def InitS (K : Frag) (f : Frag → M) : Prop := ∀ {rs : List Row} {x : Addr} {O : OM} {Φ : D → OM → Prop}, Vr rs → O x = some (.ins (DH.ga K "Rule") []) →
    (∀ O', O' x = some (.ins (DH.ga K "Rule") [("rows", .tup (rs.map rowD))]) → Exc x O O' → Φ .non O') → f K [.ref x, rowsD rs] O Φ
theorem startS : StartS m_law_start := fun h => start_spec fun p L hp hs => h p _ ⟨L, updO_same, hs⟩
theorem ruleS : RuleS m_law_rule := fun hd h => rule_spec hd h
theorem sizeS : SizeS m_law_size := fun hd h => size_spec hd h
theorem lagesS : LAgesS m_law_ages := fun a b => by
  unfold m_law_ages
  exact ages_t stands_spec a b
theorem lmostS : LMostS m_law_most := fun a b c d => by
  unfold m_law_most
  exact most_t stands_spec a b c d
theorem wantS : WantS m_law_wants := fun a b c d e f g => by
  unfold m_law_wants
  exact wants_t (nx := m_law_next) next_dr needed_spec a b c d e f fun ws O' h1 _ _ => g ws O' h1
theorem initS (K : Frag) : InitS K m_Rule_init := fun a b c => by
  unfold m_Rule_init
  exact init_t (mfollow_spec K) a b c
theorem if88 {b : Bool} {E : EndsD} {x0 x1 : Option D} {n0 m0 : Int} {r : EnvD} {O : OM} (hn : 1 ≤ n0 ∧ n0 ≤ 8) (hm : 0 ≤ m0 ∧ m0 ≤ 8) (h : ∀ n m : Int, 1 ≤ n → n ≤ 8 → 0 ≤ m → m ≤ 8 → E.nx (x0 :: x1 :: some (.int n) :: some (.int m) :: r) O) :
    if b = true then sSeq (sAsg (eC (.int 8)) (dName 2)) (sAsg (eC (.int 8)) (dName 3)) E (x0 :: x1 :: some (.int n0) :: some (.int m0) :: r) O else sNil E (x0 :: x1 :: some (.int n0) :: some (.int m0) :: r) O := by
  refine b_ite (fun _ => ?_) (fun _ => ?_)
  · exact h 8 8 (by decide) (by decide) (by decide) (by decide)
  · exact h _ _ hn.1 hn.2 hm.1 hm.2
theorem ifCopy {nx : M} (hnx : NextS nx) {b : Bool} {E : EndsD} {p q : Addr} {x0 x3 : Option D} {n : Int} {r : EnvD} {O : OM} {rss : List (List Row)} (hd : Dr p O) (nq : p ≠ q) (hO : O q = some (.lst (rss.map rowsD))) (hn : 1 ≤ n) (hn8 : n ≤ 8) (hl : (rss.length : Int) = n) (hv : ∀ rs ∈ rss, Vr rs)
    (h : ∀ (rss : List (List Row)) O', Dr p O' → O' q = some (.lst (rss.map rowsD)) → (rss.length : Int) = n → (∀ rs ∈ rss, Vr rs) → E.nx (x0 :: some (.ref p) :: some (.int n) :: x3 :: some (.ref q) :: r) O') :
    if b = true then sAsg (eCB mList [(eOp mIx (eVar 4) (eCall nx [(eVar 1), (eVar 2)]))]) (dSub mSet (eVar 4) (eCall nx [(eVar 1), (eVar 2)])) E (x0 :: some (.ref p) :: some (.int n) :: x3 :: some (.ref q) :: r) O else sNil E (x0 :: some (.ref p) :: some (.int n) :: x3 :: some (.ref q) :: r) O := by
  refine b_ite (fun _ => ?_) (fun _ => ?_)
  · walk_at "w"
    refine hnx hd (by omega) (by omega) fun i O1 i0 i1 d1 x1 => ?_
    have hO1 := x1 q _ (Ne.symm nq) hO
    have li : i.toNat < rss.length := by omega
    walk_at "w"
    refine ix_o hO1 (z := rowsD rss[i.toNat]) (atI_nat i0 (by rw [List.getElem?_map, List.getElem?_eq_getElem li]; rfl)) ?_
    walk_at "w"
    refine ⟨_, _, rfl, rfl, ?_⟩
    walk_at "w"
    refine hnx d1 (by omega) (by omega) fun j O2 j0 j1 d2 x2 => ?_
    have hO2 := x2 q _ (Ne.symm nq) hO1
    refine set_o hO2 (ixN_nat j0 (by rw [List.length_map]; omega)) ?_
    walk_at "w"
    refine h (rss.set j.toNat rss[i.toNat]) _ (d2.keep nq) ?_ (by rw [List.length_set]; exact hl) ?_
    · rw [updO_same, List.map_set]; rfl
    · intro rs hrs
      rcases List.mem_or_eq_of_mem_set hrs with z | z
      · exact hv rs z
      · rw [z]; exact hv _ (List.getElem_mem li)
  · exact h rss O hd hO hl hv
theorem cut_rows (ws : List Row) (lo hi : Option Int) : ∃ ws' : List Row, DL.cutD (ws.map rowD) lo hi = ws'.map rowD ∧ ws'.length ≤ ws.length := by
  unfold DL.cutD
  rw [← List.map_drop, ← List.map_take]
  exact ⟨_, rfl, by rw [List.length_take, List.length_drop]; omega⟩
theorem Dr.ext {p : Addr} {O O' : OM} (h : Dr p O) (x : Ext O O') : Dr p O' := by
  obtain ⟨L, e, s⟩ := h
  exact ⟨L, x _ _ e, s⟩
end K68

set_option maxHeartbeats 4000000
namespace K68
open PySem PySem.Spec PyProof.Rows L2 DL
local macro_rules | `(tactic| walk_at "w") => `(tactic| with_reducible conv => whnf)
theorem law_t {K : Frag} {st nx ru sz la lm wa : M} {ini : Frag → M} {lk : M} {ke lb be : Frag → M} (hst : StartS st) (hnx : NextS nx) (hru : RuleS ru) (hsz : SizeS sz) (hla : LAgesS la) (hlm : LMostS lm) (hwa : WantS wa) (hini : InitS K ini) (hlk : LKeepS lk) (hke : KeepS K ke) (hlb : LBestS K lb) (hbe : BestS K be)
    {ns : List Int} {O : OM} {Φ : D → OM → Prop} (h : ∀ O', Φ (.bl true) O') : bodyM 18 (t_law K st nx ru sz la lm wa ini lk ke lb be) [.scr (ns.map D.int)] O Φ := by
  walk_at "w"
  refine hst fun p O1 d1 => ?_
  walk_at "w"
  refine hnx d1 (by decide) (by decide) fun n0 O2 n00 n01 d2 x2 => ?_
  walk_at "w"
  refine hnx d2 (by decide) (by decide) fun m0 O3 m00 m01 d3 x3 => ?_
  walk_at "w"
  refine hnx d3 (by decide) (by decide) fun z0 O4 z00 z01 d4 x4 => ?_
  walk_at "w"
  refine if88 (n0 := 1 + n0) (m0 := m0) ⟨by omega, by omega⟩ ⟨by omega, by omega⟩ fun n m n1 n8 mm0 mm8 => ?_
  walk_at "w"
  refine ⟨⟨by omega, by omega⟩, ?_⟩
  refine lc_ind (fun xs acc O' => ∃ rss : List (List Row), acc = rss.map rowsD ∧ (∀ rs ∈ rss, Vr rs) ∧ Dr p O' ∧ rss.length + xs.length = n.toNat) ?_ ?_ _ _ _ ?_
  rotate_left
  · rintro x r acc O' ⟨rss, rfl, hv, hd, hl⟩ k
    walk_at "w"
    refine hru hd fun rs O5 v5 d5 x5 => ?_
    refine ⟨by rw [List.length_map]; omega, k _ _ ⟨rss ++ [rs], by rw [List.map_append]; rfl, ?_, d5, by simp at hl ⊢; omega⟩⟩
    intro y hy
    rcases List.mem_append.mp hy with hy | hy
    · exact hv y hy
    · rw [List.mem_singleton] at hy; rw [hy]; exact v5
  · exact ⟨[], rfl, fun _ z => (by cases z), d4, by rw [rangeD_len]; simp⟩
  rintro acc O5 ⟨rss, rfl, hv, d5, hl⟩
  intro q hq
  have nq : p ≠ q := d5.ne hq
  have d6 := d5.keep (c := .lst (rss.map rowsD)) nq
  walk_at "w"
  refine hnx d6 (by decide) (by decide) fun z1 O6 z10 z11 d7 x7 => ?_
  have hO6 := x7 q _ (Ne.symm nq) updO_same
  walk_at "w"
  refine ifCopy hnx d7 nq hO6 n1 n8 (by simp at hl; omega) hv fun rss O7 d8 hO7 hl hv => ?_
  walk_at "w"
  refine ⟨_, hO7, ?_⟩
  walk_at "w"
  refine hsz (d8.del nq) fun w O8 w0 w1 d9 x9 => ?_
  walk_at "w"
  refine hsz d9 fun c O9 c0 c1 d10 x10 => ?_
  walk_at "w"
  refine lc_all rowsD (fun rs => tabD (agesT rs)) rss ?_ (by omega) ?_
  · intro rs hrs O0 S hS
    walk_at "w"
    exact hla (hv rs hrs) fun O' x => hS O' x
  intro O10 x11
  walk_at "w"
  refine lc_all rowsD (fun rs => .int (mostR rs w c)) rss ?_ (by omega) ?_
  · intro rs hrs O0 S hS
    walk_at "w"
    exact hlm (hv rs hrs) (by omega) c1 fun O' x => hS O' x
  intro O11 x12
  have d11 := (d10.ext x11).ext x12
  walk_at "w"
  have wa := @hwa p (rss.map agesT) m O11
  rw [List.map_map] at wa
  refine wa d11 mm0 mm8 (by rw [List.length_map]; omega) (by rw [List.length_map]; omega) (fun tab ht => ?_) fun ws O12 hw => ?_
  · obtain ⟨rs, hrs, rfl⟩ := List.mem_map.mp ht
    exact agesT_ok (hv rs hrs)
  walk_at "w"
  refine lc_all rowsD (fun rs => ruleD K rs) rss ?_ (by omega) ?_
  · intro rs hrs O0 S hS
    walk_at "w"
    refine ⟨_, _, rfl, rfl, ?_⟩
    walk_at "w"
    intro x hx
    refine hini (hv rs hrs) updO_same fun O' e1 e2 => ⟨rfl, _, e1, ?_⟩
    refine hS _ fun q c hq => ?_
    have nq : q ≠ x := fun e => by rw [e, hx] at hq; cases hq
    rw [delO_ne nq]
    exact e2 q c nq (by rw [updO_ne nq]; exact hq)
  intro O13 _
  walk_at "w"
  refine ⟨⟨by omega, by omega⟩, ?_⟩
  refine loop_on (fun i : Nat => D.int (0 + (i : Int))) (fun l r ds O' => ∃ x11 x13 x14 x15 x16, ds = [some (.scr (ns.map D.int)), some (.ref p), some (.int n), some (.int m), some (.lst (rss.map rowsD)), some (.int w), some (.int c), some (.lst (rss.map fun rs => tabD (agesT rs))), some (.lst (rss.map fun rs => .int (mostR rs w c))), some (.lst (ws.map rowD)), some (.lst (rss.map fun rs => ruleD K rs)), x11, none, x13, x14, x15, x16, none]) (List.range n.toNat) ?_ ?_ ?_
  · rintro ds O' ⟨x11, x13, x14, x15, x16, rfl⟩
    walk_at "w"
    refine ⟨_, _, rfl, rfl, by rw [List.length_map]; simp; omega, ?_⟩
    walk_at "w"
    rw [show ws.map rowD ++ [D.tup [D.int 999999, D.int 0]] = (ws ++ [(999999, 0)]).map rowD by rw [List.map_append]; rfl]
    refine loop_on (fun ws : List Row => D.lst (ws.map rowD)) (fun l r ds O' => ∃ x11 x12 x13 x14 x15 x16, ds = [some (.scr (ns.map D.int)), some (.ref p), some (.int n), some (.int m), some (.lst (rss.map rowsD)), some (.int w), some (.int c), some (.lst (rss.map fun rs => tabD (agesT rs))), some (.lst (rss.map fun rs => .int (mostR rs w c))), some (.lst (ws.map rowD)), some (.lst (rss.map fun rs => ruleD K rs)), x11, x12, x13, x14, x15, x16, none]) [ws, [], ws ++ [(999999, 0)]] ?_ ?_ ?_
    rotate_left
    · rintro l as rest ds O' hs ⟨x11, x12, x13, x14, x15, x16, rfl⟩ k
      have has : as.length ≤ 9 := by
        have : as ∈ [ws, [], ws ++ [(999999, 0)]] := by rw [← hs]; simp
        simp at this
        rcases this with rfl | rfl | rfl
        · omega
        · simp
        · simp; omega
      walk_at "w"
      obtain ⟨as', e1, e2⟩ := cut_rows as (some (-8)) none
      rw [e1]
      refine hlb hv (by omega) (by omega) (by omega) c1 fun O'' _ => ?_
      walk_at "w"
      refine nb_ite (fun e => by cases e) (fun _ => ?_)
      exact k _ _ ⟨_, _, _, _, _, _, rfl⟩
    · exact ⟨_, _, _, _, _, _, rfl⟩
    rintro ds O' ⟨x11, x12, x13, x14, x15, x16, rfl⟩
    walk_at "w"
    rw [← List.map_reverse, ← List.map_reverse, ← List.map_reverse]
    refine hlb (rss := rss.reverse) (fun rs hrs => hv rs (List.mem_reverse.mp hrs)) (by rw [List.length_reverse]; omega) (by omega) (by omega) c1 fun O'' _ => ?_
    walk_at "w"
    refine nb_ite (fun e => by cases e) (fun _ => ?_)
    walk_at "w"
    refine ⟨_, _, rfl, rfl, ?_⟩
    walk_at "w"
    refine hbe (rss := []) (fun _ z => (by cases z)) (by omega) (by omega) c1 fun O3 _ => ?_
    walk_at "w"
    exact h _
  · rintro l i rest ds O' hs ⟨x11, x13, x14, x15, x16, rfl⟩ k
    have li : i < rss.length := by
      have : i ∈ List.range n.toNat := by rw [← hs]; simp
      rw [List.mem_range] at this
      omega
    have vi := hv _ (List.getElem_mem li)
    walk_at "w"
    refine ⟨_, _, rfl, rfl, by rw [List.length_map]; simp; omega, ?_⟩
    walk_at "w"
    rw [show ws.map rowD ++ [D.tup [D.int 0, D.int 0], D.tup [D.int 0, D.int 999999], D.tup [D.int 999999, D.int 999999]] = (ws ++ [(0, 0), (0, 999999), (999999, 999999)]).map rowD by rw [List.map_append]; rfl]
    refine loop_on rowD (fun l r ds O' => ∃ x13 x14 x15 x16, ds = [some (.scr (ns.map D.int)), some (.ref p), some (.int n), some (.int m), some (.lst (rss.map rowsD)), some (.int w), some (.int c), some (.lst (rss.map fun rs => tabD (agesT rs))), some (.lst (rss.map fun rs => .int (mostR rs w c))), some (.lst (ws.map rowD)), some (.lst (rss.map fun rs => ruleD K rs)), some (.int (0 + (i : Int))), none, x13, x14, x15, x16, none]) (ws ++ [(0, 0), (0, 999999), (999999, 999999)]) ?_ ?_ ?_
    · rintro ds O' ⟨x13, x14, x15, x16, rfl⟩
      exact k _ _ ⟨_, _, _, _, _, rfl⟩
    · rintro l x rest ds O' hs ⟨x13, x14, x15, x16, rfl⟩ k2
      walk_at "w"
      refine ⟨rfl, ?_⟩
      walk_at "w"
      refine ix_l (z := tabD (agesT rss[i])) (atI_nat (by omega) (by rw [show (0 + (i : Int)).toNat = i by omega, List.getElem?_map, List.getElem?_eq_getElem li]; rfl)) ?_
      walk_at "w"
      refine hlk (agesT_ok vi).2 fun O1 _ => ?_
      walk_at "w"
      refine ix_l (z := ruleD K rss[i]) (atI_nat (by omega) (by rw [show (0 + (i : Int)).toNat = i by omega, List.getElem?_map, List.getElem?_eq_getElem li]; rfl)) ?_
      walk_at "w"
      refine hke vi fun O2 _ => ?_
      cases e : keepB (agesT rss[i]) x.1 x.2 with
      | true =>
        walk_at "w"
        refine t_ite ?_
        walk_at "w"
        refine f_ite ?_
        walk_at "w"
        refine f_ite ?_
        walk_at "w"
        refine f_ite ?_
        exact k2 _ _ ⟨_, _, _, _, rfl⟩
      | false =>
        walk_at "w"
        refine f_ite ?_
        walk_at "w"
        refine f_ite ?_
        walk_at "w"
        refine t_ite ?_
        walk_at "w"
        refine f_ite ?_
        exact k2 _ _ ⟨_, _, _, _, rfl⟩
    · exact ⟨_, _, _, _, rfl⟩
  · exact ⟨_, _, _, _, _, rfl⟩
end K68

set_option maxHeartbeats 4000000
namespace K68
open PySem PySem.Spec PyProof.Rows L2 DL
theorem law_true {K : Frag} {ns : List Int} {O : OM} {Φ : D → OM → Prop} (h : ∀ O', Φ (.bl true) O') : m_law K [.scr (ns.map D.int)] O Φ := by
  unfold m_law
  exact law_t startS (nx := m_law_next) next_dr ruleS sizeS lagesS lmostS wantS (initS K) lkeeps_spec (keeps_spec K) (lbest_spec K) (best_spec K) h
theorem rep_ints {K : Frag} {F : Hp} : ∀ ns : List Int, RepL K F (ns.map V.int) (ns.map D.int)
  | [] => .nil
  | n :: ns => .cons (.int n) (rep_ints ns)
def spLaw (K : Frag) : Sp := fun vs H Q _ => ∃ (a : Addr) (ns : List Int), vs = [.ref a] ∧ SqL K H a (ns.map V.int) ∧ ∀ H', Q (.bl true) H'
theorem sp_of {K : Frag} {vs : List V} {H : Hp} {Q : VK} {E : XK} (h : spLaw K vs H Q E) : spD K 1 (m_law K) vs H Q E := by
  obtain ⟨a, ns, rfl, hS, hQ⟩ := h
  refine ⟨H, fun _ => none, [.scr (ns.map D.int)], fun d _ => d = .bl true, ⟨Sm.refl H, fun p c z => by cases z⟩, .cons (.scr hS (rep_ints ns)) .nil, rfl, law_true fun _ => rfl, ?_⟩
  intro v F' H' O' d s w r e
  subst e
  cases r
  exact hQ H'
theorem facts {P : Program} {w : World} {K : Frag} {h : Heap} {mg : Str → Option Value} {f : Addr} (X : K.In h) (G : h.Ns mainGlobals mg) (hfa : mg ("law" : Str) = some (.ref f)) (c : DH.Says fa fn K) :
    ∃ fd : FuncData, (∀ (s : Shared) (v : Value), BindsTo s fd ⟨[v], []⟩ [("script", v)]) ∧ ∀ base : Heap, K.In base → base.Ns mainGlobals mg → FnOk P w K mg base CX0 8 f fd ["script"] (spLaw K) := by
  obtain ⟨fd, h1, _, _, h4⟩ := all_ok (P := P) (w := w) X G c
  have e : mg ("law" : Str) = some (.ref (DH.ga K "law")) := He.glo_ok X G (c.fact lawFact)
  have e := hfa.symm.trans e
  cases e
  exact ⟨fd, fun s v => h4 s [v] rfl, fun base _ _ => (h1 base).imp fun vs H Q E q => sp_of q⟩
end K68
open PySem PySem.W PySem.Calls PyProof.Rows
theorem PySem.Challenge.cw_whatcomesfree_k68_rules_that_keep_holds : PySem.Challenge.rw_whatcomesfree_k68_rules_that_keep.Holds := by
  w_on; o_law
  refine HandSHeadRun.head_any (r := K68.R) (q := view K68.R.prog [25]) (H := K68.hk) (ob := K68.ob) (M := 3000) (loose := K68.loose) (d := HandSHeadRun.topDef K68.R.prog 25) (kwd := []) K68.ob_eq
    (by kernel_rfl) (fun s => by kernel_rfl) K68.run (by kernel_rfl) (by kernel_rfl) (by kernel_rfl) (by rfl) (by first | assumption | decide +kernel) (by decide +kernel) ⟨rfl, rfl, rfl, rfl, rfl, by decide +kernel⟩ ?hw ?hc
  case hw => w_witness2
  case hc =>
    refine L2.walk_ofE (l := PySem.Challenge.rw_whatcomesfree_k68_rules_that_keep) (n := 63) (k := 8) (x := "script") (CX := L2.CX0) rfl (by decide) (by kernel_rfl) ⟨rfl, by decide, by decide⟩ ?F (fun _ _ _ _ z => z)
    intro w mg fa h Y G hmg0
    obtain ⟨K, KX, c⟩ := Y
    have hmg : mg ("law" : PySem.Str) = some (.ref fa) := by
      have e : (HandSHeadRun.topDef K68.R.prog 25).name = ("law" : PySem.Str) := by kernel_rfl
      rw [← e]
      exact hmg0
    obtain ⟨fd, hb, hF⟩ := K68.facts (P := K68.R.prog) (w := w) KX G hmg c
    exact ⟨K, fd, K68.spLaw K, KX, hb, fun H a ns hl _ hS => ⟨a, ns, rfl, hS, fun _ => rfl⟩, hF⟩

