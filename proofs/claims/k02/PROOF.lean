import PyProof.Rows.All
import Wide.All
import OpenK.AllK
import Wide.FinOn
import HandS.Base
import HandS.Call
import HandS.List
import HandS.Comp
import HandS.Dict
import HandS.Iter
import HandS.Exc
import HandS.Words
import HandS.ExcOwn
import HandS.WordsExc
import HandS.Ends
import HandS.TupAny
import HandS.Text
import HandS.Zip
import HandS.IsInst
import HandS.SetKeys
import HandS.More
import KE.KDictZip
import KE.GoesZip
import KE.GoesMore
import KE.GoesEnum
import HandS.ListItems
import HandS.Style
import HandS.NoneIn
import HandS.CallLocal
import PySem.Challenge.RW_kindsmith_k02_parts
set_option Elab.async false
set_option linter.all false
set_option maxRecDepth 100000
set_option maxHeartbeats 4000000
/-! the by-value layer over the hand layer: data, what is owned, the state -/
namespace BV
open PySem L2

/-- data that is never changed any more -/
inductive D where
  | non | bl (b : Bool) | int (i : Int) | str (x : Str)
  | tup (xs : List D) | lst (xs : List D) | fl (xs : List D)
  | dct (ks : List Key) (vs : List D)
  | ins (C : Addr) (fs : List Str) (vs : List D)
  | xd (fs : List Str) (vs : List D)
  | fn (a : Addr) | ty (n : String)

mutual
inductive RpD (K : PySem.W.Frag) (F : Hp) : V → D → Prop
  | non : RpD K F .non .non
  | bl (b : Bool) : RpD K F (.bl b) (.bl b)
  | int (i : Int) : RpD K F (.int i) (.int i)
  | str (x : Str) : RpD K F (.str x) (.str x)
  | tup {a : Addr} {xs : List V} {ds : List D} : SqT K F a xs → RpA K F xs ds → RpD K F (.ref a) (.tup ds)
  | lst {a : Addr} {xs : List V} {ds : List D} : F a = some (.lst xs) → RpA K F xs ds → RpD K F (.ref a) (.lst ds)
  | fl {a : Addr} {xs : List V} {ds : List D} : SqL K F a xs → RpA K F xs ds → RpD K F (.ref a) (.fl ds)
  | dct {a : Addr} {kvs : List (Key × V)} {ds : List D} : F a = some (.dK kvs) → RpA K F (kvs.map (·.2)) ds → RpD K F (.ref a) (.dct (kvs.map (·.1)) ds)
  | ins {a C dx : Addr} {fs : List (Str × V)} {ds : List D} : F a = some (.ins C dx fs) → RpA K F (fs.map (·.2)) ds → RpD K F (.ref a) (.ins C (fs.map (·.1)) ds)
  | xd {a : Addr} {fs : List (Str × V)} {ds : List D} : F a = some (.xd fs) → RpA K F (fs.map (·.2)) ds → RpD K F (.ref a) (.xd (fs.map (·.1)) ds)
  | fn (a : Addr) : RpD K F (.ref a) (.fn a)
  | ty (n : String) : RpD K F (.ty n) (.ty n)
inductive RpA (K : PySem.W.Frag) (F : Hp) : List V → List D → Prop
  | nil : RpA K F [] []
  | cons {v : V} {vs : List V} {d : D} {ds : List D} : RpD K F v d → RpA K F vs ds → RpA K F (v :: vs) (d :: ds)
end

def Sub (F H : Hp) : Prop := ∀ a o, F a = some o → H a = some o
theorem Sub.refl (F : Hp) : Sub F F := fun _ _ h => h
theorem Sub.trans {F G H : Hp} (a : Sub F G) (b : Sub G H) : Sub F H := fun x o h => b x o (a x o h)
theorem Sub.new {H : Hp} {p : Addr} {o : HO} (h : H p = none) : Sub H (upd H p o) := fun b u q => by rw [upd_ne (ne_of_none q h)]; exact q
theorem Sub.nn {F H : Hp} (s : Sub F H) {p : Addr} (h : H p = none) : F p = none := by
  cases q : F p with
  | none => rfl
  | some o => rw [s p o q] at h; cases h
theorem Sub.upd2 {F H : Hp} (s : Sub F H) {p : Addr} {o : HO} : Sub (upd F p o) (upd H p o) := fun b u q => by
  by_cases e : b = p
  · subst e; rw [upd_same] at q ⊢; exact q
  · rw [upd_ne e] at q ⊢; exact s b u q
/-- a write outside of F -/
theorem Sub.out {F H : Hp} (s : Sub F H) {p : Addr} {o : HO} (h : F p = none) : Sub F (upd H p o) := fun b u q => by
  rw [upd_ne (ne_of_none q h)]; exact s b u q
theorem sqT_sub {K : PySem.W.Frag} {F H : Hp} {a : Addr} {xs : List V} (s : Sub F H) (h : SqT K F a xs) : SqT K H a xs := by
  rcases h with (h | ⟨o, h⟩) | h
  · exact .inl (.inl (s _ _ h))
  · exact .inl (.inr ⟨o, s _ _ h⟩)
  · exact .inr h
theorem sqL_sub {K : PySem.W.Frag} {F H : Hp} {a : Addr} {xs : List V} (s : Sub F H) (h : SqL K F a xs) : SqL K H a xs := by
  rcases h with (h | ⟨o, h⟩) | h
  · exact .inl (.inl (s _ _ h))
  · exact .inl (.inr ⟨o, s _ _ h⟩)
  · exact .inr h
mutual
theorem RpD.mono {K : PySem.W.Frag} {F H : Hp} (s : Sub F H) : ∀ {v : V} {d : D}, RpD K F v d → RpD K H v d
  | _, _, .non => .non
  | _, _, .bl b => .bl b
  | _, _, .int i => .int i
  | _, _, .str x => .str x
  | _, _, .tup h r => .tup (sqT_sub s h) (RpA.mono s r)
  | _, _, .lst h r => .lst (s _ _ h) (RpA.mono s r)
  | _, _, .fl h r => .fl (sqL_sub s h) (RpA.mono s r)
  | _, _, .dct h r => .dct (s _ _ h) (RpA.mono s r)
  | _, _, .ins h r => .ins (s _ _ h) (RpA.mono s r)
  | _, _, .xd h r => .xd (s _ _ h) (RpA.mono s r)
  | _, _, .fn a => .fn a
  | _, _, .ty n => .ty n
theorem RpA.mono {K : PySem.W.Frag} {F H : Hp} (s : Sub F H) : ∀ {vs : List V} {ds : List D}, RpA K F vs ds → RpA K H vs ds
  | _, _, .nil => .nil
  | _, _, .cons h r => .cons (RpD.mono s h) (RpA.mono s r)
end
section
variable {K : PySem.W.Frag} {F H : Hp}
theorem RpA.length : ∀ {vs : List V} {ds : List D}, RpA K F vs ds → vs.length = ds.length
  | _, _, .nil => rfl
  | _, _, .cons _ r => by simp [RpA.length r]
theorem RpA.get : ∀ {vs : List V} {ds : List D} {i : Nat} {d : D}, RpA K F vs ds → ds[i]? = some d → ∃ v, vs[i]? = some v ∧ RpD K F v d
  | _, _, _, _, .nil, e => by simp at e
  | _, _, 0, _, .cons h _, e => by simp at e; subst e; exact ⟨_, rfl, h⟩
  | _, _, i + 1, d, .cons _ r, e => by
    obtain ⟨v, h1, h2⟩ := RpA.get (i := i) (d := d) r (by simpa using e)
    exact ⟨v, by simpa using h1, h2⟩
theorem RpA.append : ∀ {vs ws : List V} {ds es : List D}, RpA K F vs ds → RpA K F ws es → RpA K F (vs ++ ws) (ds ++ es)
  | _, _, _, _, .nil, s => s
  | _, _, _, _, .cons h r, s => .cons h (RpA.append r s)
theorem RpA.take : ∀ {vs : List V} {ds : List D} (n : Nat), RpA K F vs ds → RpA K F (vs.take n) (ds.take n)
  | _, _, 0, _ => .nil
  | _, _, _ + 1, .nil => .nil
  | _, _, n + 1, .cons h r => .cons h (RpA.take n r)
theorem RpA.drop : ∀ {vs : List V} {ds : List D} (n : Nat), RpA K F vs ds → RpA K F (vs.drop n) (ds.drop n)
  | _, _, 0, r => r
  | _, _, _ + 1, .nil => .nil
  | _, _, n + 1, .cons _ r => RpA.drop n r
theorem RpA.reverse : ∀ {vs : List V} {ds : List D}, RpA K F vs ds → RpA K F vs.reverse ds.reverse
  | _, _, .nil => .nil
  | _, _, .cons h r => by
    rw [List.reverse_cons, List.reverse_cons]
    exact RpA.append (RpA.reverse r) (.cons h .nil)
theorem RpA.set {v : V} {d : D} (q : RpD K F v d) : ∀ {vs : List V} {ds : List D} (i : Nat), RpA K F vs ds → RpA K F (vs.set i v) (ds.set i d)
  | _, _, _, .nil => .nil
  | _, _, 0, .cons _ r => .cons q r
  | _, _, i + 1, .cons h r => .cons h (RpA.set q i r)
theorem RpA.dropLast : ∀ {vs : List V} {ds : List D}, RpA K F vs ds → RpA K F vs.dropLast ds.dropLast := fun {vs ds} r => by
  rw [List.dropLast_eq_take, List.dropLast_eq_take, r.length]
  exact r.take _
theorem RpA.ints : ∀ {ns : List Int}, RpA K F (ns.map V.int) (ns.map D.int)
  | [] => .nil
  | n :: r => .cons (.int n) (RpA.ints (ns := r))
theorem RpA.strs : ∀ {ns : List Str}, RpA K F (ns.map V.str) (ns.map D.str)
  | [] => .nil
  | n :: r => .cons (.str n) (RpA.strs (ns := r))
theorem RpA.of_ints : ∀ {ns : List Int} {vs : List V}, RpA K F vs (ns.map D.int) → vs = ns.map V.int
  | [], _, h => by cases h; rfl
  | n :: r, _, h => by
    cases h with
    | cons h1 h2 => cases h1; rw [RpA.of_ints h2]; rfl
theorem RpA.of_bls : ∀ {ns : List Bool} {vs : List V}, RpA K F vs (ns.map D.bl) → vs = ns.map V.bl
  | [], _, h => by cases h; rfl
  | n :: r, _, h => by
    cases h with
    | cons h1 h2 => cases h1; rw [RpA.of_bls h2]; rfl
theorem RpA.of_strs : ∀ {ns : List Str} {vs : List V}, RpA K F vs (ns.map D.str) → vs = ns.map V.str
  | [], _, h => by cases h; rfl
  | n :: r, _, h => by
    cases h with
    | cons h1 h2 => cases h1; rw [RpA.of_strs h2]; rfl
end

/-- what a slot holds: data; a list, a dict, an instance of its own; a hole -/
inductive M where
  | p (d : D)
  | l (xs : List D)
  | k (ks : List Key) (vs : List D)
  | o (C : Addr) (fs : List Str) (ms : List M)
  | h (v : V)
  | z (o : Obj) (kvs : List (Key × V)) (vs : List D)
/-- what it is once it is never changed any more -/
def M.fz : M → Option D
  | .p d => some d
  | .l xs => some (.lst xs)
  | .k ks vs => some (.dct ks vs)
  | _ => none

mutual
inductive RpM (K : PySem.W.Frag) (F H : Hp) : V → M → List Addr → Prop
  | p {v : V} {d : D} : RpD K F v d → RpM K F H v (.p d) []
  | l {a : Addr} {vs : List V} {ds : List D} : H a = some (.lst vs) → RpA K F vs ds → RpM K F H (.ref a) (.l ds) [a]
  | k {a : Addr} {kvs : List (Key × V)} {ds : List D} : H a = some (.dK kvs) → RpA K F (kvs.map (·.2)) ds → RpM K F H (.ref a) (.k (kvs.map (·.1)) ds) [a]
  | o {a C dx : Addr} {fs : List (Str × V)} {ms : List M} {A : List Addr} : H a = some (.ins C dx fs) → RpMs K F H (fs.map (·.2)) ms A → RpM K F H (.ref a) (.o C (fs.map (·.1)) ms) (a :: A)
  | h (v : V) : RpM K F H v (.h v) []
  | z {a : Addr} {o : Obj} {kvs : List (Key × V)} {ds : List D} : H a = some (.frz o (.dK kvs)) → RpA K F (kvs.map (·.2)) ds → RpM K F H (.ref a) (.z o kvs ds) [a]
inductive RpMs (K : PySem.W.Frag) (F H : Hp) : List V → List M → List Addr → Prop
  | nil : RpMs K F H [] [] []
  | cons {v : V} {vs : List V} {m : M} {ms : List M} {A B : List Addr} : RpM K F H v m A → RpMs K F H vs ms B → RpMs K F H (v :: vs) (m :: ms) (A ++ B)
end
mutual
theorem RpM.mono {K : PySem.W.Frag} {F F' H H' : Hp} (s : Sub F F') : ∀ {v : V} {m : M} {A : List Addr}, RpM K F H v m A → (∀ a ∈ A, H' a = H a) → RpM K F' H' v m A
  | _, _, _, .p h, _ => .p (h.mono s)
  | _, _, _, .l h r, e => .l ((e _ (by simp)).trans h) (r.mono s)
  | _, _, _, .k h r, e => .k ((e _ (by simp)).trans h) (r.mono s)
  | _, _, _, .o h r, e => .o ((e _ (by simp)).trans h) (RpMs.mono s r fun a ha => e a (List.mem_cons_of_mem _ ha))
  | _, _, _, .h v, _ => .h v
  | _, _, _, .z h r, e => .z ((e _ (by simp)).trans h) (r.mono s)
theorem RpMs.mono {K : PySem.W.Frag} {F F' H H' : Hp} (s : Sub F F') : ∀ {vs : List V} {ms : List M} {A : List Addr}, RpMs K F H vs ms A → (∀ a ∈ A, H' a = H a) → RpMs K F' H' vs ms A
  | _, _, _, .nil, _ => .nil
  | _, _, _, .cons h r, e => .cons (RpM.mono s h fun a ha => e a (List.mem_append_left _ ha)) (RpMs.mono s r fun a ha => e a (List.mem_append_right _ ha))
end
mutual
/-- what is owned stands in the heap -/
theorem RpM.there {K : PySem.W.Frag} {F H : Hp} : ∀ {v : V} {m : M} {A : List Addr}, RpM K F H v m A → ∀ a ∈ A, ∃ o, H a = some o
  | _, _, _, .p _, a, h => by simp at h
  | _, _, _, .l e _, a, h => by simp at h; subst h; exact ⟨_, e⟩
  | _, _, _, .k e _, a, h => by simp at h; subst h; exact ⟨_, e⟩
  | _, _, _, .o e r, a, h => by
    rcases List.mem_cons.mp h with h | h
    · subst h; exact ⟨_, e⟩
    · exact RpMs.there r a h
  | _, _, _, .h _, a, h => by simp at h
  | _, _, _, .z e _, a, h => by simp at h; subst h; exact ⟨_, e⟩
theorem RpMs.there {K : PySem.W.Frag} {F H : Hp} : ∀ {vs : List V} {ms : List M} {A : List Addr}, RpMs K F H vs ms A → ∀ a ∈ A, ∃ o, H a = some o
  | _, _, _, .nil, a, h => by simp at h
  | _, _, _, .cons q r, a, h => (List.mem_append.mp h).elim (RpM.there q a) (RpMs.there r a)
end

abbrev Ent := Option V × Option M
inductive RpE (K : PySem.W.Frag) (F H : Hp) : List Ent → List Addr → Prop
  | nil : RpE K F H [] []
  | no {x : Option V} {L : List Ent} {B : List Addr} : RpE K F H L B → RpE K F H ((x, none) :: L) B
  | so {v : V} {m : M} {L : List Ent} {A B : List Addr} : RpM K F H v m A → RpE K F H L B → RpE K F H ((some v, some m) :: L) (A ++ B)
theorem RpE.mono {K : PySem.W.Frag} {F F' H H' : Hp} (s : Sub F F') : ∀ {L : List Ent} {A : List Addr}, RpE K F H L A → (∀ a ∈ A, H' a = H a) → RpE K F' H' L A
  | _, _, .nil, _ => .nil
  | _, _, .no r, e => .no (RpE.mono s r e)
  | _, _, .so h r, e => .so (h.mono s fun a ha => e a (List.mem_append_left _ ha)) (RpE.mono s r fun a ha => e a (List.mem_append_right _ ha))
theorem RpE.there {K : PySem.W.Frag} {F H : Hp} : ∀ {L : List Ent} {A : List Addr}, RpE K F H L A → ∀ a ∈ A, ∃ o, H a = some o
  | _, _, .nil, a, h => by simp at h
  | _, _, .no r, a, h => RpE.there r a h
  | _, _, .so q r, a, h => (List.mem_append.mp h).elim (q.there a) (RpE.there r a)
theorem RpE.perm {K : PySem.W.Frag} {F H : Hp} {L L' : List Ent} (p : L.Perm L') : ∀ {A : List Addr}, RpE K F H L A → ∃ A', RpE K F H L' A' ∧ A.Perm A' := by
  induction p with
  | nil => exact fun r => ⟨_, r, .refl _⟩
  | cons x _ ih =>
    intro A r
    cases r with
    | no r => obtain ⟨A', r', p'⟩ := ih r; exact ⟨_, .no r', p'⟩
    | so h r => obtain ⟨A', r', p'⟩ := ih r; exact ⟨_, .so h r', p'.append_left _⟩
  | swap x y l =>
    intro A r
    cases r with
    | no r =>
      cases r with
      | no r => exact ⟨_, .no (.no r), .refl _⟩
      | so h r => exact ⟨_, .so h (.no r), .refl _⟩
    | so h r =>
      cases r with
      | no r => exact ⟨_, .no (.so h r), .refl _⟩
      | @so _ _ _ A2 B h2 r =>
        refine ⟨_, .so h2 (.so h r), ?_⟩
        rw [← List.append_assoc, ← List.append_assoc]
        exact List.perm_append_comm.append_right _
  | trans _ _ ih1 ih2 =>
    intro A r
    obtain ⟨A1, r1, p1⟩ := ih1 r
    obtain ⟨A2, r2, p2⟩ := ih2 r1
    exact ⟨A2, r2, p1.trans p2⟩

/-- the state opened: F what stays, A what is owned -/
structure Op (K : PySem.W.Frag) (F H : Hp) (L : List Ent) (A : List Addr) : Prop where
  sub : Sub F H
  rp : RpE K F H L A
  nd : A.Nodup
  fr : ∀ a ∈ A, F a = none
def Ok (K : PySem.W.Frag) (H : Hp) (L : List Ent) : Prop := ∃ F A, Op K F H L A
section
variable {K : PySem.W.Frag} {F H : Hp} {L L' : List Ent} {A : List Addr}
theorem Op.perm (o : Op K F H L A) (p : L.Perm L') : ∃ A', Op K F H L' A' := by
  obtain ⟨A', r, q⟩ := o.rp.perm p
  exact ⟨A', o.sub, r, q.nodup_iff.mp o.nd, fun a ha => o.fr a (q.mem_iff.mpr ha)⟩
theorem Ok.perm (o : Ok K H L) (p : L.Perm L') : Ok K H L' := by
  obtain ⟨F, A, o⟩ := o
  obtain ⟨A', o⟩ := o.perm p
  exact ⟨F, A', o⟩
theorem Op.tail {e : Ent} (o : Op K F H (e :: L) A) : ∃ A', Op K F H L A' := by
  obtain ⟨s, r, n, f⟩ := o
  cases r with
  | no r => exact ⟨_, s, r, n, f⟩
  | so h r => exact ⟨_, s, r, (List.nodup_append.mp n).2.1, fun a ha => f a (List.mem_append_right _ ha)⟩
theorem Ok.tail {e : Ent} (o : Ok K H (e :: L)) : Ok K H L := by
  obtain ⟨F, A, o⟩ := o
  obtain ⟨A', o⟩ := o.tail
  exact ⟨F, A', o⟩
theorem Ok.dropAll : ∀ {T : List Ent}, Ok K H (T ++ L) → Ok K H L
  | [], o => o
  | _ :: T, o => Ok.dropAll (T := T) o.tail
theorem Op.pushP {v : V} {d : D} (o : Op K F H L A) (r : RpD K F v d) : Op K F H ((some v, some (.p d)) :: L) A := ⟨o.sub, .so (A := []) (.p r) o.rp, o.nd, o.fr⟩
theorem Op.pushN {x : Option V} (o : Op K F H L A) : Op K F H ((x, none) :: L) A := ⟨o.sub, .no o.rp, o.nd, o.fr⟩
/-- the head of the list -/
theorem Op.head {v : V} {m : M} (o : Op K F H ((some v, some m) :: L) A) : ∃ A1 A2, A = A1 ++ A2 ∧ RpM K F H v m A1 ∧ Op K F H L A2 ∧ (∀ a ∈ A1, a ∉ A2) := by
  obtain ⟨s, r, n, f⟩ := o
  cases r with
  | so h r =>
    obtain ⟨_, n2, n3⟩ := List.nodup_append.mp n
    exact ⟨_, _, rfl, h, ⟨s, r, n2, fun a ha => f a (List.mem_append_right _ ha)⟩, fun a h1 h2 => n3 a h1 a h2 rfl⟩
/-- a new object that H does not know, nothing else changed -/
theorem Op.ext {p : Addr} {u : HO} (o : Op K F H L A) (hp : H p = none) : Op K F (upd H p u) L A := by
  refine ⟨o.sub.trans (Sub.new hp), o.rp.mono (Sub.refl F) fun a ha => ?_, o.nd, o.fr⟩
  obtain ⟨x, hx⟩ := o.rp.there a ha
  exact upd_ne (ne_of_none hx hp)
/-- .. that stays -/
theorem Op.extF {p : Addr} {u : HO} (o : Op K F H L A) (hp : H p = none) : Op K (upd F p u) (upd H p u) L A := by
  refine ⟨o.sub.upd2, o.rp.mono (Sub.new (o.sub.nn hp)) fun a ha => ?_, o.nd, fun a ha => ?_⟩
  · obtain ⟨x, hx⟩ := o.rp.there a ha
    exact upd_ne (ne_of_none hx hp)
  · obtain ⟨x, hx⟩ := o.rp.there a ha
    rw [upd_ne (ne_of_none hx hp)]
    exact o.fr a ha
theorem Op.newT {p : Addr} {vs : List V} {ds : List D} (o : Op K F H L A) (r : RpA K F vs ds) (hp : H p = none) : Op K (upd F p (.tup vs)) (upd H p (.tup vs)) ((some (.ref p), some (.p (.tup ds))) :: L) A :=
  (o.extF hp).pushP (.tup (.inl (.inl upd_same)) (r.mono (Sub.new (o.sub.nn hp))))
theorem Op.newL {p : Addr} {vs : List V} {ds : List D} (o : Op K F H L A) (r : RpA K F vs ds) (hp : H p = none) : Op K F (upd H p (.lst vs)) ((some (.ref p), some (.l ds)) :: L) (p :: A) := by
  have e := o.ext (u := .lst vs) hp
  refine ⟨e.sub, .so (A := [p]) (.l upd_same r) e.rp, List.nodup_cons.mpr ⟨fun h => ?_, o.nd⟩, fun a ha => ?_⟩
  · obtain ⟨x, hx⟩ := o.rp.there p h
    rw [hp] at hx; cases hx
  · rcases List.mem_cons.mp ha with h | h
    · subst h; exact o.sub.nn hp
    · exact o.fr a h
theorem Op.newK {p : Addr} {kvs : List (Key × V)} {ds : List D} (o : Op K F H L A) (r : RpA K F (kvs.map (·.2)) ds) (hp : H p = none) : Op K F (upd H p (.dK kvs)) ((some (.ref p), some (.k (kvs.map (·.1)) ds)) :: L) (p :: A) := by
  have e := o.ext (u := .dK kvs) hp
  refine ⟨e.sub, .so (A := [p]) (.k upd_same r) e.rp, List.nodup_cons.mpr ⟨fun h => ?_, o.nd⟩, fun a ha => ?_⟩
  · obtain ⟨x, hx⟩ := o.rp.there p h
    rw [hp] at hx; cases hx
  · rcases List.mem_cons.mp ha with h | h
    · subst h; exact o.sub.nn hp
    · exact o.fr a h
/-- what is owned by the head is written -/
theorem Op.write {a : Addr} {u : HO} {m m' : M} {A1 A2 : List Addr} (s : Sub F H) (r2 : Op K F H L A2) (hd : ∀ x ∈ a :: A1, x ∉ A2) (n1 : (a :: A1).Nodup) (f1 : ∀ x ∈ a :: A1, F x = none)
    (r : RpM K F (upd H a u) (.ref a) m' (a :: A1)) : Op K F (upd H a u) ((some (.ref a), some m') :: L) (a :: A1 ++ A2) := by
  refine ⟨s.out (f1 a (by simp)), .so r (r2.rp.mono (Sub.refl F) fun b hb => upd_ne fun e => hd a (by simp) (by rw [← e]; exact hb)), ?_, fun x hx => ?_⟩
  · exact List.nodup_append.mpr ⟨n1, r2.nd, fun x hx y hy e => hd x hx (e ▸ hy)⟩
  · rcases List.mem_append.mp hx with h | h
    · exact f1 x h
    · exact r2.fr x h
/-- what is owned is kept as it is from now on -/
theorem Op.freeze {v : V} {m : M} {d : D} (o : Op K F H ((some v, some m) :: L) A) (hz : m.fz = some d) : ∃ F' A', Sub F F' ∧ Op K F' H ((some v, some (.p d)) :: L) A' := by
  obtain ⟨A1, A2, rfl, r, o2, dj⟩ := o.head
  have one : ∀ {a : Addr} {u : HO}, A1 = [a] → H a = some u → F a = none → Op K (upd F a u) H L A2 := fun {a u} e1 hu hF => by
    subst e1
    refine ⟨fun b x q => ?_, o2.rp.mono (Sub.new hF) fun _ _ => rfl, o2.nd, fun b hb => ?_⟩
    · by_cases e : b = a
      · subst e; rw [upd_same] at q; cases q; exact hu
      · rw [upd_ne e] at q; exact o2.sub b x q
    · rw [upd_ne fun e => dj a (by simp) (by rw [← e]; exact hb)]; exact o2.fr b hb
  cases r with
  | p h => cases hz; exact ⟨F, _, Sub.refl F, o⟩
  | l h r =>
    cases hz
    have hF := o.fr _ (List.mem_append_left _ (List.mem_singleton.mpr rfl))
    exact ⟨_, _, Sub.new hF, (one rfl h hF).pushP (.lst upd_same (r.mono (Sub.new hF)))⟩
  | k h r =>
    cases hz
    have hF := o.fr _ (List.mem_append_left _ (List.mem_singleton.mpr rfl))
    exact ⟨_, _, Sub.new hF, (one rfl h hF).pushP (.dct upd_same (r.mono (Sub.new hF)))⟩
  | o _ _ => cases hz
  | h _ => cases hz
  | z _ _ => cases hz
theorem Ok.freeze {v : V} {m : M} {d : D} (o : Ok K H ((some v, some m) :: L)) (hz : m.fz = some d) : Ok K H ((some v, some (.p d)) :: L) := by
  obtain ⟨F, A, o⟩ := o
  obtain ⟨F', A', _, o'⟩ := o.freeze hz
  exact ⟨F', A', o'⟩
theorem Ok.dup {v : V} {d : D} (o : Ok K H ((some v, some (.p d)) :: L)) : Ok K H ((some v, some (.p d)) :: (some v, some (.p d)) :: L) := by
  obtain ⟨F, A, o⟩ := o
  obtain ⟨A1, A2, _, r, _, _⟩ := o.head
  cases r with
  | p r => exact ⟨F, A, o.pushP r⟩
theorem Ok.head_some {x : Option V} {m : M} (o : Ok K H ((x, some m) :: L)) : ∃ v, x = some v := by
  obtain ⟨F, A, _, r, _, _⟩ := o
  cases r with
  | so _ _ => exact ⟨_, rfl⟩
theorem Ok.pushN {x : Option V} (o : Ok K H L) : Ok K H ((x, none) :: L) := by
  obtain ⟨F, A, o⟩ := o
  exact ⟨F, A, o.pushN⟩
end
end BV

namespace BV
open PySem L2

/-! ### slots -/
abbrev Env := List (Option M)
def OkS (K : PySem.W.Frag) (H : Hp) (σ : L2.St) (env : Env) (R : List Ent) : Prop := σ.length = env.length ∧ Ok K H (σ.zip env ++ R)
theorem perm_get {α : Type} : ∀ {l : List α} {i : Nat} {x : α}, l[i]? = some x → l.Perm (x :: l.eraseIdx i)
  | [], i, x, h => by simp at h
  | a :: r, 0, x, h => by simp at h; subst h; exact .refl _
  | a :: r, i + 1, x, h => by
    have q := perm_get (l := r) (i := i) (x := x) (by simpa using h)
    exact (q.cons a).trans (.swap x a _)
theorem perm_set {α : Type} {y : α} : ∀ {l : List α} {i : Nat}, i < l.length → (l.set i y).Perm (y :: l.eraseIdx i)
  | [], i, h => by simp at h
  | a :: r, 0, h => .refl _
  | a :: r, i + 1, h => by
    have q := perm_set (y := y) (l := r) (i := i) (by simpa using h)
    exact (q.cons a).trans (.swap y a _)
theorem zip_set {α β : Type} {x : α} {y : β} : ∀ {l : List α} {r : List β} {i : Nat}, (l.zip r).set i (x, y) = (l.set i x).zip (r.set i y)
  | [], _, i => by simp
  | a :: l, [], i => by cases i <;> simp
  | a :: l, b :: r, 0 => rfl
  | a :: l, b :: r, i + 1 => by
    show (a, b) :: (l.zip r).set i (x, y) = (a, b) :: (l.set i x).zip (r.set i y)
    rw [zip_set]
theorem zip_get {α β : Type} {l : List α} {r : List β} {i : Nat} {x : α} {y : β} (h1 : l[i]? = some x) (h2 : r[i]? = some y) : (l.zip r)[i]? = some (x, y) := by
  rw [List.getElem?_zip_eq_some]; exact ⟨h1, h2⟩
theorem set_self {α : Type} : ∀ {l : List α} {i : Nat} {x : α}, l[i]? = some x → l.set i x = l
  | [], _, _, _ => rfl
  | a :: r, 0, x, h => by simp at h; subst h; rfl
  | a :: r, i + 1, x, h => by
    show a :: r.set i x = a :: r
    rw [set_self (by simpa using h)]
section
variable {K : PySem.W.Frag} {H : Hp} {σ : L2.St} {env : Env} {R : List Ent} {i : Nat} {m : M}
theorem OkS.get (o : OkS K H σ env R) (h : env[i]? = some (some m)) : ∃ v, σ[i]? = some (some v) ∧ Ok K H ((some v, some m) :: ((σ.zip env).eraseIdx i ++ R)) := by
  obtain ⟨hl, o⟩ := o
  have hi : i < σ.length := by rw [hl]; exact (List.getElem?_eq_some_iff.mp h).1
  have hz : (σ.zip env)[i]? = some (σ[i], some m) := zip_get (List.getElem?_eq_getElem hi) h
  have o' := o.perm ((perm_get hz).append_right R)
  obtain ⟨v, e⟩ := Ok.head_some o'
  refine ⟨v, by rw [List.getElem?_eq_getElem hi, e], ?_⟩
  rw [e] at o'
  exact o'
/-- slot i is given anew -/
theorem OkS.put {x : Option V} {y : Option M} (hl : σ.length = env.length) (hi : i < env.length) (o : Ok K H ((x, y) :: ((σ.zip env).eraseIdx i ++ R))) : OkS K H (σ.set i x) (env.set i y) R := by
  refine ⟨by simp [hl], ?_⟩
  rw [← zip_set]
  have hi' : i < (σ.zip env).length := by rw [List.length_zip, hl]; omega
  exact o.perm ((perm_set (y := (x, y)) hi').append_right R).symm
theorem OkS.put' {v : V} {y : Option M} (hl : σ.length = env.length) (hs : σ[i]? = some (some v)) (o : Ok K H ((some v, y) :: ((σ.zip env).eraseIdx i ++ R))) : OkS K H σ (env.set i y) R := by
  have hi : i < env.length := by rw [← hl]; exact (List.getElem?_eq_some_iff.mp hs).1
  have q := OkS.put hl hi o
  rwa [set_self hs] at q
theorem OkS.len (o : OkS K H σ env R) : σ.length = env.length := o.1
/-- the place i without what stood there -/
theorem OkS.out (o : OkS K H σ env R) (hi : i < env.length) : Ok K H ((σ.zip env).eraseIdx i ++ R) := by
  have hi' : i < (σ.zip env).length := by rw [List.length_zip, o.1]; omega
  have hz : (σ.zip env)[i]? = some (σ.zip env)[i] := List.getElem?_eq_getElem hi'
  exact (o.2.perm ((perm_get hz).append_right R)).tail
theorem OkS.permR {R' : List Ent} (o : OkS K H σ env R) (p : R.Perm R') : OkS K H σ env R' := ⟨o.1, o.2.perm (p.append_left _)⟩
theorem perm_mid {α : Type} (L R : List α) (x : α) : (L ++ x :: R).Perm (x :: (L ++ R)) := List.perm_middle
theorem OkS.popR {e : Ent} (o : OkS K H σ env (e :: R)) : OkS K H σ env R := ⟨o.1, (o.2.perm (perm_mid _ _ _)).tail⟩
theorem OkS.popRs : ∀ {T : List Ent}, OkS K H σ env (T ++ R) → OkS K H σ env R
  | [], o => o
  | _ :: T, o => OkS.popRs (T := T) o.popR
theorem OkS.pushR {e : Ent} (o : OkS K H σ env R) (f : Ok K H (σ.zip env ++ R) → Ok K H (e :: (σ.zip env ++ R))) : OkS K H σ env (e :: R) := ⟨o.1, (f o.2).perm (perm_mid _ _ _).symm⟩
theorem OkS.topR {e : Ent} (o : OkS K H σ env (e :: R)) : Ok K H (e :: (σ.zip env ++ R)) := o.2.perm (perm_mid _ _ _)
theorem OkS.ofTop {e : Ent} (hl : σ.length = env.length) (o : Ok K H (e :: (σ.zip env ++ R))) : OkS K H σ env (e :: R) := ⟨hl, o.perm (perm_mid _ _ _).symm⟩
theorem OkS.atom {v : V} {d : D} (o : OkS K H σ env R) (r : ∀ F, RpD K F v d) : OkS K H σ env ((some v, some (.p d)) :: R) := by
  refine o.pushR fun ⟨F, A, q⟩ => ⟨F, A, q.pushP (r F)⟩
end

/-! ### exceptions -/
structure Exn where
  C : Addr
  fs : Option (List Str × List D)
def OkX (K : PySem.W.Frag) (H : Hp) (σ : L2.St) (env : Env) (R : List Ent) (x : Exn) (cls : Value) (d : Option Addr) : Prop :=
  cls = .ref x.C ∧ match x.fs with
    | none => d = none ∧ OkS K H σ env R
    | some (fs, ds) => ∃ dd, d = some dd ∧ OkS K H σ env ((some (.ref dd), some (.p (.xd fs ds))) :: R)
theorem OkX.map {K : PySem.W.Frag} {H : Hp} {σ σ' : L2.St} {env env' : Env} {R R' : List Ent} {x : Exn} {cls : Value} {d : Option Addr} (o : OkX K H σ env R x cls d)
    (f : ∀ T, OkS K H σ env (T ++ R) → OkS K H σ' env' (T ++ R')) : OkX K H σ' env' R' x cls d := by
  obtain ⟨h1, h2⟩ := o
  refine ⟨h1, ?_⟩
  cases e : x.fs with
  | none => rw [e] at h2; exact ⟨h2.1, f [] h2.2⟩
  | some p =>
    rw [e] at h2
    obtain ⟨dd, h3, h4⟩ := h2
    exact ⟨dd, h3, f [_] h4⟩
theorem OkX.popR {K : PySem.W.Frag} {H : Hp} {σ : L2.St} {env : Env} {R : List Ent} {e : Ent} {x : Exn} {cls : Value} {d : Option Addr} (o : OkX K H σ env (e :: R) x cls d) : OkX K H σ env R x cls d :=
  o.map fun T q => (q.permR (perm_mid T R e)).popR
theorem OkX.popRs {K : PySem.W.Frag} {H : Hp} {σ : L2.St} {env : Env} {R : List Ent} {x : Exn} {cls : Value} {d : Option Addr} : ∀ {T : List Ent}, OkX K H σ env (T ++ R) x cls d → OkX K H σ env R x cls d
  | [], o => o
  | _ :: T, o => OkX.popRs (T := T) o.popR

/-! ### what is wanted, by values alone -/
abbrev KX := Exn → Env → Prop
abbrev WE := Env → (M → Env → Prop) → KX → Prop
abbrev WT := Env → (Bool → Env → Prop) → KX → Prop
abbrev Opd := Sum Nat M
abbrev WO := Env → (Opd → Env → Prop) → KX → Prop
abbrev WA := Env → (List Opd → Env → Prop) → KX → Prop

def tE (K : PySem.W.Frag) (W : WX) (we : WE) : TE := fun σ H Q => ∃ (env : Env) (R : List Ent) (C : M → Env → Prop) (CX : KX), OkS K H σ env R ∧ we env C CX ∧
  (∀ v H' m env', OkS K H' σ env' ((some v, some m) :: R) → C m env' → Q v H') ∧ (∀ x env' cls d H', OkX K H' σ env' R x cls d → CX x env' → W cls d σ H')
def tT (K : PySem.W.Frag) (W : WX) (wt : WT) : TT := fun σ H Q => ∃ (env : Env) (R : List Ent) (C : Bool → Env → Prop) (CX : KX), OkS K H σ env R ∧ wt env C CX ∧
  (∀ b H' env', OkS K H' σ env' R → C b env' → Q b H') ∧ (∀ x env' cls d H', OkX K H' σ env' R x cls d → CX x env' → W cls d σ H')
def OpdOk (K : PySem.W.Frag) (H : Hp) (σ : L2.St) (env : Env) (R : List Ent) (v : V) : Opd → Prop
  | .inl i => σ[i]? = some (some v) ∧ OkS K H σ env R
  | .inr m => OkS K H σ env ((some v, some m) :: R)
def tO (K : PySem.W.Frag) (W : WX) (wo : WO) : TE := fun σ H Q => ∃ (env : Env) (R : List Ent) (C : Opd → Env → Prop) (CX : KX), OkS K H σ env R ∧ wo env C CX ∧
  (∀ v H' o env', OpdOk K H' σ env' R v o → C o env' → Q v H') ∧ (∀ x env' cls d H', OkX K H' σ env' R x cls d → CX x env' → W cls d σ H')
def OpdsR (σ : L2.St) : List V → List Opd → Prop
  | [], [] => True
  | v :: vs, .inl i :: os => σ[i]? = some (some v) ∧ OpdsR σ vs os
  | _ :: vs, .inr _ :: os => OpdsR σ vs os
  | _, _ => False
def temps : List V → List Opd → List Ent
  | v :: vs, .inr m :: os => (some v, some m) :: temps vs os
  | _ :: vs, .inl _ :: os => temps vs os
  | _, _ => []
def tA (K : PySem.W.Frag) (W : WX) (was : WA) : TA := fun σ H Q => ∃ (env : Env) (R : List Ent) (C : List Opd → Env → Prop) (CX : KX), OkS K H σ env R ∧ was env C CX ∧
  (∀ vs H' os env', OpdsR σ vs os → OkS K H' σ env' (temps vs os ++ R) → C os env' → Q vs H') ∧ (∀ x env' cls d H', OkX K H' σ env' R x cls d → CX x env' → W cls d σ H')
def wNil : WA := fun e C _ => C [] e
def wCons (a : WO) (r : WA) : WA := fun e C X => a e (fun o e1 => r e1 (fun os e2 => C (o :: os) e2) X) X

theorem _root_.L2.PE.wk {X : Cx} {e : Expr} {t t' : TE} (h : PE X e t) (k : ∀ σ H Q, t' σ H Q → t σ H Q) : PE X e t' := ⟨fun pins s σ H Q I q => h.run pins s σ H Q I (k σ H Q q)⟩
theorem _root_.L2.PT.wk {X : Cx} {e : Expr} {t t' : TT} (h : PT X e t) (k : ∀ σ H Q, t' σ H Q → t σ H Q) : PT X e t' := ⟨fun pins s σ H Q I q => h.run pins s σ H Q I (k σ H Q q)⟩
theorem _root_.L2.PW.wk {X : Cx} {e : Expr} {t t' : TT} (h : PW X e t) (k : ∀ σ H Q, t' σ H Q → t σ H Q) : PW X e t' := ⟨fun w pins s σ H Q I q => h.run w pins s σ H Q I (k σ H Q q)⟩
theorem _root_.L2.PA.wk {X : Cx} {e : List Expr} {t t' : TA} (h : PA X e t) (k : ∀ σ H Q, t' σ H Q → t σ H Q) : PA X e t' := ⟨fun p pins s σ H Q I q => h.run p pins s σ H Q I (k σ H Q q)⟩
theorem _root_.L2.PS.wk {X : Cx} {e : Stmt} {t t' : TS} (h : PS X e t) (k : ∀ D σ H, t' D σ H → t D σ H) : PS X e t' := ⟨fun pins s σ H D I q => h.run pins s σ H D I (k D σ H q)⟩
theorem _root_.L2.PSs.wk {X : Cx} {e : List Stmt} {t t' : TS} (h : PSs X e t) (k : ∀ D σ H, t' D σ H → t D σ H) : PSs X e t' := ⟨fun pins s σ H D I q => h.run pins s σ H D I (k D σ H q)⟩

section
variable {X : Cx} {W : WX} {K : PySem.W.Frag} {σ : L2.St} {H : Hp}
theorem tA_nil {Q : List V → Hp → Prop} (h : tA K W wNil σ H Q) : tNil σ H Q := by
  obtain ⟨env, R, C, CX, ok, h, hQ, hX⟩ := h
  exact hQ [] H [] env trivial ok h
theorem tA_cons {a : WO} {r : WA} {Q : List V → Hp → Prop} (h : tA K W (wCons a r) σ H Q) : tCons (tO K W a) (tA K W r) σ H Q := by
  obtain ⟨env, R, C, CX, ok, h, hQ, hX⟩ := h
  refine ⟨env, R, _, CX, ok, h, fun v H' o env' q c => ?_, hX⟩
  cases o with
  | inl i =>
    obtain ⟨q1, q2⟩ := q
    exact ⟨env', R, _, CX, q2, c, fun vs H2 os env2 z1 z2 z3 => hQ (v :: vs) H2 (.inl i :: os) env2 ⟨q1, z1⟩ z2 z3, hX⟩
  | inr m =>
    have q : OkS K H' σ env' ((some v, some m) :: R) := q
    refine ⟨env', _, _, CX, q, c, fun vs H2 os env2 z1 z2 z3 => hQ (v :: vs) H2 (.inr m :: os) env2 z1 (z2.permR (perm_mid _ _ _)) z3, fun x env2 cls d H2 z1 z2 => hX x env2 cls d H2 z1.popR z2⟩
theorem ba_nil : PA X [] (tA X.K W wNil) := pa_nil.wk fun _ _ _ h => tA_nil h
theorem ba_cons {e : Expr} {es : List Expr} {a : WO} {r : WA} (ha : PE X e (tO X.K W a)) (hr : PA X es (tA X.K W r)) (hs : starEach (e :: es) X.env = (false, eval e X.env) :: starEach es X.env := by rfl) : PA X (e :: es) (tA X.K W (wCons a r)) :=
  (pa_cons ha hr hs).wk fun _ _ _ h => tA_cons h
theorem tO_1 {a : WO} {r : V → Hp → VK → Prop} {Q : VK} (h : tA K W (wCons a wNil) σ H (fun vs H' => ∃ x, vs = [x] ∧ r x H' Q)) : (tO K W a) σ H (fun x H' => r x H' Q) := by
  obtain ⟨env, R, C, CX, ok, h, hQ, hX⟩ := h
  refine ⟨env, R, _, CX, ok, h, fun v H' o env' q c => ?_, hX⟩
  cases o with
  | inl i =>
    obtain ⟨x, e, z⟩ := hQ [v] H' [.inl i] env' ⟨q.1, trivial⟩ q.2 c
    cases e; exact z
  | inr m =>
    obtain ⟨x, e, z⟩ := hQ [v] H' [.inr m] env' trivial q c
    cases e; exact z
theorem tO_2 {a b : WO} {r : R2} {Q : VK} (h : tA K W (wCons a (wCons b wNil)) σ H (fun vs H' => ∃ x y, vs = [x, y] ∧ r x y H' Q)) : tOp r (tO K W a) (tO K W b) σ H Q := by
  obtain ⟨env, R, C, CX, ok, h, hQ, hX⟩ := tA_cons h
  refine ⟨env, R, C, CX, ok, h, fun v H' o env' q c => ?_, hX⟩
  obtain ⟨env, R, C, CX, ok, h, hQ, hX⟩ := tA_cons (hQ v H' o env' q c)
  refine ⟨env, R, C, CX, ok, h, fun v2 H2 o2 env2 q2 c2 => ?_, hX⟩
  obtain ⟨x, y, e, z⟩ := tA_nil (hQ v2 H2 o2 env2 q2 c2)
  cases e; exact z

/-! ### operands, read -/
def msOf (env : Env) : List Opd → Option (List M)
  | [] => some []
  | .inl i :: os => match env[i]? with
    | some (some m) => (msOf env os).map (m :: ·)
    | _ => none
  | .inr m :: os => (msOf env os).map (m :: ·)
inductive VwA (K : PySem.W.Frag) (F H : Hp) : List V → List M → Prop
  | nil : VwA K F H [] []
  | cons {v : V} {vs : List V} {m : M} {ms : List M} {A : List Addr} : RpM K F H v m A → VwA K F H vs ms → VwA K F H (v :: vs) (m :: ms)
theorem RpE.mem {F : Hp} {v : V} {m : M} : ∀ {L : List Ent} {A : List Addr}, RpE K F H L A → (some v, some m) ∈ L → ∃ A', RpM K F H v m A'
  | _, _, .nil, h => by simp at h
  | _, _, .no r, h => by
    rcases List.mem_cons.mp h with h | h
    · cases h
    · exact RpE.mem r h
  | _, _, .so q r, h => by
    rcases List.mem_cons.mp h with h | h
    · cases h; exact ⟨_, q⟩
    · exact RpE.mem r h
theorem views {F : Hp} {env : Env} {L : List Ent} {A : List Addr} (o : Op K F H L A) : ∀ {vs : List V} {os : List Opd} {ms : List M}, OpdsR σ vs os → msOf env os = some ms → (∀ e ∈ σ.zip env, e ∈ L) → (∀ e ∈ temps vs os, e ∈ L) → VwA K F H vs ms
  | [], [], ms, _, h, _, _ => by cases h; exact .nil
  | v :: vs, .inl i :: os, ms, r, h, hz, ht => by
    simp only [msOf] at h
    cases e : env[i]? with
    | none => rw [e] at h; cases h
    | some z =>
      cases z with
      | none => rw [e] at h; cases h
      | some m =>
        rw [e] at h
        simp only [Option.map_eq_some_iff] at h
        obtain ⟨ms', h1, h2⟩ := h
        subst h2
        have hm : (some v, some m) ∈ σ.zip env := List.mem_of_getElem? (zip_get r.1 e)
        obtain ⟨A', q⟩ := o.rp.mem (hz _ hm)
        exact .cons q (views o r.2 h1 hz ht)
  | v :: vs, .inr m :: os, ms, r, h, hz, ht => by
    simp only [msOf, Option.map_eq_some_iff] at h
    obtain ⟨ms', h1, h2⟩ := h
    subst h2
    obtain ⟨A', q⟩ := o.rp.mem (ht (some v, some m) (by simp [temps]))
    exact .cons q (views o (vs := vs) (os := os) r h1 hz fun e he => ht e (by simp [temps, he]))
  | [], _ :: _, _, r, _, _, _ => by simp [OpdsR] at r
  | v :: vs, [], _, r, _, _, _ => by simp [OpdsR] at r

/-- what comes of a reading operation -/
inductive Res where
  | val (d : D) | newl (ds : List D) | newt (ds : List D) | newk (ks : List Key) (ds : List D)
@[simp] def Res.m : Res → M
  | .val d => .p d
  | .newl ds => .l ds
  | .newt ds => .p (.tup ds)
  | .newk ks ds => .k ks ds
def ResOk (K : PySem.W.Frag) (F H : Hp) (rr : VK → Prop) : Res → Prop
  | .val d => ∃ v, RpD K F v d ∧ ∀ Q : VK, Q v H → rr Q
  | .newl ds => ∃ ws, RpA K F ws ds ∧ ∀ Q : VK, (∀ p, H p = none → Q (.ref p) (upd H p (.lst ws))) → rr Q
  | .newt ds => ∃ ws, RpA K F ws ds ∧ ∀ Q : VK, (∀ p, H p = none → Q (.ref p) (upd H p (.tup ws))) → rr Q
  | .newk ks ds => ∃ kvs : List (Key × V), kvs.map (·.1) = ks ∧ RpA K F (kvs.map (·.2)) ds ∧ ∀ Q : VK, (∀ p, H p = none → Q (.ref p) (upd H p (.dK kvs))) → rr Q
def RdOk (K : PySem.W.Frag) (rr : List V → Hp → VK → Prop) (g : List M → Option Res) : Prop :=
  ∀ F H vs ms res, Sub F H → VwA K F H vs ms → g ms = some res → ResOk K F H (rr vs H) res
def wRd (g : List M → Option Res) (was : WA) : WE := fun e C X => was e (fun os e1 => match (msOf e1 os).bind g with | some r => C r.m e1 | none => False) X
theorem res_ok {F : Hp} {env : Env} {T R : List Ent} {A : List Addr} {rr : VK → Prop} {res : Res} {Q : VK} {C : M → Env → Prop} (hl : σ.length = env.length) (o : Op K F H (σ.zip env ++ (T ++ R)) A) (r : ResOk K F H rr res) (c : C res.m env)
    (hQ : ∀ v H' m env', OkS K H' σ env' ((some v, some m) :: R) → C m env' → Q v H') : rr Q := by
  have fin : ∀ {e : Ent} {H' : Hp}, Ok K H' (e :: (σ.zip env ++ (T ++ R))) → OkS K H' σ env (e :: R) := fun {e H'} q =>
    (OkS.popRs (T := T) (R := e :: R) (OkS.permR (OkS.ofTop hl q) (perm_mid T R e).symm))
  cases res with
  | val d =>
    obtain ⟨v, r1, r2⟩ := r
    exact r2 Q (hQ v H _ env (fin ⟨F, A, o.pushP r1⟩) c)
  | newl ds =>
    obtain ⟨ws, r1, r2⟩ := r
    exact r2 Q fun p hp => hQ _ _ _ env (fin ⟨F, _, o.newL r1 hp⟩) c
  | newt ds =>
    obtain ⟨ws, r1, r2⟩ := r
    exact r2 Q fun p hp => hQ _ _ _ env (fin ⟨_, _, o.newT r1 hp⟩) c
  | newk ks ds =>
    obtain ⟨kvs, r0, r1, r2⟩ := r
    subst r0
    exact r2 Q fun p hp => hQ _ _ _ env (fin ⟨F, _, o.newK r1 hp⟩) c
theorem tE_rd {rr : List V → Hp → VK → Prop} {g : List M → Option Res} {was : WA} {Q : VK} (hg : RdOk K rr g) (h : tE K W (wRd g was) σ H Q) : tA K W was σ H (fun vs H' => rr vs H' Q) := by
  obtain ⟨env, R, C, CX, ok, h, hQ, hX⟩ := h
  refine ⟨env, R, _, CX, ok, h, fun vs H' os env' r q c => ?_, hX⟩
  cases e : (msOf env' os).bind g with
  | none => rw [e] at c; exact c.elim
  | some res =>
    rw [e] at c
    obtain ⟨ms, e1, e2⟩ := Option.bind_eq_some_iff.mp e
    obtain ⟨hl, F, A, o⟩ := q
    have vw : VwA K F H' vs ms := views o r e1 (fun e he => List.mem_append_left _ he) fun e he => List.mem_append_right _ (List.mem_append_left _ he)
    exact res_ok hl o (hg F H' vs ms res o.sub vw e2) c hQ
theorem be_rd1 {e : Expr} {a : WO} {g : List M → Option Res} {r : V → Hp → VK → Prop} (hg : RdOk X.K (fun vs H Q => ∃ x, vs = [x] ∧ r x H Q) g) (h : PE X e (fun σ H Q => (tO X.K W a) σ H (fun x H' => r x H' Q))) : PE X e (tE X.K W (wRd g (wCons a wNil))) :=
  h.wk fun _ _ _ q => tO_1 (tE_rd hg q)
theorem be_rd2 {e : Expr} {a b : WO} {g : List M → Option Res} {r : R2} (hg : RdOk X.K (fun vs H Q => ∃ x y, vs = [x, y] ∧ r x y H Q) g) (h : PE X e (tOp r (tO X.K W a) (tO X.K W b))) : PE X e (tE X.K W (wRd g (wCons a (wCons b wNil)))) :=
  h.wk fun _ _ _ q => tO_2 (tE_rd hg q)
/-- .. of a list of operands -/
theorem be_rdA {e : Expr} {was : WA} {g : List M → Option Res} {r : List V → Hp → VK → Prop} (hg : RdOk X.K r g) (h : PE X e (fun σ H Q => (tA X.K W was) σ H (fun vs H' => r vs H' Q))) : PE X e (tE X.K W (wRd g was)) :=
  h.wk fun _ _ _ q => tE_rd hg q

/-! ### names, constants -/
def woVar (i : Nat) : WO := fun e C _ => match e[i]? with | some (some _) => C (.inl i) e | _ => False
def woE (we : WE) : WO := fun e C X => we e (fun m e1 => C (.inr m) e1) X
def wVar (i : Nat) : WE := fun e C _ => match e[i]? with
  | some (some (.p d)) => C (.p d) e
  | some (some m) => match m.fz with | some d => C (.p d) (e.set i (some (.p d))) | none => False
  | _ => False
def wMove (i : Nat) : WE := fun e C _ => match e[i]? with
  | some (some (.p d)) => C (.p d) e
  | some (some m) => C m (e.set i none)
  | _ => False
def wC (d : D) : WE := fun e C _ => C (.p d) e
theorem bo_var {e : Expr} {i : Nat} (h : PE X e (tVar i)) : PE X e (tO X.K W (woVar i)) := h.wk fun σ H Q q => by
  obtain ⟨env, R, C, CX, ok, h, hQ, hX⟩ := q
  unfold woVar at h
  split at h
  · rename_i m e
    obtain ⟨v, e1, o⟩ := ok.get e
    exact ⟨v, e1, hQ v H (.inl i) env ⟨e1, ok⟩ h⟩
  · exact h.elim
theorem bo_e {e : Expr} {we : WE} (h : PE X e (tE X.K W we)) : PE X e (tO X.K W (woE we)) := h.wk fun σ H Q q => by
  obtain ⟨env, R, C, CX, ok, h, hQ, hX⟩ := q
  exact ⟨env, R, _, CX, ok, h, fun v H' m env' q c => hQ v H' (.inr m) env' q c, hX⟩
theorem be_var {e : Expr} {i : Nat} (h : PE X e (tVar i)) : PE X e (tE X.K W (wVar i)) := h.wk fun σ H Q q => by
  obtain ⟨env, R, C, CX, ok, h, hQ, hX⟩ := q
  have main : ∀ m d, env[i]? = some (some m) → m.fz = some d → C (.p d) (env.set i (some (.p d))) → tVar i σ H Q := fun m d e ez c => by
    obtain ⟨v, e1, o⟩ := ok.get e
    have o2 := (o.freeze ez).dup
    have o3 := OkS.put' (R := (some v, some (.p d)) :: R) ok.len e1 (o2.perm ((perm_mid ((some v, some (.p d)) :: (σ.zip env).eraseIdx i) R _).symm))
    exact ⟨v, e1, hQ v H _ _ o3 c⟩
  unfold wVar at h
  split at h
  · rename_i d e
    exact main _ d e rfl (by rw [set_self e]; exact h)
  · rename_i m _ e
    split at h
    · rename_i d ez
      exact main m d e ez h
    · exact h.elim
  · exact h.elim
theorem be_move {e : Expr} {i : Nat} (h : PE X e (tVar i)) : PE X e (tE X.K W (wMove i)) := h.wk fun σ H Q q => by
  obtain ⟨env, R, C, CX, ok, h, hQ, hX⟩ := q
  unfold wMove at h
  split at h
  · rename_i d e
    obtain ⟨v, e1, o⟩ := ok.get e
    have o2 := o.dup
    have o3 := OkS.put' (R := (some v, some (.p d)) :: R) ok.len e1 (o2.perm ((perm_mid ((some v, some (.p d)) :: (σ.zip env).eraseIdx i) R _).symm))
    rw [set_self e] at o3
    exact ⟨v, e1, hQ v H _ _ o3 h⟩
  · rename_i m _ e
    obtain ⟨v, e1, o⟩ := ok.get e
    have o3 := OkS.put' (R := (some v, some m) :: R) (y := none) ok.len e1 ((Ok.pushN o).perm ((perm_mid ((σ.zip env).eraseIdx i) R _).symm.cons _))
    exact ⟨v, e1, hQ v H _ _ o3 h⟩
  · exact h.elim
theorem be_c {e : Expr} {v : V} {d : D} (r : ∀ F, RpD X.K F v d) (h : PE X e (tC v)) : PE X e (tE X.K W (wC d)) := h.wk fun σ H Q q => by
  obtain ⟨env, R, C, CX, ok, h, hQ, hX⟩ := q
  exact hQ v H _ env (ok.atom r) h
end
end BV

namespace BV
open PySem L2

/-! ### tests -/
def wTV (we : WE) : WT := fun e C X => we e (fun m e1 => match m with | .p (.bl b) => C b e1 | _ => False) X
def wAnd (a b : WT) : WT := fun e C X => a e (fun c e1 => if c = true then b e1 C X else C false e1) X
def wOr (a b : WT) : WT := fun e C X => a e (fun c e1 => if c = true then C true e1 else b e1 C X) X
def wNot (a : WT) : WT := fun e C X => a e (fun c e1 => C (!c) e1) X
def wAndV (a b : WE) : WE := fun e C X => a e (fun m e1 => match m with | .p (.bl c) => (if c = true then b e1 C X else C (.p (.bl false)) e1) | _ => False) X
def wOrV (a b : WE) : WE := fun e C X => a e (fun m e1 => match m with | .p (.bl c) => (if c = true then C (.p (.bl true)) e1 else b e1 C X) | _ => False) X
def wNotV (a : WE) : WE := fun e C X => a e (fun m e1 => match m with | .p (.bl c) => C (.p (.bl (!c))) e1 | _ => False) X
def wIfE (t : WT) (a b : WE) : WE := fun e C X => t e (fun c e1 => if c = true then a e1 C X else b e1 C X) X
section
variable {X : Cx} {W : WX} {K : PySem.W.Frag} {σ : L2.St} {H : Hp} {pos : Pos}
theorem bl_of {R : List Ent} {env : Env} {v : V} {b : Bool} (o : OkS K H σ env ((some v, some (.p (.bl b))) :: R)) : v = .bl b := by
  obtain ⟨F, A, o⟩ := o.topR
  obtain ⟨_, _, _, r, _, _⟩ := o.head
  cases r with
  | p r => cases r; rfl
theorem tT_V {we : WE} {Q : Bool → Hp → Prop} (h : tT K W (wTV we) σ H Q) : tE K W we σ H (fun x H' => ∃ k, x = .bl k ∧ Q k H') := by
  obtain ⟨env, R, C, CX, ok, h, hQ, hX⟩ := h
  refine ⟨env, R, _, CX, ok, h, fun v H' m env' q c => ?_, hX⟩
  split at c
  · rename_i b
    exact ⟨b, bl_of q, hQ b H' env' q.popR c⟩
  · exact c.elim
theorem bt_val {e : Expr} {we : WE} (h : PE X e (tE X.K W we)) (he : ∀ whole, isTrue e X.env whole = (do let v ← whole; standAt e.pos; holding [v] (truthy v)) := by intro _; rfl) : PT X e (tT X.K W (wTV we)) :=
  (pt_val h he).wk fun _ _ _ q => tT_V q
theorem bt_rd2 {e : Expr} {a b : WO} {g : List M → Option Res} {r : R2} (hg : RdOk X.K (fun vs H Q => ∃ x y, vs = [x, y] ∧ r x y H Q) g) (h : PT X e (tTest (tOp r (tO X.K W a) (tO X.K W b)))) : PT X e (tT X.K W (wTV (wRd g (wCons a (wCons b wNil))))) :=
  h.wk fun _ _ _ q => tO_2 (tE_rd hg (tT_V q))
theorem tT_and {a b : WT} {Q : Bool → Hp → Prop} (h : tT K W (wAnd a b) σ H Q) : tAnd (tT K W a) (tT K W b) σ H Q := by
  obtain ⟨env, R, C, CX, ok, h, hQ, hX⟩ := h
  refine ⟨env, R, _, CX, ok, h, fun c H' env' q z => ?_, hX⟩
  cases c with
  | true => exact ⟨env', R, C, CX, q, z, hQ, hX⟩
  | false => exact hQ false H' env' q z
theorem tT_or {a b : WT} {Q : Bool → Hp → Prop} (h : tT K W (wOr a b) σ H Q) : tOr (tT K W a) (tT K W b) σ H Q := by
  obtain ⟨env, R, C, CX, ok, h, hQ, hX⟩ := h
  refine ⟨env, R, _, CX, ok, h, fun c H' env' q z => ?_, hX⟩
  cases c with
  | false => exact ⟨env', R, C, CX, q, z, hQ, hX⟩
  | true => exact hQ true H' env' q z
theorem bw_and1 {a : Expr} {t : WT} (h : PT X a (tT X.K W t)) : PW X (.BoolOp .And [a] pos) (tT X.K W t) := pw_and1 h
theorem bw_or1 {a : Expr} {t : WT} (h : PT X a (tT X.K W t)) : PW X (.BoolOp .Or [a] pos) (tT X.K W t) := pw_or1 h
theorem bw_and {a b : Expr} {rest : List Expr} {t u : WT} (h : PT X a (tT X.K W t)) (h2 : PW X (.BoolOp .And (b :: rest) pos) (tT X.K W u)) : PW X (.BoolOp .And (a :: b :: rest) pos) (tT X.K W (wAnd t u)) :=
  (pw_and h h2).wk fun _ _ _ q => tT_and q
theorem bw_or {a b : Expr} {rest : List Expr} {t u : WT} (h : PT X a (tT X.K W t)) (h2 : PW X (.BoolOp .Or (b :: rest) pos) (tT X.K W u)) : PW X (.BoolOp .Or (a :: b :: rest) pos) (tT X.K W (wOr t u)) :=
  (pw_or h h2).wk fun _ _ _ q => tT_or q
theorem bt_w {e : Expr} {t : WT} (h : PW X e (tT X.K W t)) : PT X e (tT X.K W t) := h.pt
theorem bt_not {a : Expr} {t : WT} (h : PT X a (tT X.K W t)) : PT X (.UnaryOp .Not a pos) (tT X.K W (wNot t)) :=
  (pt_not h).wk fun _ _ _ ⟨env, R, C, CX, ok, h, hQ, hX⟩ => ⟨env, R, _, CX, ok, h, fun c H' env' q z => hQ _ H' env' q z, hX⟩
theorem be_one {op : BoolOp} {a : Expr} {we : WE} (h : PE X a (tE X.K W we)) : PE X (.BoolOp op [a] pos) (tE X.K W we) := pe_one h
theorem be_and {a b : Expr} {rest : List Expr} {t u : WE} (h : PE X a (tE X.K W t)) (h2 : PE X (.BoolOp .And (b :: rest) pos) (tE X.K W u)) : PE X (.BoolOp .And (a :: b :: rest) pos) (tE X.K W (wAndV t u)) :=
  (pe_and h h2).wk fun σ H Q ⟨env, R, C, CX, ok, h, hQ, hX⟩ => by
    refine ⟨env, R, _, CX, ok, h, fun v H' m env' q z => ?_, hX⟩
    split at z
    · rename_i c
      refine ⟨c, bl_of q, ?_⟩
      cases c with
      | true => exact ⟨env', R, C, CX, q.popR, z, hQ, hX⟩
      | false => exact hQ _ H' _ env' (q.popR.atom fun _ => .bl false) z
    · exact z.elim
theorem be_or {a b : Expr} {rest : List Expr} {t u : WE} (h : PE X a (tE X.K W t)) (h2 : PE X (.BoolOp .Or (b :: rest) pos) (tE X.K W u)) : PE X (.BoolOp .Or (a :: b :: rest) pos) (tE X.K W (wOrV t u)) :=
  (pe_or h h2).wk fun σ H Q ⟨env, R, C, CX, ok, h, hQ, hX⟩ => by
    refine ⟨env, R, _, CX, ok, h, fun v H' m env' q z => ?_, hX⟩
    split at z
    · rename_i c
      refine ⟨c, bl_of q, ?_⟩
      cases c with
      | false => exact ⟨env', R, C, CX, q.popR, z, hQ, hX⟩
      | true => exact hQ _ H' _ env' (q.popR.atom fun _ => .bl true) z
    · exact z.elim
theorem be_not {a : Expr} {t : WE} (h : PE X a (tE X.K W t)) : PE X (.UnaryOp .Not a pos) (tE X.K W (wNotV t)) :=
  (pe_not h).wk fun σ H Q ⟨env, R, C, CX, ok, h, hQ, hX⟩ => by
    refine ⟨env, R, _, CX, ok, h, fun v H' m env' q z => ?_, hX⟩
    split at z
    · rename_i c
      exact ⟨c, bl_of q, hQ _ H' _ env' (q.popR.atom fun _ => .bl (!c)) z⟩
    · exact z.elim
theorem be_ifE {c a b : Expr} {t : WT} {wa wb : WE} (hc : PT X c (tT X.K W t)) (ha : PE X a (tE X.K W wa)) (hb : PE X b (tE X.K W wb)) : PE X (.IfExp c a b pos) (tE X.K W (wIfE t wa wb)) :=
  (pe_ifExp hc ha hb).wk fun σ H Q ⟨env, R, C, CX, ok, h, hQ, hX⟩ => by
    refine ⟨env, R, _, CX, ok, h, fun c H' env' q z => ?_, hX⟩
    cases c with
    | true => exact ⟨env', R, C, CX, q, z, hQ, hX⟩
    | false => exact ⟨env', R, C, CX, q, z, hQ, hX⟩

/-! ### displays -/
abbrev WV := Env → (List D → Env → Prop) → KX → Prop
def wvNil : WV := fun e C _ => C [] e
def wvCons (a : WE) (r : WV) : WV := fun e C X => a e (fun m e1 => match m.fz with | some d => r e1 (fun ds e2 => C (d :: ds) e2) X | none => False) X
def entsP : List V → List D → List Ent
  | v :: vs, d :: ds => (some v, some (.p d)) :: entsP vs ds
  | _, _ => []
def tV (K : PySem.W.Frag) (W : WX) (wv : WV) : TA := fun σ H Q => ∃ (env : Env) (R : List Ent) (C : List D → Env → Prop) (CX : KX), OkS K H σ env R ∧ wv env C CX ∧
  (∀ vs H' ds env', vs.length = ds.length → OkS K H' σ env' (entsP vs ds ++ R) → C ds env' → Q vs H') ∧ (∀ x env' cls d H', OkX K H' σ env' R x cls d → CX x env' → W cls d σ H')
theorem OkS.freezeR {env : Env} {R : List Ent} {v : V} {m : M} {d : D} (o : OkS K H σ env ((some v, some m) :: R)) (hz : m.fz = some d) : OkS K H σ env ((some v, some (.p d)) :: R) :=
  OkS.ofTop o.1 (o.topR.freeze hz)
theorem bv_nil : PA X [] (tV X.K W wvNil) := pa_nil.wk fun _ H Q ⟨env, R, C, CX, ok, h, hQ, hX⟩ => hQ [] H [] env rfl ok h
theorem bv_cons {e : Expr} {es : List Expr} {a : WE} {r : WV} (ha : PE X e (tE X.K W a)) (hr : PA X es (tV X.K W r)) (hs : starEach (e :: es) X.env = (false, eval e X.env) :: starEach es X.env := by rfl) : PA X (e :: es) (tV X.K W (wvCons a r)) :=
  (pa_cons ha hr hs).wk fun σ H Q ⟨env, R, C, CX, ok, h, hQ, hX⟩ => by
    refine ⟨env, R, _, CX, ok, h, fun v H' m env' q z => ?_, hX⟩
    split at z
    · rename_i d hz
      refine ⟨env', _, _, CX, q.freezeR hz, z, fun vs H2 ds env2 z1 z2 z3 => hQ (v :: vs) H2 (d :: ds) env2 (by simp [z1]) (z2.permR (perm_mid _ _ _)) z3, fun x env2 cls d H2 z1 z2 => hX x env2 cls d H2 z1.popR z2⟩
    · exact z.elim
theorem entsP_rp {F : Hp} {L : List Ent} : ∀ {vs : List V} {ds : List D} {A : List Addr}, vs.length = ds.length → Op K F H (entsP vs ds ++ L) A → RpA K F vs ds ∧ ∃ A', Op K F H L A'
  | [], [], A, _, o => ⟨.nil, A, o⟩
  | v :: vs, d :: ds, A, e, o => by
    obtain ⟨A1, A2, _, r, o2, _⟩ := Op.head (L := entsP vs ds ++ L) o
    obtain ⟨r2, q⟩ := entsP_rp (by simpa using e) o2
    cases r with
    | p r => exact ⟨.cons r r2, q⟩
  | [], _ :: _, _, e, _ => by simp at e
  | _ :: _, [], _, e, _ => by simp at e
theorem OkS.vals {env : Env} {R : List Ent} {vs : List V} {ds : List D} (o : OkS K H σ env (entsP vs ds ++ R)) (e : vs.length = ds.length) : ∃ F A, Op K F H (σ.zip env ++ R) A ∧ RpA K F vs ds := by
  obtain ⟨_, F, A, o⟩ := o
  have p : (σ.zip env ++ (entsP vs ds ++ R)).Perm (entsP vs ds ++ (σ.zip env ++ R)) := by
    rw [← List.append_assoc, ← List.append_assoc]
    exact List.perm_append_comm.append_right R
  obtain ⟨A', o⟩ := o.perm p
  obtain ⟨r, A2, o2⟩ := entsP_rp e o
  exact ⟨F, A2, o2, r⟩
def wTup (wv : WV) : WE := fun e C X => wv e (fun ds e1 => ds.length ≤ 1000 ∧ C (.p (.tup ds)) e1) X
def wLst (wv : WV) : WE := fun e C X => wv e (fun ds e1 => ds.length ≤ 1000 ∧ C (.l ds) e1) X
theorem be_tup {es : List Expr} {x1 : Nat} {wv : WV} (h : PA X es (tV X.K W wv)) : PE X (.Tuple es x1 pos) (tE X.K W (wTup wv)) :=
  (pe_tup h).wk fun σ H Q ⟨env, R, C, CX, ok, h, hQ, hX⟩ => by
    refine ⟨env, R, _, CX, ok, h, fun vs H' ds env' e q ⟨z, c⟩ => ?_, hX⟩
    obtain ⟨F, A, o, r⟩ := q.vals e
    exact ⟨Nat.le_of_lt (small1000 (by omega)), fun p hp => hQ _ _ _ env' (OkS.ofTop q.1 ⟨_, _, o.newT r hp⟩) c⟩
theorem be_lst {es : List Expr} {wv : WV} (h : PA X es (tV X.K W wv)) : PE X (.List es pos) (tE X.K W (wLst wv)) :=
  (pe_lst h).wk fun σ H Q ⟨env, R, C, CX, ok, h, hQ, hX⟩ => by
    refine ⟨env, R, _, CX, ok, h, fun vs H' ds env' e q ⟨z, c⟩ => ?_, hX⟩
    obtain ⟨F, A, o, r⟩ := q.vals e
    exact ⟨Nat.le_of_lt (small1000 (by omega)), fun p hp => hQ _ _ _ env' (OkS.ofTop q.1 ⟨_, _, o.newL r hp⟩) c⟩

/-! ### statements -/
structure KS where
  nx : Env → Prop
  rt : M → Env → Prop
  bk : Env → Prop
  ct : Env → Prop
abbrev WS := Env → KS → KX → Prop
/-- the slots that keep what stands in them -/
def Pr (pr : Nat → Bool) (σ σ' : L2.St) : Prop := σ'.length = σ.length ∧ ∀ i, pr i = true → σ'[i]? = σ[i]?
theorem Pr.refl (pr : Nat → Bool) (σ : L2.St) : Pr pr σ σ := ⟨rfl, fun _ _ => rfl⟩
theorem Pr.trans {pr : Nat → Bool} {σ σ1 σ2 : L2.St} (a : Pr pr σ σ1) (b : Pr pr σ1 σ2) : Pr pr σ σ2 := ⟨b.1.trans a.1, fun i h => (b.2 i h).trans (a.2 i h)⟩
theorem Pr.set {pr : Nat → Bool} {σ : L2.St} {i : Nat} {x : Option V} (h : pr i = false) : Pr pr σ (σ.set i x) := ⟨by simp, fun j hj => by
  rw [List.getElem?_set_ne]
  intro e
  subst e
  rw [h] at hj; cases hj⟩
structure EndOk (K : PySem.W.Frag) (W : WX) (pr : Nat → Bool) (σ : L2.St) (R : List Ent) (C : KS) (CX : KX) (D : Ends) : Prop where
  nx : ∀ σ' H' env', Pr pr σ σ' → OkS K H' σ' env' R → C.nx env' → D.nx σ' H'
  rt : ∀ σ' v H' m env', Pr pr σ σ' → OkS K H' σ' env' ((some v, some m) :: R) → C.rt m env' → D.rt v H'
  bk : ∀ σ' H' env', Pr pr σ σ' → OkS K H' σ' env' R → C.bk env' → D.bk σ' H'
  ct : ∀ σ' H' env', Pr pr σ σ' → OkS K H' σ' env' R → C.ct env' → D.ct σ' H'
  ex : ∀ σ' x env' cls d H', Pr pr σ σ' → OkX K H' σ' env' R x cls d → CX x env' → W cls d σ' H'
theorem EndOk.on {pr : Nat → Bool} {σ' : L2.St} {R : List Ent} {C : KS} {CX : KX} {D : Ends} (h : EndOk K W pr σ R C CX D) (p : Pr pr σ σ') : EndOk K W pr σ' R C CX D :=
  ⟨fun s H e q => h.nx s H e (p.trans q), fun s v H m e q => h.rt s v H m e (p.trans q), fun s H e q => h.bk s H e (p.trans q), fun s H e q => h.ct s H e (p.trans q), fun s x e c d H q => h.ex s x e c d H (p.trans q)⟩
def tS (K : PySem.W.Frag) (W : WX) (pr : Nat → Bool) (ws : WS) : TS := fun D σ H => ∃ (env : Env) (R : List Ent) (C : KS) (CX : KX), OkS K H σ env R ∧ ws env C CX ∧ EndOk K W pr σ R C CX D
def wNext : WS := fun e C _ => C.nx e
def wSeq (a b : WS) : WS := fun e C X => a e { C with nx := fun e1 => b e1 C X } X
def wIf (t : WT) (a b : WS) : WS := fun e C X => t e (fun c e1 => if c = true then a e1 C X else b e1 C X) X
def wRet (we : WE) : WS := fun e C X => we e C.rt X
def wRetN : WS := fun e C _ => C.rt (.p .non) e
def wDrop (we : WE) : WS := fun e C X => we e (fun _ e1 => C.nx e1) X
def wBrk : WS := fun e C _ => C.bk e
def wCt : WS := fun e C _ => C.ct e
abbrev WG := M → Env → (Env → Prop) → Prop
def wgN (i : Nat) : WG := fun m e C => match e[i]? with | some _ => C (e.set i (some m)) | none => False
def wAsg (we : WE) (g : WG) : WS := fun e C X => we e (fun m e1 => g m e1 C.nx) X
variable {pr : Nat → Bool}
theorem bs_next {t : TS} (h : t = tNext) : ∀ D σ H, tS K W pr wNext D σ H → t D σ H := fun D σ H ⟨env, R, C, CX, ok, h1, E⟩ => by
  subst h; exact E.nx σ H env (Pr.refl pr σ) ok h1
theorem bss_nil : PSs X [] (tS X.K W pr wNext) := pss_nil.wk fun D σ H q => bs_next rfl D σ H q
theorem bss_one {st : Stmt} {a : WS} (h : PS X st (tS X.K W pr a)) : PSs X [st] (tS X.K W pr a) := pss_one h
theorem bss_cons {st : Stmt} {rest : List Stmt} {a b : WS} (h1 : PS X st (tS X.K W pr a)) (h2 : PSs X rest (tS X.K W pr b)) : PSs X (st :: rest) (tS X.K W pr (wSeq a b)) :=
  (pss_cons h1 h2).wk fun D σ H ⟨env, R, C, CX, ok, h, E⟩ =>
    ⟨env, R, _, CX, ok, h, fun σ' H' env' p q z => ⟨env', R, C, CX, q, z, E.on p⟩, E.rt, E.bk, E.ct, E.ex⟩
theorem bs_pass : PS X (.Pass pos) (tS X.K W pr wNext) := ps_pass.wk fun D σ H q => bs_next rfl D σ H q
theorem bs_doc {x : Str} {j : Nat} {pos' : Pos} : PS X (.Expr (.Constant (.str x) j pos) pos') (tS X.K W pr wNext) := ps_doc.wk fun D σ H q => bs_next rfl D σ H q
theorem bs_brk : PS X (.Break pos) (tS X.K W pr wBrk) := ps_break.wk fun D σ H ⟨env, R, C, CX, ok, h, E⟩ => E.bk σ H env (Pr.refl pr σ) ok h
theorem bs_ct : PS X (.Continue pos) (tS X.K W pr wCt) := ps_continue.wk fun D σ H ⟨env, R, C, CX, ok, h, E⟩ => E.ct σ H env (Pr.refl pr σ) ok h
theorem bs_if {c : Expr} {a b : List Stmt} {t : WT} {wa wb : WS} (hc : PT X c (tT X.K W t)) (ha : PSs X a (tS X.K W pr wa)) (hb : PSs X b (tS X.K W pr wb)) : PS X (.If c a b pos) (tS X.K W pr (wIf t wa wb)) :=
  (ps_if hc ha hb).wk fun D σ H ⟨env, R, C, CX, ok, h, E⟩ => by
    refine ⟨env, R, _, CX, ok, h, fun c H' env' q z => ?_, fun x env' cls d H' => E.ex σ x env' cls d H' (Pr.refl pr σ)⟩
    cases c with
    | true => exact ⟨env', R, C, CX, q, z, E⟩
    | false => exact ⟨env', R, C, CX, q, z, E⟩
theorem bs_ret {e : Expr} {we : WE} (h : PE X e (tE X.K W we)) : PS X (.Return (some e) pos) (tS X.K W pr (wRet we)) :=
  (ps_ret h).wk fun D σ H ⟨env, R, C, CX, ok, h, E⟩ =>
    ⟨env, R, _, CX, ok, h, fun v H' m env' q z => E.rt σ v H' m env' (Pr.refl pr σ) q z, fun x env' cls d H' => E.ex σ x env' cls d H' (Pr.refl pr σ)⟩
theorem bs_retN : PS X (.Return none pos) (tS X.K W pr wRetN) :=
  ps_retN.wk fun D σ H ⟨env, R, C, CX, ok, h, E⟩ => E.rt σ _ H _ env (Pr.refl pr σ) (ok.atom fun _ => .non) h
theorem bs_drop {e : Expr} {we : WE} (h : PE X e (tE X.K W we)) (hs : swapsWith e none pos.line X.env = pure false := by rfl) : PS X (.Expr e pos) (tS X.K W pr (wDrop we)) :=
  (ps_expr h hs).wk fun D σ H ⟨env, R, C, CX, ok, h, E⟩ =>
    ⟨env, R, _, CX, ok, h, fun v H' m env' q z => E.nx σ H' env' (Pr.refl pr σ) q.popR z, fun x env' cls d H' => E.ex σ x env' cls d H' (Pr.refl pr σ)⟩

/-! ### targets -/
def tG (K : PySem.W.Frag) (pr : Nat → Bool) (wg : WG) : TG := fun v σ H Q => ∃ (env : Env) (R : List Ent) (m : M) (C : Env → Prop), OkS K H σ env ((some v, some m) :: R) ∧ wg m env C ∧
  ∀ σ' H' env', Pr pr σ σ' → OkS K H' σ' env' R → C env' → Q σ' H'
theorem _root_.L2.PG.wk {e : Expr} {t t' : TG} (h : PG X e t) (k : ∀ v σ H Q, t' v σ H Q → t v σ H Q) : PG X e t' := ⟨fun pins s σ H v u Q I r q => h.run pins s σ H v u Q I r (k v σ H Q q)⟩
theorem _root_.L2.PGs.wk {e : List Expr} {t t' : TGs} (h : PGs X e t) (k : ∀ v σ H Q, t' v σ H Q → t v σ H Q) : PGs X e t' := ⟨fun pins s σ H v u Q I r q => h.run pins s σ H v u Q I r (k v σ H Q q)⟩
theorem OkS.assign {env : Env} {R : List Ent} {i : Nat} {v : V} {m : M} (o : OkS K H σ env ((some v, some m) :: R)) (hi : i < env.length) : OkS K H (σ.set i (some v)) (env.set i (some m)) R := by
  have hi' : i < (σ.zip env).length := by rw [List.length_zip, o.1]; omega
  have hz : (σ.zip env)[i]? = some (σ.zip env)[i] := List.getElem?_eq_getElem hi'
  have q := o.topR.perm (((perm_get hz).append_right R).cons _)
  exact OkS.put o.1 hi (q.perm (.swap _ _ _)).tail
theorem tG_N {i : Nat} {v : V} {Q : L2.St → Hp → Prop} (hp : pr i = false) (h : tG K pr (wgN i) v σ H Q) : gName i v σ H Q := by
  obtain ⟨env, R, m, C, ok, h, k⟩ := h
  unfold wgN at h
  split at h
  · rename_i z e
    exact k _ _ _ (Pr.set hp) (ok.assign (List.getElem?_eq_some_iff.mp e).1) h
  · exact h.elim
theorem bg_N {e : Expr} {i : Nat} (h : PG X e (gName i)) (hp : pr i = false := by rfl) : PG X e (tG X.K pr (wgN i)) := h.wk fun v σ H Q q => tG_N hp q
abbrev WGs := List D → Env → (Env → Prop) → Prop
def wgNil : WGs := fun ds e C => ds = [] ∧ C e
def wgCons (g : WG) (r : WGs) : WGs := fun ds e C => match ds with
  | d :: ds => g (.p d) e (fun e1 => r ds e1 C)
  | [] => False
def wgT (r : WGs) : WG := fun m e C => match m with
  | .p (.tup ds) => r ds e C
  | _ => False
def tGs (K : PySem.W.Frag) (pr : Nat → Bool) (wg : WGs) : TGs := fun vs σ H Q => ∃ (env : Env) (R : List Ent) (ds : List D) (C : Env → Prop), vs.length = ds.length ∧ OkS K H σ env (entsP vs ds ++ R) ∧ wg ds env C ∧
  ∀ σ' H' env', Pr pr σ σ' → OkS K H' σ' env' R → C env' → Q σ' H'
theorem bgs_nil : PGs X [] (tGs X.K pr wgNil) := pgs_nil.wk fun vs σ H Q ⟨env, R, ds, C, e, ok, h, k⟩ => by
  obtain ⟨rfl, h⟩ := h
  have : vs = [] := List.length_eq_zero_iff.mp e
  subst this
  exact ⟨rfl, k σ H env (Pr.refl pr σ) ok h⟩
theorem bgs_cons {e : Expr} {es : List Expr} {g : WG} {r : WGs} (h1 : PG X e (tG X.K pr g)) (h2 : PGs X es (tGs X.K pr r))
    (hs : (assignEach (e :: es) X.env).map (·.2) = assign e X.env :: (assignEach es X.env).map (·.2) := by rfl) : PGs X (e :: es) (tGs X.K pr (wgCons g r)) :=
  (pgs_cons h1 h2 hs).wk fun vs σ H Q ⟨env, R, ds, C, e, ok, h, k⟩ => by
    cases ds with
    | nil => exact h.elim
    | cons d ds =>
      cases vs with
      | nil => simp at e
      | cons v vs =>
        have ok : OkS X.K H σ env ((some v, some (.p d)) :: (entsP vs ds ++ R)) := ok
        exact ⟨v, vs, rfl, env, _, _, _, ok, h, fun σ' H' env' p q z => ⟨env', R, ds, C, by simpa using e, q, z, fun s2 H2 e2 p2 => k s2 H2 e2 (p.trans p2)⟩⟩
theorem bg_T {es : List Expr} {j : Nat} {r : WGs} {n : Nat} (hc : X.calm = true) (h : PGs X es (tGs X.K pr r)) (hw : ∀ ds e C, r ds e C → ds.length = n)
    (hn : (assignEach es X.env).length = n := by rfl) (hst : (assignEach es X.env).findIdx? (·.1) = none := by rfl) : PG X (.Tuple es j pos) (tG X.K pr (wgT r)) :=
  (pg_tup hc h hn hst).wk fun v σ H Q ⟨env, R, m, C, ok, h, k⟩ => by
    unfold wgT at h
    split at h
    · rename_i ds
      obtain ⟨F, A, o⟩ := ok.topR
      obtain ⟨A1, A2, _, rr, o2, _⟩ := o.head
      cases rr with
      | p rr =>
        cases rr with
        | @tup a xs _ ht ra =>
          have el : xs.length = ds.length := ra.length
          refine ⟨a, xs, rfl, sqT_sub o2.sub ht, el.trans (hw _ _ _ h), env, R, ds, C, el, ⟨ok.1, ?_⟩, h, k⟩
          have go : ∀ {xs : List V} {ds : List D} {L : List Ent}, RpA X.K F xs ds → Op X.K F H L A2 → Op X.K F H (entsP xs ds ++ L) A2 := by
            intro xs ds L ra o2
            induction xs generalizing ds with
            | nil => cases ra; exact o2
            | cons x xs ih =>
              cases ra with
              | cons r1 r2 => exact (ih r2).pushP r1
          refine Ok.perm ⟨F, A2, go ra o2⟩ ?_
          rw [← List.append_assoc, ← List.append_assoc]
          exact List.perm_append_comm.append_right R
    · exact h.elim
theorem wgNil_len : ∀ ds e C, wgNil ds e C → ds.length = 0 := fun ds e C h => by rw [h.1]; rfl
theorem wgCons_len {g : WG} {r : WGs} {n : Nat} (hg : ∀ d e C, g d e C → ∃ e1, C e1) (h : ∀ ds e C, r ds e C → ds.length = n) : ∀ ds e C, wgCons g r ds e C → ds.length = n + 1 := fun ds e C q => by
  cases ds with
  | nil => exact q.elim
  | cons d ds =>
    obtain ⟨e1, q⟩ := hg _ _ _ q
    have := h _ _ _ q
    simp [this]
theorem wgN_in {i : Nat} : ∀ m e C, wgN i m e C → ∃ e1, C e1 := fun m e C h => by
  unfold wgN at h
  split at h
  · exact ⟨_, h⟩
  · exact h.elim
theorem bs_asg {tg e : Expr} {we : WE} {g : WG} (he : PE X e (tE X.K W we)) (hg : PG X tg (tG X.K pr g)) (hs : swapsWithSole [tg] e pos.line X.env = pure false := by rfl) (hw : swappedStores [tg] e X.env = pure none := by rfl)
    (h1 : (assignEach [tg] X.env).map (·.2) = [assign tg X.env] := by rfl) : PS X (.Assign [tg] e pos) (tS X.K W pr (wAsg we g)) :=
  (ps_asg he hg hs hw h1).wk fun D σ H ⟨env, R, C, CX, ok, h, E⟩ =>
    ⟨env, R, _, CX, ok, h, fun v H' m env' q z => ⟨env', R, m, _, q, z, fun σ' H2 env2 p q2 z2 => E.nx σ' H2 env2 p q2 z2⟩, fun x env' cls d H' => E.ex σ x env' cls d H' (Pr.refl pr σ)⟩
theorem bs_set {i : Nat} {x : Str} {e : Expr} {we : WE} {pos' : Pos} (hN : X.N.Nodup) (hi : X.N[i]? = some x) (hx : Loc X.env.scope x) (he : PE X e (tE X.K W we)) (hs : swapsWith e (some (.Name x pos')) pos.line X.env = pure false := by rfl) (hp : pr i = false := by rfl)
    (hf : X.fn x = true ∨ X.env.scope.names.lookup x = some .local := by first | exact .inl rfl | exact .inr rfl | assumption) : PS X (.Assign [.Name x pos'] e pos) (tS X.K W pr (wAsg we (wgN i))) :=
  (ps_set hN hi hx he hs hf).wk fun D σ H ⟨env, R, C, CX, ok, h, E⟩ =>
    ⟨env, R, _, CX, ok, h, fun v H' m env' q z => tG_N hp ⟨env', R, m, _, q, z, fun σ' H2 env2 p q2 z2 => E.nx σ' H2 env2 p q2 z2⟩, fun x env' cls d H' => E.ex σ x env' cls d H' (Pr.refl pr σ)⟩

/-! ### while -/
def wWhile (t : WT) (b : WS) : WS := fun e C X => ∃ Inv : Nat → Env → Prop, (∃ m, Inv m e) ∧ ∀ m e, Inv m e →
  t e (fun c e1 => if c = true then b e1 { nx := fun e' => ∃ m', m' < m ∧ Inv m' e', ct := fun e' => ∃ m', m' < m ∧ Inv m' e', bk := C.nx, rt := C.rt } X else C.nx e1) X
theorem bs_while {c : Expr} {body : List Stmt} {t : WT} {b : WS} (hp : PassesOwn (model X.prog X.w) X.A X.env X.xe) (hc : PT X c (tT X.K W t)) (hb : PSs X body (tS X.K W pr b)) : PS X (.While c body [] pos) (tS X.K W pr (wWhile t b)) :=
  (ps_while hp hc hb).wk fun D σ H ⟨env, R, C, CX, ok, ⟨Iv, ⟨m0, w0⟩, hI⟩, E⟩ => by
    refine ⟨fun m σ' H' => ∃ env', Pr pr σ σ' ∧ OkS X.K H' σ' env' R ∧ Iv m env', ⟨m0, env, Pr.refl pr σ, ok, w0⟩, ?_⟩
    rintro m σ1 H1 ⟨env1, p1, ok1, w1⟩
    refine ⟨env1, R, _, CX, ok1, hI m env1 w1, fun c H2 env2 q z => ?_, fun x env' cls d H' => E.ex σ1 x env' cls d H' p1⟩
    cases c with
    | true =>
      refine ⟨fun σ' H' => ∃ m' env', m' < m ∧ Pr pr σ σ' ∧ OkS X.K H' σ' env' R ∧ Iv m' env', fun σ' H' ⟨m', env', l, p, o, w⟩ => ⟨m', l, env', p, o, w⟩, env2, R, _, CX, q, z, ?_⟩
      refine ⟨fun s2 H3 e3 p o ⟨m', l, w⟩ => ⟨m', e3, l, p1.trans p, o, w⟩, fun s2 v H3 m e3 p => E.rt s2 v H3 m e3 (p1.trans p), fun s2 H3 e3 p => E.nx s2 H3 e3 (p1.trans p), fun s2 H3 e3 p o ⟨m', l, w⟩ => ⟨m', e3, l, p1.trans p, o, w⟩, fun s2 x e3 cls d H3 p => E.ex s2 x e3 cls d H3 (p1.trans p)⟩
    | false => exact E.nx σ1 H2 env2 p1 q z

/-! ### what is walked -/
structure ItOk (K : PySem.W.Frag) (J : It) (T : List Ent) (ds : List D) : Prop where
  go : ∀ i H L, i < ds.length → Ok K H (T ++ L) → J.go i H
  stop : ∀ H L, Ok K H (T ++ L) → J.stop ds.length H
  yld : ∀ i H x H' L, i < ds.length → Ok K H (T ++ L) → J.yld i H x H' → ∃ d, ds[i]? = some d ∧ Ok K H' ((some x, some (.p d)) :: (T ++ L))
abbrev WI := Env → (List D → Env → Prop) → KX → Prop
def tI (K : PySem.W.Frag) (W : WX) (wi : WI) : TI := fun σ H R' => ∃ (env : Env) (R : List Ent) (C : List D → Env → Prop) (CX : KX), OkS K H σ env R ∧ wi env C CX ∧
  (∀ J T ds H' env', ItOk K J T ds → OkS K H' σ env' (T ++ R) → C ds env' → R' J H') ∧ (∀ x env' cls d H', OkX K H' σ env' R x cls d → CX x env' → W cls d σ H')
theorem _root_.L2.PI.wk {tg e : Expr} {t t' : TI} (h : PI X tg e t) (k : ∀ σ H R, t' σ H R → t σ H R) : PI X tg e t' := ⟨fun pins s σ H R I q => h.run pins s σ H R I (k σ H R q)⟩
def wForL (g : WG) (b : WS) (C : KS) (X : KX) : List D → Env → Prop
  | [], e => C.nx e
  | d :: ds, e => g (.p d) e (fun e1 => b e1 { nx := wForL g b C X ds, ct := wForL g b C X ds, bk := C.nx, rt := C.rt } X)
def wFor (wi : WI) (g : WG) (b : WS) : WS := fun e C X => wi e (fun ds e1 => wForL g b C X ds e1) X
theorem rotTop {env : Env} {T R : List Ent} : OkS K H σ env (T ++ R) ↔ σ.length = env.length ∧ Ok K H (T ++ (σ.zip env ++ R)) := by
  have p : (σ.zip env ++ (T ++ R)).Perm (T ++ (σ.zip env ++ R)) := by
    rw [← List.append_assoc, ← List.append_assoc]
    exact List.perm_append_comm.append_right R
  exact ⟨fun o => ⟨o.1, o.2.perm p⟩, fun o => ⟨o.1, o.2.perm p.symm⟩⟩
theorem drop_cons {α : Type} {l : List α} {i : Nat} {x : α} (h : l[i]? = some x) : l.drop i = x :: l.drop (i + 1) := by
  obtain ⟨hi, e⟩ := List.getElem?_eq_some_iff.mp h
  rw [List.drop_eq_getElem_cons hi, e]
theorem bs_for {tg iter : Expr} {body : List Stmt} {wi : WI} {g : WG} {b : WS} (hp : PassesOwn (model X.prog X.w) X.A X.env X.xe) (hc : X.calm = true) (hi : PI X tg iter (tI X.K W wi)) (hg : PG X tg (tG X.K pr g)) (hb : PSs X body (tS X.K W pr b))
    (hs : ∀ x, foldedSetIterable iter X.env x = pure x := by intro _; rfl) : PS X (.For tg iter body [] pos) (tS X.K W pr (wFor wi g b)) :=
  (ps_for hp hc hi hg hb hs).wk fun D σ H ⟨env, R, C, CX, ok, h, E⟩ => by
    refine ⟨env, R, _, CX, ok, h, fun J T ds H' env' it q z => ?_, fun x env' cls d H' => E.ex σ x env' cls d H' (Pr.refl pr σ)⟩
    refine ⟨fun i m σ' H' => m = ds.length - i ∧ i ≤ ds.length ∧ ∃ env', Pr pr σ σ' ∧ OkS X.K H' σ' env' (T ++ R) ∧ wForL g b C CX (ds.drop i) env', ⟨ds.length, by simp, Nat.zero_le _, env', Pr.refl pr σ, q, z⟩, ?_⟩
    rintro i m σ1 H1 ⟨rfl, hi, env1, p1, o1, w1⟩
    have o1' := (rotTop.mp o1)
    by_cases hlt : i < ds.length
    · refine .inr ⟨it.go i H1 _ hlt o1'.2, fun σ' H' => i + 1 ≤ ds.length ∧ ∃ env', Pr pr σ σ' ∧ OkS X.K H' σ' env' (T ++ R) ∧ wForL g b C CX (ds.drop (i + 1)) env', fun σ' H' ⟨l, w⟩ => ⟨ds.length - (i + 1), by omega, rfl, l, w⟩, fun x H2 y => ?_⟩
      obtain ⟨d, e, o2⟩ := it.yld i H1 x H2 _ hlt o1'.2 y
      rw [drop_cons e] at w1
      have o3 : OkS X.K H2 σ1 env1 ((some x, some (.p d)) :: (T ++ R)) := (rotTop (T := (some x, some (.p d)) :: T)).mpr ⟨o1.1, o2⟩
      refine ⟨env1, T ++ R, _, _, o3, w1, fun s2 H3 e3 p2 o z => ⟨e3, T ++ R, _, CX, o, z, ?_⟩⟩
      have p12 := p1.trans p2
      refine ⟨fun s4 H4 e4 p o z => ⟨hlt, e4, p12.trans p, o, z⟩, fun s4 v H4 m e4 p o z => E.rt s4 v H4 m e4 (p12.trans p) ?_ z, fun s4 H4 e4 p o z => E.nx s4 H4 e4 (p12.trans p) o.popRs z, fun s4 H4 e4 p o z => ⟨hlt, e4, p12.trans p, o, z⟩, fun s4 x e4 cls d H4 p o z => E.ex s4 x e4 cls d H4 (p12.trans p) o.popRs z⟩
      exact (o.permR (perm_mid T R (some v, some m)).symm).popRs (R := (some v, some m) :: R)
    · have e : i = ds.length := by omega
      subst e
      rw [List.drop_length] at w1
      exact .inl ⟨it.stop H1 _ o1'.2, E.nx σ1 H1 env1 p1 o1.popRs w1⟩

/-! ### comprehensions -/
def wipeE (env : Env) : List Nat → Env
  | [] => env
  | v :: vs => (wipeE env vs).set v none
def backE (old : Env) : List Nat → Env → Env
  | [], env => env
  | v :: vs, env => (backE old vs env).set v (old.getD v none)
def wYes : WT := fun e C _ => C true e
def wLcL (own : List Nat) (g : WG) (t : WT) (we : WE) (C : List D → Env → Prop) : List D → List D → Env → Prop
  | [], acc, e => C acc e
  | d :: ds, acc, e => g (.p d) e (fun e2 => t e2 (fun b e3 => if b = true then we e3 (fun m e4 => match m.fz with
      | some z => acc.length < 100000 ∧ wLcL own g t we C ds (acc ++ [z]) (wipeE e4 own)
      | none => False) (fun _ _ => False) else wLcL own g t we C ds acc (wipeE e3 own)) (fun _ _ => False))
def wLc (own : List Nat) (wi : WI) (g : WG) (t : WT) (we : WE) : WE := fun e C X => wi e (fun ds e1 => wLcL own g t we (fun acc e2 => C (.l acc) (backE e1 own e2)) ds [] (wipeE e1 own)) X
end
end BV

namespace BV
open PySem L2

section
variable {K : PySem.W.Frag} {H : Hp} {σ : L2.St} {env : Env} {R : List Ent} {i : Nat}
theorem OkS.assignE {x : Option V} {y : Option M} (o : OkS K H σ env ((x, y) :: R)) (hi : i < env.length) : OkS K H (σ.set i x) (env.set i y) R := by
  have hi' : i < (σ.zip env).length := by rw [List.length_zip, o.1]; omega
  have hz : (σ.zip env)[i]? = some (σ.zip env)[i] := List.getElem?_eq_getElem hi'
  have q := o.topR.perm (((perm_get hz).append_right R).cons _)
  exact OkS.put o.1 hi (q.perm (.swap _ _ _)).tail
theorem OkS.takeOut (o : OkS K H σ env R) (i : Nat) : OkS K H (σ.set i none) (env.set i none) ((σ.getD i none, env.getD i none) :: R) := by
  by_cases hi : i < env.length
  · have hs : i < σ.length := by rw [o.1]; exact hi
    have hz : (σ.zip env)[i]? = some (σ[i], env[i]) := zip_get (List.getElem?_eq_getElem hs) (List.getElem?_eq_getElem hi)
    have q := o.2.perm ((perm_get hz).append_right R)
    have e1 : σ.getD i none = σ[i] := by simp [List.getD, List.getElem?_eq_getElem hs]
    have e2 : env.getD i none = env[i] := by simp [List.getD, List.getElem?_eq_getElem hi]
    rw [e1, e2]
    exact OkS.put o.1 hi ((Ok.pushN q).perm ((perm_mid ((σ.zip env).eraseIdx i) R _).symm.cons _))
  · have hs : ¬ i < σ.length := by rw [o.1]; exact hi
    have e1 : σ.getD i none = none := by simp [List.getD, List.getElem?_eq_none (Nat.le_of_not_lt hs)]
    have e2 : env.getD i none = none := by simp [List.getD, List.getElem?_eq_none (Nat.le_of_not_lt hi)]
    rw [e1, e2, List.set_eq_of_length_le (Nat.le_of_not_lt hs), List.set_eq_of_length_le (Nat.le_of_not_lt hi)]
    exact o.pushR fun q => q.pushN
theorem OkS.putBack {env0 : Env} (o : OkS K H (σ.set i none) env ((σ.getD i none, env0.getD i none) :: R)) (hl : env0.length = env.length) : OkS K H σ (env.set i (env0.getD i none)) R := by
  have l1 : σ.length = env.length := by have := o.1; simpa using this
  by_cases hi : i < env.length
  · have hs : i < σ.length := by rw [l1]; exact hi
    have q := o.assignE hi
    have e1 : σ.getD i none = σ[i] := by simp [List.getD, List.getElem?_eq_getElem hs]
    rw [e1, List.set_set, List.set_getElem_self] at q
    exact q
  · have hs : ¬ i < σ.length := by rw [l1]; exact hi
    rw [List.set_eq_of_length_le (Nat.le_of_not_lt hi)]
    have q := o.popR
    rw [List.set_eq_of_length_le (Nat.le_of_not_lt hs)] at q
    exact q
def saved (σ : L2.St) (env : Env) : List Nat → List Ent
  | [] => []
  | v :: vs => (σ.getD v none, env.getD v none) :: saved σ env vs
theorem wipeE_out : ∀ {vs : List Nat} {i : Nat}, i ∉ vs → (wipeE env vs)[i]? = env[i]?
  | [], _, _ => rfl
  | v :: vs, i, h => by
    have h1 : i ≠ v := fun e => h (by simp [e])
    show ((wipeE env vs).set v none)[i]? = _
    rw [List.getElem?_set_ne h1.symm, wipeE_out fun q => h (List.mem_cons_of_mem _ q)]
theorem wipe_outS : ∀ {vs : List Nat} {i : Nat}, i ∉ vs → (wipe σ vs)[i]? = σ[i]?
  | [], _, _ => rfl
  | v :: vs, i, h => by
    have h1 : i ≠ v := fun e => h (by simp [e])
    show ((wipe σ vs).set v none)[i]? = _
    rw [List.getElem?_set_ne h1.symm, wipe_outS fun q => h (List.mem_cons_of_mem _ q)]
theorem wipeE_len : ∀ {vs : List Nat}, (wipeE env vs).length = env.length
  | [] => rfl
  | v :: vs => by
    show ((wipeE env vs).set v none).length = _
    rw [List.length_set, wipeE_len]
theorem wipe_ok (o : OkS K H σ env R) : ∀ {vs : List Nat}, vs.Nodup → OkS K H (wipe σ vs) (wipeE env vs) (saved σ env vs ++ R)
  | [], _ => o
  | v :: vs, nd => by
    obtain ⟨n1, n2⟩ := List.nodup_cons.mp nd
    have q := (wipe_ok o n2).takeOut v
    have e1 : (wipe σ vs).getD v none = σ.getD v none := by simp [List.getD, wipe_outS n1]
    have e2 : (wipeE env vs).getD v none = env.getD v none := by simp [List.getD, wipeE_out n1]
    rw [e1, e2] at q
    exact q
theorem wipe_drop (o : OkS K H σ env R) {vs : List Nat} (nd : vs.Nodup) : OkS K H (wipe σ vs) (wipeE env vs) R := (wipe_ok o nd).popRs
theorem back_ok {env0 : Env} : ∀ {vs : List Nat} {env : Env}, vs.Nodup → env0.length = env.length → OkS K H (wipe σ vs) env (saved σ env0 vs ++ R) → OkS K H σ (backE env0 vs env) R
  | [], _, _, _, o => o
  | v :: vs, env, nd, hl, o => by
    obtain ⟨n1, n2⟩ := List.nodup_cons.mp nd
    have e1 : (wipe σ vs).getD v none = σ.getD v none := by simp [List.getD, wipe_outS n1]
    have o : OkS K H ((wipe σ vs).set v none) env (((wipe σ vs).getD v none, env0.getD v none) :: (saved σ env0 vs ++ R)) := by rw [e1]; exact o
    have q := back_ok (env := env.set v (env0.getD v none)) n2 (by simp [hl]) (o.putBack hl)
    have comm : ∀ (ws : List Nat) (e : Env) (y : Option M), v ∉ ws → backE env0 ws (e.set v y) = (backE env0 ws e).set v y := by
      intro ws
      induction ws with
      | nil => intro e y _; rfl
      | cons u us ih =>
        intro e y h
        show (backE env0 us (e.set v y)).set u _ = ((backE env0 us e).set u _).set v y
        rw [ih e y fun q => h (List.mem_cons_of_mem _ q), List.set_comm _ _ fun q => h (by simp [q])]
    rw [comm vs env _ n1] at q
    exact q
theorem wipe_all {a b : L2.St} (hl : a.length = b.length) : ∀ {vs : List Nat}, (∀ i, i ∉ vs → a[i]? = b[i]?) → wipe a vs = wipe b vs := by
  intro vs h
  refine List.ext_getElem? fun i => ?_
  by_cases hi : i ∈ vs
  · have key : ∀ (c : L2.St) (ws : List Nat), i ∈ ws → (wipe c ws)[i]? = if i < c.length then some none else none := by
      intro c ws
      induction ws with
      | nil => intro h; simp at h
      | cons u us ih =>
        intro h
        show ((wipe c us).set u none)[i]? = _
        by_cases e : u = i
        · subst e
          rw [List.getElem?_set]
          simp [wipe_length]
        · rw [List.getElem?_set_ne e]
          exact ih ((List.mem_cons.mp h).resolve_left (Ne.symm e))
    rw [key a vs hi, key b vs hi, hl]
  · rw [wipe_outS hi, wipe_outS hi]
    exact h i hi
end
section
variable {X : Cx} {W : WX} {K : PySem.W.Frag} {σ : L2.St} {H : Hp} {pos : Pos}
abbrev W0 : WX := fun _ _ _ _ => False
abbrev prO (vs : List Nat) : Nat → Bool := fun i => !vs.contains i
theorem _root_.L2.PTs.wk {e : List Expr} {t t' : TT} (h : PTs X e t) (k : ∀ σ H Q, t' σ H Q → t σ H Q) : PTs X e t' := ⟨fun pins s σ H Q I q => h.run pins s σ H Q I (k σ H Q q)⟩
theorem bts_nil : PTs X [] (tT X.K W wYes) := pts_nil.wk fun σ H Q ⟨env, R, C, CX, ok, h, hQ, hX⟩ => hQ true H env ok h
theorem bts_one {c : Expr} {t : WT} (h : PT X c (tT X.K W t)) : PTs X [c] (tT X.K W t) := pts_one h
theorem pr_wipe {own : List Nat} {σ2 : L2.St} (p : Pr (prO own) (wipe σ own) σ2) : wipe σ2 own = wipe σ own := by
  refine wipe_all (by rw [p.1, wipe_length]) fun i hi => ?_
  rw [p.2 i (by simp [prO, hi]), wipe_outS hi]
theorem appD {F : Hp} {A : List Addr} {D : Addr} {acc : List L2.V → Prop} {y : V} {z : BV.D} {ds : List BV.D} {L : List Ent} (o : Op K F H ((some y, some (.p z)) :: (some (.ref D), some (.l ds)) :: L) A) :
    ∃ xs, H D = some (.lst xs) ∧ xs.length = ds.length ∧ ∃ A', Op K F (upd H D (.lst (xs ++ [y]))) ((some (.ref D), some (.l (ds ++ [z]))) :: L) A' := by
  obtain ⟨_, A2, rfl, r1, o2, _⟩ := o.head
  obtain ⟨A3, A4, rfl, r2, o3, dj⟩ := o2.head
  cases r1 with
  | p r1 =>
    cases r2 with
    | @l _ xs _ hd r2 =>
      have hF : F D = none := o2.fr D (List.mem_append_left _ (by simp))
      exact ⟨xs, hd, r2.length, _, Op.write (A1 := []) (m := .l ds) o3.sub o3 dj (by simp) (fun x hx => by
        have : x = D := by simpa using hx
        rw [this]; exact hF) (.l upd_same (r2.append (.cons r1 .nil)))⟩
theorem tE_lc {own : List Nat} {wi : WI} {g : WG} {t : WT} {we : WE} {Q : VK} (nd : own.Nodup) (h : tE K W (wLc own wi g t we) σ H Q) : tLc (tI K W wi) (tG K (prO own) g) (tT K W0 t) (tE K W0 we) own σ H Q := by
  obtain ⟨env, R, C, CX, ok, h, hQ, hX⟩ := h
  refine ⟨env, R, _, CX, ok, h, fun J T ds H1 env1 it q z => fun D hD => ?_, hX⟩
  let sv := saved σ env1 own
  let Dp : List BV.D → Ent := fun acc => (some (.ref D), some (.l acc))
  let C' : List BV.D → Env → Prop := fun acc e2 => C (.l acc) (backE env1 own e2)
  have q0 : OkS K (upd H1 D (.lst [])) (wipe σ own) (wipeE env1 own) (T ++ (Dp [] :: (sv ++ R))) := by
    have q1 : OkS K H1 (wipe σ own) (wipeE env1 own) (sv ++ (T ++ R)) := wipe_ok q nd
    obtain ⟨hl, F, A, o⟩ := q1
    have q2 : OkS K (upd H1 D (.lst [])) (wipe σ own) (wipeE env1 own) (Dp [] :: (sv ++ (T ++ R))) := OkS.ofTop hl ⟨F, _, o.newL .nil hD⟩
    refine q2.permR ?_
    refine List.Perm.trans ?_ (List.perm_middle (l₁ := T) (a := Dp [])).symm
    refine List.Perm.cons _ ?_
    rw [← List.append_assoc, ← List.append_assoc]
    exact List.perm_append_comm.append_right R
  refine ⟨fun i m H' => m = ds.length - i ∧ i ≤ ds.length ∧ ∃ acc env', env'.length = env1.length ∧ OkS K H' (wipe σ own) env' (T ++ (Dp acc :: (sv ++ R))) ∧ wLcL own g t we C' (ds.drop i) acc env', ⟨ds.length, by simp, Nat.zero_le _, [], _, wipeE_len, q0, z⟩, ?_⟩
  rintro i m H2 ⟨rfl, hi, acc, env2, l2, o2, w2⟩
  have o2' := rotTop.mp o2
  by_cases hlt : i < ds.length
  · refine .inr ⟨it.go i H2 _ hlt o2'.2, fun H' => i + 1 ≤ ds.length ∧ ∃ acc env', env'.length = env1.length ∧ OkS K H' (wipe σ own) env' (T ++ (Dp acc :: (sv ++ R))) ∧ wLcL own g t we C' (ds.drop (i + 1)) acc env', fun H' ⟨l, w⟩ => ⟨ds.length - (i + 1), by omega, rfl, l, w⟩, fun x H3 y => ?_⟩
    obtain ⟨d, e, o3⟩ := it.yld i H2 x H3 _ hlt o2'.2 y
    rw [drop_cons e] at w2
    have o3 : OkS K H3 (wipe σ own) env2 ((some x, some (.p d)) :: (T ++ (Dp acc :: (sv ++ R)))) := (rotTop (T := (some x, some (.p d)) :: T)).mpr ⟨o2.1, o3⟩
    refine ⟨env2, _, _, _, o3, w2, fun s4 H4 e4 p4 o4 z4 => ⟨pr_wipe p4, e4, _, _, _, o4, z4, fun b H5 e5 o5 z5 => ?_, fun _ _ _ _ _ _ h => h⟩⟩
    have len5 : ∀ {H' : Hp} {e' : Env} {R' : List Ent}, OkS K H' s4 e' R' → e'.length = env1.length := fun {H' e' R'} o => by
      rw [← o.1, p4.1, wipe_length, q.1]
    cases b with
    | false =>
      refine iteF ?_
      have o6 := wipe_drop o5 nd
      rw [pr_wipe p4] at o6
      exact ⟨hlt, acc, _, by rw [wipeE_len]; exact len5 o5, o6, z5⟩
    | true =>
      refine iteT ?_
      refine ⟨e5, _, _, _, o5, z5, fun v H6 m e6 o6 z6 => ?_, fun _ _ _ _ _ _ h => h⟩
      split at z6
      · rename_i zd hz
        obtain ⟨z6, z7⟩ := z6
        have o7 := o6.freezeR hz
        have p8 : ((some v, some (M.p zd)) :: (T ++ (Dp acc :: (sv ++ R)))).Perm ((some v, some (M.p zd)) :: Dp acc :: (T ++ (sv ++ R))) := List.Perm.cons _ List.perm_middle
        obtain ⟨l8, o8⟩ := o7.permR p8
        have p9 : (s4.zip e6 ++ ((some v, some (M.p zd)) :: Dp acc :: (T ++ (sv ++ R)))).Perm ((some v, some (M.p zd)) :: Dp acc :: (s4.zip e6 ++ (T ++ (sv ++ R)))) :=
          List.perm_middle.trans (List.Perm.cons _ List.perm_middle)
        obtain ⟨F, A, o9⟩ := o8.perm p9
        obtain ⟨xs, hx, hxl, A', o10⟩ := appD (acc := fun _ => True) o9
        refine ⟨xs, hx, by rw [hxl]; exact Nat.lt_of_lt_of_le z6 (by decide), hlt, acc ++ [zd], wipeE e6 own, by rw [wipeE_len]; exact len5 o6, ?_, z7⟩
        have o11 : OkS K (upd H6 D (.lst (xs ++ [v]))) s4 e6 (T ++ (Dp (acc ++ [zd]) :: (sv ++ R))) :=
          (OkS.ofTop l8 ⟨F, A', o10⟩).permR List.perm_middle.symm
        have o12 := wipe_drop o11 nd
        rw [pr_wipe p4] at o12
        exact o12
      · exact z6.elim
  · have e : i = ds.length := by omega
    subst e
    rw [List.drop_length] at w2
    refine .inl ⟨it.stop H2 _ o2'.2, ?_⟩
    have o3 : OkS K H2 (wipe σ own) env2 (Dp acc :: (sv ++ R)) := o2.popRs
    have o4 : OkS K H2 (wipe σ own) env2 (sv ++ (Dp acc :: R)) := o3.permR List.perm_middle.symm
    exact hQ _ H2 _ _ (back_ok nd l2.symm o4) w2
theorem be_lc {elt tg iter : Expr} {ifs : List Expr} {scope : Scope} {own : List (Str × Nat)} {vs : List Nat} {wi : WI} {g : WG} {t : WT} {we : WE} (hc : X.calm = true) (hN : X.N.Nodup) (hi : PI X tg iter (tI X.K W wi)) (ok : BlkOk X.N X.env.scope scope own) (hv : own.map (·.2) = vs) (nd : vs.Nodup)
    (hg : ∀ (s : Shared) (H : Hp) (C : Addr) (cl : List (Str × Addr)) (fp : List Addr), PG (X.blk s H scope (compEnvC scope cl C X.env) fp) tg (tG X.K (prO vs) g)) (ht : ∀ (s : Shared) (H : Hp) (C : Addr) (cl : List (Str × Addr)) (fp : List Addr), PTs (X.blk s H scope (compEnvC scope cl C X.env) fp) ifs (tT X.K W0 t))
    (he : ∀ (s : Shared) (H : Hp) (C : Addr) (cl : List (Str × Addr)) (fp : List Addr), PE (X.blk s H scope (compEnvC scope cl C X.env) fp) elt (tE X.K W0 we)) (hs : ∀ x, foldedSetIterable iter X.env x = pure x := by intro _; rfl) :
    PE X (.ListComp elt [⟨tg, iter, ifs, 0⟩] scope pos) (tE X.K W (wLc vs wi g t we)) := by
  subst hv
  exact (pe_lc hc hN hi ok hg ht he hs).wk fun σ H Q q => tE_lc nd q
theorem bs_setLc {pr : Nat → Bool} {i : Nat} {y : Str} {py : Pos} {elt tg iter : Expr} {ifs : List Expr} {scope : Scope} {own : List (Str × Nat)} {vs : List Nat} {spos : Pos} {wi : WI} {g : WG} {t : WT} {we : WE} (hc : X.calm = true) (hN : X.N.Nodup) (hy : X.N[i]? = some y) (hyl : X.env.scope.names.lookup y = some .local)
    (hsw : swapsWith (.ListComp elt [⟨tg, iter, ifs, 0⟩] scope pos) (some (.Name y py)) spos.line X.env = pure true) (hi : PI X tg iter (tI X.K W wi)) (ok : BlkOk X.N X.env.scope scope own) (hv : own.map (·.2) = vs) (nd : vs.Nodup)
    (hg : ∀ (s : Shared) (H : Hp) (C : Addr) (cl : List (Str × Addr)) (fp : List Addr), PG (X.blk s H scope (compEnvC scope cl C X.env) fp) tg (tG X.K (prO vs) g)) (ht : ∀ (s : Shared) (H : Hp) (C : Addr) (cl : List (Str × Addr)) (fp : List Addr), PTs (X.blk s H scope (compEnvC scope cl C X.env) fp) ifs (tT X.K W0 t))
    (he : ∀ (s : Shared) (H : Hp) (C : Addr) (cl : List (Str × Addr)) (fp : List Addr), PE (X.blk s H scope (compEnvC scope cl C X.env) fp) elt (tE X.K W0 we)) (hs : ∀ x, foldedSetIterable iter X.env x = pure x := by intro _; rfl) (hp : pr i = false := by rfl) :
    PS X (.Assign [.Name y py] (.ListComp elt [⟨tg, iter, ifs, 0⟩] scope pos) spos) (tS X.K W pr (wAsg (wLc vs wi g t we) (wgN i))) := by
  subst hv
  exact (ps_setLc hc hN hy hyl hsw hi ok hg ht he hs).wk fun D σ H ⟨env, R, C, CX, ok, h, E⟩ => by
    exact tE_lc nd ⟨env, R, _, CX, ok, h, fun v H' m env' q z => tG_N hp ⟨env', R, m, _, q, z, fun σ' H2 env2 p q2 z2 => E.nx σ' H2 env2 p q2 z2⟩, fun x env' cls d H' => E.ex σ x env' cls d H' (Pr.refl pr σ)⟩
end
end BV

namespace BV
open PySem L2 PyProof.Rows

/-! ### arguments are handed over, and come back -/
def takeM (env : Env) : List Opd → Option (List M × Env)
  | [] => some ([], env)
  | .inl i :: os => match env[i]? with
    | some (some (.p d)) => (takeM env os).map fun q => (.p d :: q.1, q.2)
    | some (some m) => (takeM (env.set i none) os).map fun q => (m :: q.1, q.2)
    | _ => none
  | .inr m :: os => (takeM env os).map fun q => (m :: q.1, q.2)
def putM (env : Env) : List Opd → List (Option M) → Env
  | .inl i :: os, o :: outs => putM (match env[i]? with | some none => env.set i o | _ => env) os outs
  | .inr _ :: os, _ :: outs => putM env os outs
  | _, _ => env
abbrev entsM (vs : List V) (os : List (Option M)) : List Ent := (vs.map some).zip os
section
variable {K : PySem.W.Frag} {σ : L2.St} {H : Hp}
theorem take_len : ∀ {os : List Opd} {env env' : Env} {ms : List M}, takeM env os = some (ms, env') → ms.length = os.length ∧ env'.length = env.length
  | [], _, _, _, h => by cases h; exact ⟨rfl, rfl⟩
  | .inl i :: os, env, env', ms, h => by
    unfold takeM at h
    split at h
    · obtain ⟨⟨ms1, e1⟩, h1, h2⟩ := Option.map_eq_some_iff.mp h
      cases h2
      have := take_len h1
      exact ⟨by simp [this.1], this.2⟩
    · obtain ⟨⟨ms1, e1⟩, h1, h2⟩ := Option.map_eq_some_iff.mp h
      cases h2
      have := take_len h1
      exact ⟨by simp [this.1], by simp [this.2]⟩
    · cases h
  | .inr m :: os, env, env', ms, h => by
    obtain ⟨⟨ms1, e1⟩, h1, h2⟩ := Option.map_eq_some_iff.mp (show (takeM env os).map (fun q => (m :: q.1, q.2)) = some (ms, env') from h)
    cases h2
    have := take_len h1
    exact ⟨by simp [this.1], this.2⟩
theorem take_ok : ∀ {os : List Opd} {vs : List V} {env env' : Env} {ms : List M} {R : List Ent}, OpdsR σ vs os → takeM env os = some (ms, env') → OkS K H σ env (temps vs os ++ R) → OkS K H σ env' (entsM vs (ms.map some) ++ R)
  | [], [], _, _, _, _, _, h, o => by cases h; exact o
  | .inl i :: os, v :: vs, env, env', ms, R, r, h, o => by
    obtain ⟨r1, r2⟩ := r
    have o : OkS K H σ env (temps vs os ++ R) := o
    unfold takeM at h
    split at h
    · rename_i d e
      obtain ⟨⟨ms1, e1⟩, h1, h2⟩ := Option.map_eq_some_iff.mp h
      cases h2
      obtain ⟨v', ev, q⟩ := o.get e
      rw [r1] at ev; cases ev
      have q2 := OkS.put' (R := (some v, some (.p d)) :: (temps vs os ++ R)) o.len r1 (q.dup.perm ((perm_mid ((some v, some (.p d)) :: (σ.zip env).eraseIdx i) (temps vs os ++ R) _).symm))
      rw [set_self e] at q2
      have q3 := take_ok r2 h1 (q2.permR (perm_mid (temps vs os) R _).symm)
      exact q3.permR (perm_mid _ R _)
    · rename_i m _ e
      obtain ⟨⟨ms1, e1⟩, h1, h2⟩ := Option.map_eq_some_iff.mp h
      cases h2
      obtain ⟨v', ev, q⟩ := o.get e
      rw [r1] at ev; cases ev
      have q2 := OkS.put' (R := (some v, some m) :: (temps vs os ++ R)) (y := none) o.len r1 ((Ok.pushN q).perm ((perm_mid ((σ.zip env).eraseIdx i) (temps vs os ++ R) _).symm.cons _))
      have q3 := take_ok r2 h1 (q2.permR (perm_mid (temps vs os) R _).symm)
      exact q3.permR (perm_mid _ R _)
    · cases h
  | .inr m :: os, v :: vs, env, env', ms, R, r, h, o => by
    obtain ⟨⟨ms1, e1⟩, h1, h2⟩ := Option.map_eq_some_iff.mp (show (takeM env os).map (fun q => (m :: q.1, q.2)) = some (ms, env') from h)
    cases h2
    have o : OkS K H σ env ((some v, some m) :: (temps vs os ++ R)) := o
    have q3 := take_ok (vs := vs) r h1 (o.permR (perm_mid (temps vs os) R _).symm)
    exact q3.permR (perm_mid _ R _)
  | [], _ :: _, _, _, _, _, r, _, _ => by simp [OpdsR] at r
  | _ :: _, [], _, _, _, _, r, _, _ => by simp [OpdsR] at r
theorem put_ok : ∀ {os : List Opd} {vs : List V} {outs : List (Option M)} {env : Env} {R : List Ent}, OpdsR σ vs os → OkS K H σ env (entsM vs outs ++ R) → OkS K H σ (putM env os outs) R
  | [], [], outs, env, R, _, o => by
    cases outs <;> exact o
  | .inl i :: os, v :: vs, [], env, R, _, o => o
  | .inr _ :: os, v :: vs, [], env, R, _, o => o
  | .inl i :: os, v :: vs, x :: outs, env, R, r, o => by
    obtain ⟨r1, r2⟩ := r
    have o : OkS K H σ env ((some v, x) :: (entsM vs outs ++ R)) := o
    unfold putM
    split
    · rename_i e
      have hi : i < env.length := (List.getElem?_eq_some_iff.mp e).1
      have q := o.assignE hi
      rw [set_self r1] at q
      exact put_ok r2 q
    · exact put_ok r2 o.popR
  | .inr m :: os, v :: vs, x :: outs, env, R, r, o => by
    have o : OkS K H σ env ((some v, x) :: (entsM vs outs ++ R)) := o
    exact put_ok (vs := vs) (os := os) r o.popR
  | [], _ :: _, _, _, _, r, _ => by simp [OpdsR] at r
  | _ :: _, [], _, _, _, r, _ => by simp [OpdsR] at r
theorem okS0 {R : List Ent} : OkS K H [] [] R ↔ Ok K H R := ⟨fun o => o.2, fun o => ⟨rfl, o⟩⟩
end

/-! ### what a def is worth, by values -/
abbrev WF := List M → (M → List (Option M) → Prop) → (Exn → List (Option M) → Prop) → Prop
def spF (K : PySem.W.Frag) (n : Nat) (sp : WF) : Sp := fun vs H Q E => vs.length = n ∧ ∃ (ms : List M) (R : List Ent) (C : M → List (Option M) → Prop) (CX : Exn → List (Option M) → Prop), ms.length = n ∧ Ok K H (entsM vs (ms.map some) ++ R) ∧ sp ms C CX ∧
  (∀ v H' r os, os.length = n → Ok K H' ((some v, some r) :: (entsM vs os ++ R)) → C r os → Q v H') ∧ (∀ x os cls d H', os.length = n → OkX K H' [] [] (entsM vs os ++ R) x cls d → CX x os → E cls d H')
/-- a def of the module by its name -/
def Fn (P : Program) (w : World) (K : PySem.W.Frag) (mg : Str → Option Value) (base : Heap) (x : Str) (k n : Nat) (sp : WF) : Prop :=
  ∃ (f : Addr) (fd : FuncData) (ps : List Str), FnOk P w K mg base (L2.CX P w) k f fd ps (spF K n sp) ∧ mg x = some (.ref f) ∧ PySem.W.keepIn K (.ref f) = true ∧ Binds K fd ps [] ∧ ps.length = n
theorem Fn.mono {P : Program} {w : World} {K : PySem.W.Frag} {mg : Str → Option Value} {base : Heap} {x : Str} {j k n : Nat} {sp : WF} (h : Fn P w K mg base x j n sp) (l : j ≤ k) : Fn P w K mg base x k n sp := by
  obtain ⟨f, fd, ps, F, r⟩ := h
  exact ⟨f, fd, ps, F.mono l, r⟩
/-- the same, said weaker -/
theorem Fn.imp {P : Program} {w : World} {K : PySem.W.Frag} {mg : Str → Option Value} {base : Heap} {x : Str} {k n : Nat} {sp sp' : WF} (h : Fn P w K mg base x k n sp) (i : ∀ ms C CX, sp' ms C CX → sp ms C CX) : Fn P w K mg base x k n sp' := by
  obtain ⟨f, fd, ps, F, r⟩ := h
  refine ⟨f, fd, ps, F.imp fun vs H Q E q => ?_, r⟩
  obtain ⟨h0, ms, R, C, CX, h1, h2, h3, h4⟩ := q
  exact ⟨h0, ms, R, C, CX, h1, h2, i _ _ _ h3, h4⟩
def wCall (n : Nat) (sp : WF) (was : WA) : BV.WE := fun e C X => was e (fun os e1 => match takeM e1 os with
  | some (ms, e2) => ms.length = n ∧ sp ms (fun r outs => C r (putM e2 os outs)) (fun x outs => X x (putM e2 os outs))
  | none => False) X
section
variable {X : Cx} {W : WX} {K : PySem.W.Frag} {σ : L2.St} {H : Hp} {pos : Pos}
theorem tA_call {n : Nat} {sp : WF} {was : WA} {Q : VK} (h : tE K W (wCall n sp was) σ H Q) : tA K W was σ H (fun vs H' => spF K n sp vs H' Q (L2.WE W σ)) := by
  obtain ⟨env, R, C, CX, ok, h, hQ, hX⟩ := h
  refine ⟨env, R, _, CX, ok, h, fun vs H1 os env1 r q z => ?_, hX⟩
  split at z
  · rename_i ms env2 e
    obtain ⟨hn, z⟩ := z
    have l0 : ∀ {vs : List V} {os : List Opd}, OpdsR σ vs os → vs.length = os.length := by
      intro vs
      induction vs with
      | nil => intro os r; cases os with
        | nil => rfl
        | cons => simp [OpdsR] at r
      | cons v vs ih => intro os r; cases os with
        | nil => simp [OpdsR] at r
        | cons o os =>
          cases o with
          | inl i => simp [ih r.2]
          | inr m => simp [ih (os := os) r]
    have l1 := take_len e
    have o2 := take_ok r e q
    have o3 := rotTop.mp o2
    refine ⟨by rw [l0 r, ← l1.1, hn], ms, σ.zip env2 ++ R, _, _, hn, o3.2, z, fun v H' m outs hlo o c => ?_, fun x outs cls d H' hlo o c => ?_⟩
    · refine hQ v H' m _ (put_ok (outs := outs) (R := (some v, some m) :: R) r ?_) c
      exact (OkS.permR (rotTop (T := (some v, some m) :: entsM vs outs).mpr ⟨o2.1, o⟩) (perm_mid _ R _).symm)
    · refine hX x _ cls d H' (o.map (σ' := σ) (env' := putM env2 os outs) (R' := R) fun T q => ?_) c
      have q1 : Ok K H' ((T ++ entsM vs outs) ++ (σ.zip env2 ++ R)) := by
        rw [List.append_assoc]; exact q.2
      have q2 := rotTop.mpr ⟨o2.1, q1⟩
      refine put_ok (outs := outs) (R := T ++ R) r (q2.permR ?_)
      rw [← List.append_assoc]
      exact List.perm_append_comm.append_right R
  · exact z.elim
theorem be_call {x : Str} {k j n : Nat} {sp : WF} {was : WA} {p : Pos} {e : Expr} {es : List Expr} (h : Fn X.prog X.w X.K X.mg X.base x k n sp) (hr : Room j X.A) (hk : k ≤ j) (tk : Takes X W) (hg : Gl X x) (ha : PA X (e :: es) (tA X.K W was))
    (hdb : (x == ("__debug__" : Str)) = false := by decide) (he : starEach (e :: es) X.env = (false, eval e X.env) :: starEach es X.env := by rfl) (hpl : (backTo pos (starEach es X.env)).any (·.1) = false := by rfl) :
    PE X (.Call (.Name x p) (e :: es) [] pos) (tE X.K W (wCall n sp was)) := by
  obtain ⟨f, fd, ps, F, hm, hkp, hb, _⟩ := h
  exact (pe_callS F (hr.mono hk) hg hm hkp hb (passAt tk) ha hdb he hpl).wk fun σ H Q q => tA_call q
theorem be_call0 {x : Str} {k j : Nat} {sp : WF} {p : Pos} (h : Fn X.prog X.w X.K X.mg X.base x k 0 sp) (hr : Room j X.A) (hk : k ≤ j) (hg : Gl X x) (hx : Passes (L2.CX X.prog X.w) X E0)
    (hdb : (x == ("__debug__" : Str)) = false := by decide) : PE X (.Call (.Name x p) [] [] pos) (tE X.K W (fun e C _ => sp [] (fun r _ => C r e) (fun _ _ => False))) := by
  obtain ⟨f, fd, ps, F, hm, hkp, hb, _⟩ := h
  refine (pe_call0 F (hr.mono hk) hg hm hkp hb .nil hx hdb).wk fun σ H Q q => ?_
  obtain ⟨env, R, C, CX, ok, h, hQ, hX⟩ := q
  refine ⟨rfl, [], σ.zip env ++ R, _, _, rfl, ok.2, h, fun v H' m outs hlo o c => hQ v H' m env (OkS.ofTop ok.1 ?_) c, fun x outs cls d H' hlo o c => c.elim⟩
  have : outs = [] := List.length_eq_zero_iff.mp hlo
  subst this
  exact o

/-! ### a def's body -/
def outs (pr : Nat → Bool) (n : Nat) (e : Env) : List (Option M) := (List.range n).map fun i => if pr i = true then e.getD i none else none
theorem Ok.le : ∀ {L' L Z : List Ent}, (∀ (i : Nat) e', L'[i]? = some e' → e'.2 = none ∨ L[i]? = some e') → Ok K H (L ++ Z) → Ok K H (L' ++ Z)
  | [], L, Z, _, o => o.dropAll
  | e' :: r', [], Z, h, o => by
    have h0 : e'.2 = none := (h 0 e' rfl).resolve_right (by simp)
    obtain ⟨x, y⟩ := e'
    have h0 : y = none := h0
    subst h0
    exact Ok.pushN (Ok.le (L' := r') (L := []) (fun i e q => .inl ((h (i + 1) e (by simpa using q)).resolve_right (by simp))) o)
  | e' :: r', e :: r, Z, h, o => by
    have step : ∀ (i : Nat) u, r'[i]? = some u → u.2 = none ∨ r[i]? = some u := fun i u q => by simpa using h (i + 1) u (by simpa using q)
    rcases h 0 e' rfl with h0 | h0
    · obtain ⟨x, y⟩ := e'
      have h0 : y = none := h0
      subst h0
      exact Ok.pushN (Ok.le step (show Ok K H (e :: (r ++ Z)) from o).tail)
    · have e0 : e = e' := by simpa using h0
      subst e0
      have p1 : (e :: (r ++ Z)).Perm (r ++ (e :: Z)) := List.perm_middle.symm
      have o1 := Ok.le (L' := r') (L := r) (Z := e :: Z) step (Ok.perm o p1)
      exact o1.perm List.perm_middle
theorem outs_ok {pr : Nat → Bool} {vs : List V} {N : List Str} {σ' : L2.St} {env' : Env} {T R : List Ent} (hN : vs.length ≤ N.length) (p : Pr pr (start N vs) σ') (o : OkS K H σ' env' (T ++ R)) : Ok K H (T ++ (entsM vs (outs pr vs.length env') ++ R)) := by
  have o1 := o.2
  have q : Ok K H (entsM vs (outs pr vs.length env') ++ (T ++ R)) := by
    refine Ok.le (fun i e' he => ?_) o1
    have hi : i < vs.length := by
      have := (List.getElem?_eq_some_iff.mp he).1
      rw [List.length_zip, List.length_map] at this
      omega
    rw [List.getElem?_zip_eq_some] at he
    obtain ⟨h1, h2⟩ := he
    unfold outs at h2
    rw [List.getElem?_map, List.getElem?_range hi] at h2
    have h2 : (if pr i = true then env'.getD i none else none) = e'.2 := by simpa using h2
    by_cases hp : pr i = true
    · rw [if_pos hp] at h2
      have hs : σ'[i]? = some e'.1 := by
        rw [p.2 i hp]
        unfold L2.start
        rw [List.getElem?_append_left (by simpa using hi)]
        exact h1
      have hi2 : i < env'.length := by rw [← o.1]; exact (List.getElem?_eq_some_iff.mp hs).1
      refine .inr ?_
      have : env'[i]? = some e'.2 := by
        rw [← h2]; simp [List.getD, List.getElem?_eq_getElem hi2]
      exact zip_get hs this
    · rw [if_neg hp] at h2
      exact .inl h2.symm
  have p2 : (entsM vs (outs pr vs.length env') ++ (T ++ R)).Perm (T ++ (entsM vs (outs pr vs.length env') ++ R)) := by
    rw [← List.append_assoc, ← List.append_assoc]
    exact List.perm_append_comm.append_right R
  exact q.perm p2
theorem outs_len {pr : Nat → Bool} {n : Nat} {e : Env} : (outs pr n e).length = n := by simp [outs]
def env0 (N : List Str) (ms : List M) : Env := ms.map some ++ List.replicate (N.length - ms.length) none
def bodyK (pr : Nat → Bool) (n : Nat) (C : M → List (Option M) → Prop) : KS := { nx := fun e => C (.p .non) (outs pr n e), rt := fun m e => C m (outs pr n e), bk := fun _ => False, ct := fun _ => False }
theorem start_ok {N : List Str} {vs : List V} {ms : List M} {R : List Ent} (hl : ms.length = vs.length) (o : Ok K H (entsM vs (ms.map some) ++ R)) : OkS K H (start N vs) (env0 N ms) R := by
  refine ⟨by simp [L2.start, env0, hl], ?_⟩
  unfold L2.start env0
  rw [List.zip_append (by simp [hl]), List.append_assoc, hl]
  have go : ∀ (n : Nat) (Z : List Ent), Ok K H Z → Ok K H ((List.replicate n (none : Option V)).zip (List.replicate n (none : Option M)) ++ Z) := by
    intro n
    induction n with
    | zero => intro Z o; exact o
    | succ n ih => intro Z o; exact Ok.pushN (ih Z o)
  have p : (entsM vs (ms.map some) ++ ((List.replicate (N.length - vs.length) (none : Option V)).zip (List.replicate (N.length - vs.length) (none : Option M)) ++ R)).Perm
      ((List.replicate (N.length - vs.length) (none : Option V)).zip (List.replicate (N.length - vs.length) (none : Option M)) ++ (entsM vs (ms.map some) ++ R)) := by
    rw [← List.append_assoc, ← List.append_assoc]
    exact List.perm_append_comm.append_right R
  exact (go _ _ o).perm p.symm
end
section
variable {P : Program} {w : World} {K : PySem.W.Frag} {mg : Str → Option Value} {base : Heap}
/-- THE RULE for a def -/
theorem fn_ok {x qual : Str} {st : Stmt} {f : Addr} {fd : FuncData} {N ps : List Str} {k n : Nat} {sp : WF} {wb : WS} {pr : Nat → Bool} (F : Fun K x qual st f fd) (S : FnScope N ps (defScope st)) (hn : ps.length = n) (hN : n ≤ N.length)
    (hb : ∀ (cdv : Value) (A : Around) (outer : List PySem.Env) (s : Shared) (H : Hp) (E : XK), Room k (A.deeper (envOfC qual (defScope st) s.heap.objs.size f cdv)) →
      PSs (cxOf (L2.CX P w) P w K mg base N qual (defScope st) f cdv A outer s H E) (defBody st) (tS K (fun c d _ H => E c d H) pr wb))
    (hw : ∀ ms C CX, ms.length = n → sp ms C CX → wb (env0 N ms) (bodyK pr n C) (fun x e => CX x (outs pr n e))) : FnOk P w K mg base (L2.CX P w) (k + 1) f fd ps (spF K n sp) := by
  refine F.okX S (fun vs H Q E h => by rw [h.1, hn]) fun cdv A outer s H vs Q E hr h => ?_
  obtain ⟨h0, ms, R, C, CX, h1, h2, h3, h4, h5⟩ := h
  subst h0
  refine ⟨_, hb cdv A outer s H E hr, env0 N ms, R, _, _, start_ok h1 h2, hw ms C CX h1 h3, ?_⟩
  refine ⟨fun σ' H' env' p o c => ?_, fun σ' v H' m env' p o c => ?_, fun _ _ _ _ _ c => c.elim, fun _ _ _ _ _ c => c.elim, fun σ' x env' cls d H' p o c => ?_⟩
  · exact h4 _ H' _ _ outs_len (outs_ok (T := [(some V.non, some (M.p D.non))]) hN p (o.atom fun _ => .non)) c
  · exact h4 v H' m _ outs_len (outs_ok (T := [(some v, some m)]) hN p o) c
  · exact h5 x _ cls d H' outs_len (o.map fun T q => okS0.mpr (outs_ok hN p q)) c
end
end BV

namespace BV
open PySem L2 PyProof.Rows

/-! ### what is walked -/
section
variable {X : Cx} {W : WX} {K : PySem.W.Frag} {σ : L2.St} {H : Hp} {pos : Pos}
theorem pi_seqA {tg l : Expr} {tl : TE} (hl : PE X l tl) : PI X tg l (fun σ H R => tl σ H fun x H1 => ∃ a, x = .ref a ∧ (((∃ xs, SqL X.K H1 a xs) ∧ R (Itl X.K a) H1) ∨ ((∃ xs, SqT X.K H1 a xs) ∧ R (Itt X.K a) H1))) := by
  refine ⟨fun pins s σ H R I h => ?_⟩
  refine thn (hl.run pins s σ H _ I h) fun v s1 ⟨x, H1, I1, r1, q1⟩ => ?_
  obtain ⟨a, e, q1⟩ := q1
  subst e
  cases r1
  rcases q1 with ⟨⟨xs, hq⟩, q⟩ | ⟨⟨xs, hq⟩, q⟩
  · obtain ⟨its, rv, p, hz⟩ := I1.list hq
    refine wpAny_pyIter_list p.isList ?_
    refine ⟨s1.heap.objs.size, [s1.heap.objs.size], _, _, H1, rfl, I1.kept (t' := s1.toks) fun b o e => Heap.get?_push_of_some _ e, turn_list a _, ⟨_, Heap.get?_push_size _ rfl, rfl, rfl⟩, fun b hb => ?_, q⟩
    have e : b = s1.heap.objs.size := by simpa using hb
    subst e
    exact I1.fpOk (Nat.le_refl _) (I1.hok.fresh (Nat.le_refl _))
  · obtain ⟨its, rv, p, hz⟩ := I1.tuple hq
    refine wpAny_pyIter_tuple (show s1.heap.IsTuple a its.toArray from p) ?_
    refine ⟨s1.heap.objs.size, [s1.heap.objs.size], _, _, H1, rfl, I1.kept (t' := s1.toks) fun b o e => Heap.get?_push_of_some _ e, turn_tuple a _, ⟨_, Heap.get?_push_size _ rfl, rfl, rfl⟩, fun b hb => ?_, q⟩
    have e : b = s1.heap.objs.size := by simpa using hb
    subst e
    exact I1.fpOk (Nat.le_refl _) (I1.hok.fresh (Nat.le_refl _))
theorem itl_ok {a : Addr} {d : D} {ds : List D} (hd : d = .lst ds ∨ d = .fl ds) : ItOk K (Itl K a) [(some (.ref a), some (.p d))] ds := by
  have key : ∀ {H : Hp} {L : List Ent}, Ok K H ([(some (.ref a), some (.p d))] ++ L) → ∃ F A xs, Op K F H ((some (.ref a), some (.p d)) :: L) A ∧ SqL K H a xs ∧ RpA K F xs ds := fun {H L} ⟨F, A, o⟩ => by
    obtain ⟨_, _, _, r, _, _⟩ := Op.head (L := L) o
    cases r with
    | p r =>
      rcases hd with rfl | rfl
      · cases r with
        | lst h ra => exact ⟨F, A, _, o, SqL.of (o.sub _ _ h), ra⟩
      · cases r with
        | fl h ra => exact ⟨F, A, _, o, sqL_sub o.sub h, ra⟩
  refine ⟨fun i H L hi o => ?_, fun H L o => ?_, fun i H x H' L hi o y => ?_⟩
  · obtain ⟨F, A, xs, _, hs, ra⟩ := key o
    obtain ⟨v, hv, _⟩ := ra.get (List.getElem?_eq_getElem hi)
    exact ⟨xs, v, hs, hv⟩
  · obtain ⟨F, A, xs, _, hs, ra⟩ := key o
    exact ⟨xs, hs, by rw [ra.length]; exact Nat.le_refl _⟩
  · obtain ⟨F, A, xs, op, hs, ra⟩ := key o
    obtain ⟨v, hv, r⟩ := ra.get (List.getElem?_eq_getElem hi)
    obtain ⟨e, y⟩ := y
    subst e
    have := y xs hs
    rw [hv] at this; cases this
    exact ⟨ds[i], List.getElem?_eq_getElem hi, F, A, op.pushP r⟩
theorem itt_ok {a : Addr} {ds : List D} : ItOk K (Itt K a) [(some (.ref a), some (.p (.tup ds)))] ds := by
  have key : ∀ {H : Hp} {L : List Ent}, Ok K H ([(some (.ref a), some (.p (.tup ds)))] ++ L) → ∃ F A xs, Op K F H ((some (.ref a), some (.p (.tup ds))) :: L) A ∧ SqT K H a xs ∧ RpA K F xs ds := fun {H L} ⟨F, A, o⟩ => by
    obtain ⟨_, _, _, r, _, _⟩ := Op.head (L := L) o
    cases r with
    | p r =>
      cases r with
      | tup h ra => exact ⟨F, A, _, o, sqT_sub o.sub h, ra⟩
  refine ⟨fun i H L hi o => ?_, fun H L o => ?_, fun i H x H' L hi o y => ?_⟩
  · obtain ⟨F, A, xs, _, hs, ra⟩ := key o
    obtain ⟨v, hv, _⟩ := ra.get (List.getElem?_eq_getElem hi)
    exact ⟨xs, v, hs, hv⟩
  · obtain ⟨F, A, xs, _, hs, ra⟩ := key o
    exact ⟨xs, hs, by rw [ra.length]; exact Nat.le_refl _⟩
  · obtain ⟨F, A, xs, op, hs, ra⟩ := key o
    obtain ⟨v, hv, r⟩ := ra.get (List.getElem?_eq_getElem hi)
    obtain ⟨e, y⟩ := y
    subst e
    have := y xs hs
    rw [hv] at this; cases this
    exact ⟨ds[i], List.getElem?_eq_getElem hi, F, A, op.pushP r⟩
/-- a list's, a tuple's items -/
def M.seq : M → Option (List D)
  | .p (.lst ds) => some ds
  | .p (.fl ds) => some ds
  | .p (.tup ds) => some ds
  | .l ds => some ds
  | _ => none
def wiSeq (we : BV.WE) : WI := fun e C X => we e (fun m e1 => match m.seq with | some ds => C ds e1 | none => False) X
theorem bi_seq {tg l : Expr} {we : BV.WE} (h : PE X l (tE X.K W we)) : PI X tg l (tI X.K W (wiSeq we)) :=
  (pi_seqA h).wk fun σ H R' ⟨env, R, C, CX, ok, h, hQ, hX⟩ => by
    refine ⟨env, R, _, CX, ok, h, fun v H' m env' q z => ?_, hX⟩
    have hl : ∀ {d : D} {ds : List D}, d = .lst ds ∨ d = .fl ds → OkS X.K H' σ env' ((some v, some (.p d)) :: R) → C ds env' → ∃ a, v = .ref a ∧ (((∃ xs, SqL X.K H' a xs) ∧ R' (Itl X.K a) H') ∨ ((∃ xs, SqT X.K H' a xs) ∧ R' (Itt X.K a) H')) := fun {d ds} hd q c => by
      obtain ⟨F, A, o⟩ := q.topR
      obtain ⟨_, _, _, r, _, _⟩ := o.head
      cases r with
      | p r =>
        have hs : ∃ a, v = .ref a ∧ ∃ xs, SqL X.K H' a xs := by
          rcases hd with rfl | rfl
          · cases r with
            | lst h ra => exact ⟨_, rfl, _, SqL.of (o.sub _ _ h)⟩
          · cases r with
            | fl h ra => exact ⟨_, rfl, _, sqL_sub o.sub h⟩
        obtain ⟨a, rfl, xs, hs⟩ := hs
        exact ⟨a, rfl, .inl ⟨⟨xs, hs⟩, hQ _ _ ds H' env' (itl_ok hd) q c⟩⟩
    cases m with
    | p d =>
      cases d with
      | lst ds => exact hl (.inl rfl) q z
      | fl ds => exact hl (.inr rfl) q z
      | tup ds =>
        obtain ⟨F, A, o⟩ := q.topR
        obtain ⟨_, _, _, r, _, _⟩ := o.head
        cases r with
        | p r =>
          cases r with
          | tup h ra => exact ⟨_, rfl, .inr ⟨⟨_, sqT_sub o.sub h⟩, hQ _ _ ds H' env' itt_ok q z⟩⟩
      | _ => exact z.elim
    | l ds => exact hl (.inl rfl) (q.freezeR rfl) z
    | _ => exact z.elim
def rangeD (lo : Int) (n : Nat) : List D := (List.range n).map fun (i : Nat) => D.int (lo + i)
theorem itr_ok {lo : Int} {n : Nat} : ItOk K (Itr lo n) [] (rangeD lo n) := by
  have e : (rangeD lo n).length = n := by simp [rangeD]
  refine ⟨fun i H L hi o => by rw [e] at hi; exact hi, fun H L o => by rw [e]; exact Nat.le_refl _, fun i H x H' L hi o y => ?_⟩
  rw [e] at hi
  obtain ⟨rfl, rfl⟩ := y
  refine ⟨.int (lo + i), ?_, ?_⟩
  · simp [rangeD, List.getElem?_range hi]
  · obtain ⟨F, A, o⟩ := o
    exact ⟨F, A, o.pushP (.int _)⟩
def wiR1 (wv : WV) : WI := fun e C X => wv e (fun ds e1 => match ds with
  | [.int j] => -(2 ^ 62) ≤ j ∧ j < 2 ^ 62 ∧ C (rangeD 0 j.toNat) e1
  | _ => False) X
def wiR2 (wv : WV) : WI := fun e C X => wv e (fun ds e1 => match ds with
  | [.int i, .int j] => (-(2 ^ 62) ≤ i ∧ i < 2 ^ 62 ∧ -(2 ^ 62) ≤ j ∧ j < 2 ^ 62) ∧ C (rangeD i (j - i).toNat) e1
  | _ => False) X
theorem rpa1 {F : Hp} {vs : List V} {j : Int} (r : RpA K F vs [.int j]) : vs = [.int j] := by
  cases r with
  | cons r1 r2 => cases r1; cases r2; rfl
theorem rpa2 {F : Hp} {vs : List V} {i j : Int} (r : RpA K F vs [.int i, .int j]) : vs = [.int i, .int j] := by
  cases r with
  | cons r1 r2 =>
    cases r1
    cases r2 with
    | cons r1 r2 => cases r1; cases r2; rfl
theorem bi_range1 {tg a : Expr} {wv : WV} {p : Pos} (hg : Gl X "range") (hm : X.mg "range" = none) (ha : PA X [a] (tV X.K W wv)) (hs : starEach [a] X.env = [(false, eval a X.env)] := by rfl) : PI X tg (.Call (.Name "range" p) [a] [] pos) (tI X.K W (wiR1 wv)) :=
  (pi_range1 hg hm ha hs).wk fun σ H R' ⟨env, R, C, CX, ok, h, hQ, hX⟩ => by
    refine ⟨env, R, _, CX, ok, h, fun vs H' ds env' e q z => ?_, hX⟩
    obtain ⟨F, A, o, r⟩ := q.vals e
    split at z
    · rename_i j
      obtain ⟨z1, z2, z3⟩ := z
      have q2 : OkS X.K H' σ env' ([] ++ R) := ⟨q.1, F, A, o⟩
      exact ⟨j, rpa1 r, z1, z2, hQ _ [] _ H' env' itr_ok q2 z3⟩
    · exact z.elim
theorem bi_range2 {tg a b : Expr} {wv : WV} {p : Pos} (hg : Gl X "range") (hm : X.mg "range" = none) (ha : PA X [a, b] (tV X.K W wv)) (hs : starEach [a, b] X.env = [(false, eval a X.env), (false, eval b X.env)] := by rfl) (hs2 : starEach [b] X.env = [(false, eval b X.env)] := by rfl) :
    PI X tg (.Call (.Name "range" p) [a, b] [] pos) (tI X.K W (wiR2 wv)) :=
  (pi_range2 hg hm ha hs hs2).wk fun σ H R' ⟨env, R, C, CX, ok, h, hQ, hX⟩ => by
    refine ⟨env, R, _, CX, ok, h, fun vs H' ds env' e q z => ?_, hX⟩
    obtain ⟨F, A, o, r⟩ := q.vals e
    split at z
    · rename_i i j
      obtain ⟨z1, z3⟩ := z
      have q2 : OkS X.K H' σ env' ([] ++ R) := ⟨q.1, F, A, o⟩
      exact ⟨i, j, rpa2 r, z1, hQ _ [] _ H' env' itr_ok q2 z3⟩
    · exact z.elim
/-- a text, sign by sign -/
def signsD (x : Str) : List D := x.cps.toList.map fun c => D.str ⟨#[c]⟩
theorem its_ok {x : Str} : ItOk K (Its x) [] (signsD x) := by
  have e : (signsD x).length = x.cps.size := by simp [signsD]
  refine ⟨fun i H L hi o => by rw [e] at hi; exact hi, fun H L o => by rw [e]; exact Nat.le_refl _, fun i H v H' L hi o y => ?_⟩
  obtain ⟨rfl, c, hc, rfl⟩ := y
  refine ⟨.str ⟨#[c]⟩, by simp [signsD, hc], ?_⟩
  obtain ⟨F, A, o⟩ := o
  exact ⟨F, A, o.pushP (.str _)⟩
def wiStr (we : BV.WE) : WI := fun e C X => we e (fun m e1 => match m with | .p (.str x) => C (signsD x) e1 | _ => False) X
theorem bi_str {tg l : Expr} {we : BV.WE} (h : PE X l (tE X.K W we)) : PI X tg l (tI X.K W (wiStr we)) :=
  (pi_str h).wk fun σ H R' ⟨env, R, C, CX, ok, h, hQ, hX⟩ => by
    refine ⟨env, R, _, CX, ok, h, fun v H' m env' q z => ?_, hX⟩
    split at z
    · rename_i x
      obtain ⟨F, A, o⟩ := q.topR
      obtain ⟨_, _, _, r, _, _⟩ := o.head
      cases r with
      | p r =>
        cases r
        have q2 : OkS X.K H' σ env' ([] ++ R) := q.popR
        exact ⟨x, rfl, hQ _ [] _ H' env' its_ok q2 z⟩
    · exact z.elim
/-- enumerate(a list) -/
def enumD (ds : List D) : List D := (List.range ds.length).zip ds |>.map fun (p : Nat × D) => D.tup [.int (p.1 : Int), p.2]
theorem enumD_len {ds : List D} : (enumD ds).length = ds.length := by simp [enumD]
theorem enumD_get {ds : List D} {i : Nat} (hi : i < ds.length) : (enumD ds)[i]? = some (.tup [.int (i : Int), ds[i]]) := by
  simp [enumD, List.getElem?_map, List.getElem?_zip_eq_some, hi, List.zip_eq_zipWith, List.getElem?_zipWith, List.getElem?_range hi]
theorem ite_ok {a : Addr} {d : D} {ds : List D} (hd : d = .lst ds ∨ d = .fl ds) : ItOk K (Ite K a) [(some (.ref a), some (.p d))] (enumD ds) := by
  have key : ∀ {H : Hp} {L : List Ent}, Ok K H ([(some (.ref a), some (.p d))] ++ L) → ∃ F A xs, Op K F H ((some (.ref a), some (.p d)) :: L) A ∧ SqL K H a xs ∧ RpA K F xs ds := fun {H L} ⟨F, A, o⟩ => by
    obtain ⟨_, _, _, r, _, _⟩ := Op.head (L := L) o
    cases r with
    | p r =>
      rcases hd with rfl | rfl
      · cases r with
        | lst h ra => exact ⟨F, A, _, o, SqL.of (o.sub _ _ h), ra⟩
      · cases r with
        | fl h ra => exact ⟨F, A, _, o, sqL_sub o.sub h, ra⟩
  refine ⟨fun i H L hi o => ?_, fun H L o => ?_, fun i H x H' L hi o y => ?_⟩
  · rw [enumD_len] at hi
    obtain ⟨F, A, xs, _, hs, ra⟩ := key o
    obtain ⟨v, hv, _⟩ := ra.get (List.getElem?_eq_getElem hi)
    exact ⟨xs, v, hs, hv⟩
  · obtain ⟨F, A, xs, _, hs, ra⟩ := key o
    exact ⟨xs, hs, by rw [ra.length, enumD_len]; exact Nat.le_refl _⟩
  · rw [enumD_len] at hi
    obtain ⟨F, A, xs, op, hs, ra⟩ := key o
    obtain ⟨v, hv, r⟩ := ra.get (List.getElem?_eq_getElem hi)
    obtain ⟨T, z, rfl, hT, rfl, y⟩ := y
    have := y xs hs
    rw [hv] at this; cases this
    exact ⟨_, enumD_get hi, _, _, op.newT (.cons (.int _) (.cons r .nil)) hT⟩
def M.lseq : M → Option (List D)
  | .p (.lst ds) => some ds
  | .p (.fl ds) => some ds
  | .l ds => some ds
  | _ => none
def wiEnum (we : BV.WE) : WI := fun e C X => we e (fun m e1 => match m.lseq with | some ds => C (enumD ds) e1 | none => False) X
theorem lseq_ok {env : Env} {R : List Ent} {v : V} {m : M} {ds : List D} (q : OkS K H σ env ((some v, some m) :: R)) (z : m.lseq = some ds) : ∃ a d xs, v = .ref a ∧ (d = .lst ds ∨ d = .fl ds) ∧ SqL K H a xs ∧ OkS K H σ env ((some v, some (.p d)) :: R) := by
  have hl : ∀ {d : D}, d = .lst ds ∨ d = .fl ds → OkS K H σ env ((some v, some (.p d)) :: R) → ∃ a d xs, v = .ref a ∧ (d = .lst ds ∨ d = .fl ds) ∧ SqL K H a xs ∧ OkS K H σ env ((some v, some (.p d)) :: R) := fun {d} hd q => by
    obtain ⟨F, A, o⟩ := q.topR
    obtain ⟨_, _, _, r, _, _⟩ := o.head
    cases r with
    | p r =>
      rcases hd with rfl | rfl
      · cases r with
        | lst h ra => exact ⟨_, _, _, rfl, .inl rfl, SqL.of (o.sub _ _ h), q⟩
      · cases r with
        | fl h ra => exact ⟨_, _, _, rfl, .inr rfl, sqL_sub o.sub h, q⟩
  cases m with
  | p d =>
    cases d with
    | lst es => cases z; exact hl (.inl rfl) q
    | fl es => cases z; exact hl (.inr rfl) q
    | _ => cases z
  | l es => cases z; exact hl (.inl rfl) (q.freezeR rfl)
  | _ => cases z
theorem bi_enum {e : Expr} {we : BV.WE} {p tpos : Pos} {elts : List Expr} {kk : Nat} (hg : Gl X "enumerate") (hm : X.mg "enumerate" = none) (ha : PE X e (tE X.K W we)) (hs : starEach [e] X.env = [(false, eval e X.env)] := by rfl) (hs2 : starEach [e] X.env = (false, eval e X.env) :: starEach [] X.env := by rfl) :
    PI X (.Tuple elts kk tpos) (.Call (.Name "enumerate" p) [e] [] pos) (tI X.K W (wiEnum we)) :=
  (pi_enum hg hm (pa_cons ha pa_nil hs2) hs).wk fun σ H R' ⟨env, R, C, CX, ok, h, hQ, hX⟩ => by
    refine ⟨env, R, _, CX, ok, h, fun v H' m env' q z => ?_, hX⟩
    cases e : m.lseq with
    | none => rw [e] at z; exact z.elim
    | some ds =>
      rw [e] at z
      obtain ⟨a, d, xs, rfl, hd, hs, q2⟩ := lseq_ok q e
      exact ⟨a, xs, rfl, hs, hQ _ _ _ H' env' (ite_ok hd) q2 z⟩
end
end BV

namespace BV
open PySem L2 PyProof.Rows

/-! ### data for == -/
mutual
def D.py : D → Option PyData
  | .non => some .none
  | .bl b => some (.bool b)
  | .int i => some (.int i)
  | .str x => some (.str x)
  | .tup ds => (D.pyA ds).map .tuple
  | .lst ds => (D.pyA ds).map .list
  | .fl ds => (D.pyA ds).map .list
  | .dct _ _ => none
  | .ins _ _ _ => none
  | .xd _ _ => none
  | .fn _ => none
  | .ty _ => none
def D.pyA : List D → Option (List PyData)
  | [] => some []
  | d :: ds => match D.py d, D.pyA ds with
    | some p, some ps => some (p :: ps)
    | _, _ => none
end
section
variable {K : PySem.W.Frag} {F H : Hp}
mutual
theorem dp_of : ∀ {v : V} {d : D} {p : PyData}, RpD K H v d → d.py = some p → Dp K H v p
  | _, _, _, .non, e => by cases e; exact .non
  | _, _, _, .bl b, e => by cases e; exact .bl b
  | _, _, _, .int i, e => by cases e; exact .int i
  | _, _, _, .str x, e => by cases e; exact .str x
  | _, _, _, @RpD.tup _ _ a xs ds h r, e => by
    unfold D.py at e
    obtain ⟨ps, h1, h2⟩ := Option.map_eq_some_iff.mp e
    subst h2
    exact .tup h (dpA_of r h1)
  | _, _, _, @RpD.lst _ _ a xs ds h r, e => by
    unfold D.py at e
    obtain ⟨ps, h1, h2⟩ := Option.map_eq_some_iff.mp e
    subst h2
    exact .lst (SqL.of h) (dpA_of r h1)
  | _, _, _, @RpD.fl _ _ a xs ds h r, e => by
    unfold D.py at e
    obtain ⟨ps, h1, h2⟩ := Option.map_eq_some_iff.mp e
    subst h2
    exact .lst h (dpA_of r h1)
  | _, _, _, .dct _ _, e => by unfold D.py at e; cases e
  | _, _, _, .ins _ _, e => by unfold D.py at e; cases e
  | _, _, _, .xd _ _, e => by unfold D.py at e; cases e
  | _, _, _, .fn _, e => by unfold D.py at e; cases e
  | _, _, _, .ty _, e => by unfold D.py at e; cases e
theorem dpA_of : ∀ {vs : List V} {ds : List D} {ps : List PyData}, RpA K H vs ds → D.pyA ds = some ps → DpAll K H vs ps
  | _, _, _, .nil, e => by unfold D.pyA at e; cases e; exact .nil
  | _, _, _, @RpA.cons _ _ v vs d ds h r, e => by
    unfold D.pyA at e
    cases e1 : D.py d with
    | none => rw [e1] at e; cases e
    | some p =>
      cases e2 : D.pyA ds with
      | none => rw [e1, e2] at e; cases e
      | some ps =>
        rw [e1, e2] at e
        cases e
        exact .cons (dp_of h e1) (dpA_of r e2)
end
/-- what is read of an operand -/
theorem fz_view {v : V} {m : M} {d : D} {A : List Addr} (s : Sub F H) (r : RpM K F H v m A) (e : m.fz = some d) : RpD K H v d := by
  cases r with
  | p r => cases e; exact r.mono s
  | l h r => cases e; exact .lst h (r.mono s)
  | k h r => cases e; exact .dct h (r.mono s)
  | o _ _ => cases e
  | h _ => cases e
  | z _ _ => cases e
/-- data that may be compared: one of them not deep -/
def shape2 (p q : PyData) : Bool := p.canLay0 && (q.canLay0 && decide (min p.depth q.depth ≤ 64))
def rEqD2 (K : PySem.W.Frag) : R2 := fun x y H Q => ∃ d e, Dp K H x d ∧ Dp K H y e ∧ shape2 d e = true ∧ Q (.bl (PyData.eqv d e)) H
def rNeD2 (K : PySem.W.Frag) : R2 := fun x y H Q => ∃ d e, Dp K H x d ∧ Dp K H y e ∧ shape2 d e = true ∧ Q (.bl (!PyData.eqv d e)) H
theorem op_eqD2 {X : Cx} (hu : X.A.units + 64 < cLine) : OpR X (compareOp .Eq) (rEqD2 X.K) := by
  intro pins s σ H x y v u Q I rx ry h
  obtain ⟨d, e, hd, he, sd, q⟩ := h
  obtain ⟨as, r1⟩ := Dp.reads I d x v hd rx
  obtain ⟨bs, r2⟩ := Dp.reads I e y u he ry
  obtain ⟨s1, s2⟩ := Bool.and_eq_true_iff.mp sd
  obtain ⟨s2, s3⟩ := Bool.and_eq_true_iff.mp s2
  have s3 := of_decide_eq_true s3
  exact SeqAt.compareEq_reads r1 r2 s1 s2 (by omega) ⟨.bl _, H, I, rfl, q⟩
theorem op_neD2 {X : Cx} (hu : X.A.units + 64 < cLine) : OpR X (compareOp .NotEq) (rNeD2 X.K) := by
  intro pins s σ H x y v u Q I rx ry h
  obtain ⟨d, e, hd, he, sd, q⟩ := h
  obtain ⟨as, r1⟩ := Dp.reads I d x v hd rx
  obtain ⟨bs, r2⟩ := Dp.reads I e y u he ry
  obtain ⟨s1, s2⟩ := Bool.and_eq_true_iff.mp sd
  obtain ⟨s2, s3⟩ := Bool.and_eq_true_iff.mp s2
  have s3 := of_decide_eq_true s3
  exact SeqAt.compareNe_reads r1 r2 s1 s2 (by omega) ⟨.bl _, H, I, rfl, q⟩
def eqD : D → D → Option Bool
  | .str x, .str y => some (decide (x = y))
  | .int x, .int y => some (decide (x = y))
  | .bl x, .bl y => some (decide (x = y))
  | .non, .non => some true
  | .non, .str _ => some false
  | .str _, .non => some false
  | .int _, .str _ => some false
  | .str _, .int _ => some false
  | x, y => match x.py, y.py with
    | some p, some q => if shape2 p q = true then some (PyData.eqv p q) else none
    | _, _ => none
def rEqA (K : PySem.W.Frag) : R2 := fun x y H Q => rEq x y H Q ∨ rEqD2 K x y H Q
def rNeA (K : PySem.W.Frag) : R2 := fun x y H Q => rNe x y H Q ∨ rNeD2 K x y H Q
theorem eqD_ok {x y : V} {d e : D} {b : Bool} (h1 : RpD K H x d) (h2 : RpD K H y e) (h : eqD d e = some b) : (∀ Q : VK, Q (.bl b) H → rEqA K x y H Q) ∧ (∀ Q : VK, Q (.bl (!b)) H → rNeA K x y H Q) := by
  unfold eqD at h
  split at h <;> first
    | (cases h1; cases h2; cases h; exact ⟨fun Q q => .inl ⟨rfl, by simpa using q⟩, fun Q q => .inl ⟨rfl, by simpa using q⟩⟩)
    | skip
  split at h
  · rename_i p q e1 e2
    split at h
    · rename_i hs
      cases h
      exact ⟨fun Q k => .inr ⟨p, q, dp_of h1 e1, dp_of h2 e2, hs, k⟩, fun Q k => .inr ⟨p, q, dp_of h1 e1, dp_of h2 e2, hs, k⟩⟩
    · cases h
  · cases h
def gEq : List M → Option Res
  | [a, b] => match a.fz, b.fz with
    | some x, some y => (eqD x y).map fun k => .val (.bl k)
    | _, _ => none
  | _ => none
def gNe : List M → Option Res
  | [a, b] => match a.fz, b.fz with
    | some x, some y => (eqD x y).map fun k => .val (.bl (!k))
    | _, _ => none
  | _ => none
theorem vw2 {vs : List V} {a b : M} (h : VwA K F H vs [a, b]) : ∃ x y A B, vs = [x, y] ∧ RpM K F H x a A ∧ RpM K F H y b B := by
  cases h with
  | cons h1 h =>
    cases h with
    | cons h2 h => cases h; exact ⟨_, _, _, _, rfl, h1, h2⟩
theorem vw1 {vs : List V} {a : M} (h : VwA K F H vs [a]) : ∃ x A, vs = [x] ∧ RpM K F H x a A := by
  cases h with
  | cons h1 h => cases h; exact ⟨_, _, rfl, h1⟩
theorem rd_eq : RdOk K (fun vs H Q => ∃ x y, vs = [x, y] ∧ rEqA K x y H Q) gEq := by
  intro F H vs ms res s vw g
  unfold gEq at g
  split at g
  · rename_i a b
    obtain ⟨x, y, A, B, rfl, r1, r2⟩ := vw2 vw
    split at g
    · rename_i d e e1 e2
      obtain ⟨k, hk, rfl⟩ := Option.map_eq_some_iff.mp g
      exact ⟨.bl k, .bl k, fun Q q => ⟨x, y, rfl, (eqD_ok (fz_view s r1 e1) (fz_view s r2 e2) hk).1 Q q⟩⟩
    · cases g
  · cases g
theorem rd_ne : RdOk K (fun vs H Q => ∃ x y, vs = [x, y] ∧ rNeA K x y H Q) gNe := by
  intro F H vs ms res s vw g
  unfold gNe at g
  split at g
  · rename_i a b
    obtain ⟨x, y, A, B, rfl, r1, r2⟩ := vw2 vw
    split at g
    · rename_i d e e1 e2
      obtain ⟨k, hk, rfl⟩ := Option.map_eq_some_iff.mp g
      exact ⟨.bl (!k), .bl (!k), fun Q q => ⟨x, y, rfl, (eqD_ok (fz_view s r1 e1) (fz_view s r2 e2) hk).2 Q q⟩⟩
    · cases g
  · cases g

/-! ### the order of ints -/
def gCmp (p : Int → Int → Bool) : List M → Option Res
  | [.p (.int i), .p (.int j)] => some (.val (.bl (p i j)))
  | _ => none
theorem rd_cmp {p : Int → Int → Bool} : RdOk K (fun vs H Q => ∃ x y, vs = [x, y] ∧ rI0 (fun i j => V.bl (p i j)) x y H Q) (gCmp p) := by
  intro F H vs ms res s vw g
  unfold gCmp at g
  split at g
  · rename_i i j
    obtain ⟨x, y, A, B, rfl, r1, r2⟩ := vw2 vw
    cases g
    cases r1 with
    | p r1 =>
      cases r1
      cases r2 with
      | p r2 =>
        cases r2
        exact ⟨.bl _, .bl _, fun Q q => ⟨_, _, rfl, i, j, rfl, rfl, q⟩⟩
  · cases g

/-! ### + - * // % -/
def gInt (c : Int → Int → Bool) (f : Int → Int → Int) : List M → Option Res
  | [.p (.int i), .p (.int j)] => if c i j = true then some (.val (.int (f i j))) else none
  | _ => none
theorem rd_int {c : Int → Int → Bool} {C : Int → Int → Prop} {f : Int → Int → Int} (hc : ∀ i j, c i j = true → C i j) : RdOk K (fun vs H Q => ∃ x y, vs = [x, y] ∧ rI C (fun i j => V.int (f i j)) x y H Q) (gInt c f) := by
  intro F H vs ms res s vw g
  unfold gInt at g
  split at g
  · rename_i i j
    obtain ⟨x, y, A, B, rfl, r1, r2⟩ := vw2 vw
    split at g
    · rename_i h
      cases g
      cases r1 with
      | p r1 =>
        cases r1
        cases r2 with
        | p r2 =>
          cases r2
          exact ⟨.int _, .int _, fun Q q => ⟨_, _, rfl, i, j, rfl, rfl, hc i j h, q⟩⟩
    · cases g
  · cases g
/-- + of ints, texts, lists, tuples -/
def rAddA (K : PySem.W.Frag) : R2 := fun x y H Q => rI0 (fun i j => .int (i + j)) x y H Q ∨ (∃ i j, x = .str i ∧ y = .str j ∧ i.length + j.length ≤ sizeLine ∧ Q (.str (i ++ j)) H) ∨ rCat x y H Q ∨ rCatA K x y H Q
theorem op_addA {X : Cx} : OpR X (binaryOp .Add) (rAddA X.K) := op_add.or (op_add_str.or (op_cat.or op_catA))
def M.mseq : M → Option (List D)
  | .p (.lst ds) => some ds
  | .l ds => some ds
  | _ => none
def gAdd : List M → Option Res
  | [.p (.int i), .p (.int j)] => some (.val (.int (i + j)))
  | [.p (.str x), .p (.str y)] => if x.length + y.length ≤ 100000 then some (.val (.str (x ++ y))) else none
  | [.p (.tup a), .p (.tup b)] => if a.length + b.length ≤ 100000 then (if a.isEmpty then some (.val (.tup b)) else if b.isEmpty then some (.val (.tup a)) else some (.newt (a ++ b))) else none
  | [a, b] => match a.mseq, b.mseq with
    | some xs, some ys => if xs.length + ys.length ≤ 100000 then some (.newl (xs ++ ys)) else none
    | _, _ => none
  | _ => none
theorem mseq_view {v : V} {m : M} {ds : List D} {A : List Addr} (s : Sub F H) (r : RpM K F H v m A) (e : m.mseq = some ds) : ∃ a xs, v = .ref a ∧ H a = some (.lst xs) ∧ RpA K F xs ds := by
  cases r with
  | p r =>
    cases r <;> first
      | (rename_i h ra; cases e; exact ⟨_, _, rfl, s _ _ h, ra⟩)
      | cases e
  | l h r => cases e; exact ⟨_, _, rfl, h, r⟩
  | k h r => cases e
  | o _ _ => cases e
  | h _ => cases e
  | z _ _ => cases e
theorem sz100 {n : Nat} (h : n ≤ 100000) : n ≤ sizeLine := Nat.le_trans h (by decide)
theorem rd_add : RdOk K (fun vs H Q => ∃ x y, vs = [x, y] ∧ rAddA K x y H Q) gAdd := by
  intro F H vs ms res s vw g
  unfold gAdd at g
  split at g
  · rename_i i j
    obtain ⟨x, y, A, B, rfl, r1, r2⟩ := vw2 vw
    cases g
    cases r1 with
    | p r1 =>
      cases r1
      cases r2 with
      | p r2 =>
        cases r2
        exact ⟨.int _, .int _, fun Q q => ⟨_, _, rfl, .inl ⟨i, j, rfl, rfl, q⟩⟩⟩
  · rename_i i j
    obtain ⟨x, y, A, B, rfl, r1, r2⟩ := vw2 vw
    split at g
    · rename_i hz
      cases g
      cases r1 with
      | p r1 =>
        cases r1
        cases r2 with
        | p r2 =>
          cases r2
          exact ⟨.str _, .str _, fun Q q => ⟨_, _, rfl, .inr (.inl ⟨i, j, rfl, rfl, sz100 hz, q⟩)⟩⟩
    · cases g
  · rename_i a b
    obtain ⟨x, y, A, B, rfl, r1, r2⟩ := vw2 vw
    cases r1 with
    | p r1 =>
      cases r2 with
      | p r2 =>
        cases r1 with
        | @tup pa xs _ h1 ra =>
          cases r2 with
          | @tup pb ys _ h2 rb =>
            split at g
            · rename_i hz
              have e1 := ra.length
              have e2 := rb.length
              have base : ∀ Q : VK, (xs = [] → Q (.ref pb) H) → (xs ≠ [] → ys = [] → Q (.ref pa) H) → (xs ≠ [] → ys ≠ [] → ∀ p, H p = none → Q (.ref p) (upd H p (.tup (xs ++ ys)))) → ∃ x y, [V.ref pa, V.ref pb] = [x, y] ∧ rAddA K x y H Q :=
                fun Q q1 q2 q3 => ⟨_, _, rfl, .inr (.inr (.inr ⟨pa, pb, xs, ys, rfl, rfl, sqT_sub s h1, sqT_sub s h2, sz100 (by omega), q1, q2, q3⟩))⟩
              split at g
              · rename_i ha
                cases g
                have : xs = [] := by
                  have : a = [] := by simpa using ha
                  subst this
                  exact List.length_eq_zero_iff.mp e1
                exact ⟨.ref pb, .tup h2 rb, fun Q q => base Q (fun _ => q) (fun h => absurd this h) (fun h => absurd this h)⟩
              · rename_i ha
                have nx : xs ≠ [] := fun h => by
                  subst h
                  have : a = [] := List.length_eq_zero_iff.mp e1.symm
                  exact ha (by simp [this])
                split at g
                · rename_i hb
                  cases g
                  have : ys = [] := by
                    have : b = [] := by simpa using hb
                    subst this
                    exact List.length_eq_zero_iff.mp e2
                  exact ⟨.ref pa, .tup h1 ra, fun Q q => base Q (fun h => absurd h nx) (fun _ _ => q) (fun _ h => absurd this h)⟩
                · rename_i hb
                  cases g
                  have ny : ys ≠ [] := fun h => by
                    subst h
                    have : b = [] := List.length_eq_zero_iff.mp e2.symm
                    exact hb (by simp [this])
                  exact ⟨xs ++ ys, ra.append rb, fun Q q => base Q (fun h => absurd h nx) (fun _ h => absurd h ny) (fun _ _ => q)⟩
            · cases g
  · rename_i a b _ _ _
    obtain ⟨x, y, A, B, rfl, r1, r2⟩ := vw2 vw
    split at g
    · rename_i xs ys e1 e2
      split at g
      · rename_i hz
        cases g
        obtain ⟨pa, us, rfl, h1, ra⟩ := mseq_view s r1 e1
        obtain ⟨pb, ws, rfl, h2, rb⟩ := mseq_view s r2 e2
        refine ⟨us ++ ws, ra.append rb, fun Q q => ⟨_, _, rfl, .inr (.inr (.inl ⟨pa, pb, us, ws, rfl, rfl, h1, h2, sz100 ?_, q⟩))⟩⟩
        rw [ra.length, rb.length]
        exact hz
      · cases g
    · cases g
  · cases g

/-! ### items -/
theorem atI_view {xs : List V} {ds : List D} {i : Int} {d : D} (r : RpA K F xs ds) (h : atI ds i = some d) : ∃ v, atI xs i = some v ∧ RpD K F v d := by
  unfold atI at h ⊢
  rw [r.length]
  cases e : ixN ds.length i with
  | none => rw [e] at h; cases h
  | some j =>
    rw [e] at h
    exact r.get h
def getK (ks : List Key) (vs : List D) (k : Key) : Option D := ((ks.zip vs).find? fun p => decide (p.1 = k)).map (·.2)
def D.key : D → Option Key
  | .int i => some (.inl i)
  | .str x => some (.inr x)
  | _ => none
def M.dict : M → Option (List Key × List D)
  | .p (.dct ks vs) => some (ks, vs)
  | .k ks vs => some (ks, vs)
  | .z _ kvs vs => some (kvs.map (·.1), vs)
  | _ => none
theorem key_view {v : V} {d : D} {k : Key} {G : Hp} (r : RpD K G v d) (e : d.key = some k) : v = kV k := by
  cases r <;> first | (cases e; rfl) | cases e
theorem dict_view {v : V} {m : M} {ks : List Key} {ds : List D} {A : List Addr} (s : Sub F H) (r : RpM K F H v m A) (e : m.dict = some (ks, ds)) : ∃ a kvs, v = .ref a ∧ Rd H a (.dK kvs) ∧ kvs.map (·.1) = ks ∧ RpA K F (kvs.map (·.2)) ds := by
  cases r with
  | p r =>
    cases r <;> first
      | (rename_i h ra; cases e; exact ⟨_, _, rfl, .inl (s _ _ h), rfl, ra⟩)
      | cases e
  | l h r => cases e
  | k h r => cases e; exact ⟨_, _, rfl, .inl h, rfl, r⟩
  | z h r => cases e; exact ⟨_, _, rfl, .inr ⟨_, h⟩, rfl, r⟩
  | o _ _ => cases e
  | h _ => cases e
theorem getK_view : ∀ {kvs : List (Key × V)} {ds : List D} {k : Key}, RpA K F (kvs.map (·.2)) ds → (∀ d, getK (kvs.map (·.1)) ds k = some d → ∃ v, valV kvs k = some v ∧ RpD K F v d) ∧ (getK (kvs.map (·.1)) ds k = none → valV kvs k = none)
  | [], ds, k, r => by
    cases r
    exact ⟨fun d h => by simp [getK] at h, fun _ => rfl⟩
  | p :: r, ds, k, ra => by
    cases ra with
    | @cons _ _ d ds r1 r2 =>
      have ih := getK_view (k := k) r2
      by_cases e : p.1 = k
      · refine ⟨fun d h => ?_, fun h => ?_⟩
        · simp [getK, e] at h
          subst h
          exact ⟨_, valV_pos e, r1⟩
        · simp [getK, e] at h
      · rw [valV_neg e]
        have q : getK ((p :: r).map (·.1)) (d :: ds) k = getK (r.map (·.1)) ds k := by simp [getK, e]
        rw [q]
        exact ih
def rIxA (K : PySem.W.Frag) : R2 := fun x y H Q => rIx K x y H Q ∨ (∃ a v, x = .ref a ∧ DGet H a y (some v) ∧ Q v H)
theorem ix_dict {X : Cx} (hu : X.A.units + 1 < cLine) : IxR X (fun x y H Q => ∃ a v, x = .ref a ∧ DGet H a y (some v) ∧ Q v H) := by
  intro value slice pins s σ H x y v u Q I rx ry q hs
  obtain ⟨a, z, rfl, g, q⟩ := q
  cases rx
  refine tail_any (T := "dict") (dict_typeIs I g) slot_dict_getitem.lookup ?_ hs
  exact d_getItem hu I g ry fun w' s' I' r' => ⟨z, H, I', r', q⟩
theorem ix_any {X : Cx} (hu : X.A.units + 1 < cLine) : IxR X (rIxA X.K) := ix_seq.or (ix_dict hu)
end
end BV

namespace BV
open PySem L2 PyProof.Rows
section
variable {K : PySem.W.Frag} {F H : Hp}
/-- an index -/
def gIx : List M → Option Res
  | [.p (.str x), .p (.int i)] => if x.length ≤ 100000 then (atI x.cps.toList i).map fun c => .val (.str ⟨#[c]⟩) else none
  | [m, .p k] => match m.seq, k with
    | some ds, .int i => (atI ds i).map .val
    | _, _ => match m.dict, k.key with
      | some (ks, vs), some y => (getK ks vs y).map .val
      | _, _ => none
  | _ => none
theorem dget_rd {H : Hp} {a : Addr} {kvs : List (Key × V)} {k : Key} (h : Rd H a (.dK kvs)) : DGet H a (kV k) (valV kvs k) := .inl ⟨kvs, k, h, rfl, rfl⟩
theorem seq_view {v : V} {m : M} {ds : List D} {A : List Addr} (s : Sub F H) (r : RpM K F H v m A) (e : m.seq = some ds) : ∃ a xs, v = .ref a ∧ (SqL K H a xs ∨ SqT K H a xs) ∧ RpA K F xs ds := by
  cases r with
  | p r =>
    cases r with
    | tup h ra => cases e; exact ⟨_, _, rfl, .inr (sqT_sub s h), ra⟩
    | lst h ra => cases e; exact ⟨_, _, rfl, .inl (SqL.of (s _ _ h)), ra⟩
    | fl h ra => cases e; exact ⟨_, _, rfl, .inl (sqL_sub s h), ra⟩
    | _ => cases e
  | l h r => cases e; exact ⟨_, _, rfl, .inl (SqL.of h), r⟩
  | k h r => cases e
  | o _ _ => cases e
  | h _ => cases e
  | z _ _ => cases e
theorem rd_ix : RdOk K (fun vs H Q => ∃ x y, vs = [x, y] ∧ rIxA K x y H Q) gIx := by
  intro F H vs ms res s vw g
  unfold gIx at g
  split at g
  · rename_i x i
    obtain ⟨u, v, A, B, rfl, r1, r2⟩ := vw2 vw
    split at g
    · rename_i hz
      obtain ⟨c, hc, rfl⟩ := Option.map_eq_some_iff.mp g
      cases r1 with
      | p r1 =>
        cases r1
        cases r2 with
        | p r2 =>
          cases r2
          exact ⟨.str _, .str _, fun Q q => ⟨_, _, rfl, .inl (.inr (.inr ⟨x, i, c, rfl, rfl, sz100 hz, hc, q⟩))⟩⟩
    · cases g
  · rename_i m k _
    obtain ⟨u, v, A, B, rfl, r1, r2⟩ := vw2 vw
    cases r2 with
    | p r2 =>
      split at g
      · rename_i ds i e _
        obtain ⟨d, hd, rfl⟩ := Option.map_eq_some_iff.mp g
        obtain ⟨a, xs, rfl, hs, ra⟩ := seq_view s r1 e
        obtain ⟨y, hy, ry⟩ := atI_view ra hd
        cases r2
        refine ⟨y, ry, fun Q q => ⟨_, _, rfl, .inl ?_⟩⟩
        rcases hs with hs | hs
        · exact .inl ⟨a, xs, i, y, rfl, rfl, hs, hy, q⟩
        · exact .inr (.inl ⟨a, xs, i, y, rfl, rfl, hs, hy, q⟩)
      · split at g
        · rename_i ks es y e1 e2
          obtain ⟨d, hd, rfl⟩ := Option.map_eq_some_iff.mp g
          obtain ⟨a, kvs, rfl, hs, rfl, ra⟩ := dict_view s r1 e1
          obtain ⟨z, hz, rz⟩ := (getK_view ra).1 d hd
          have ek := key_view r2 e2
          subst ek
          exact ⟨z, rz, fun Q q => ⟨_, _, rfl, .inr ⟨a, z, rfl, by rw [← hz]; exact dget_rd hs, q⟩⟩⟩
        · cases g
  · cases g
/-- len -/
def gLen : List M → Option Res
  | [.p (.str x)] => if x.length ≤ 100000 then some (.val (.int x.length)) else none
  | [m] => m.seq.map fun ds => .val (.int ds.length)
  | _ => none
theorem rd_len : RdOk K (fun xs H Q => ∃ x n, xs = [x] ∧ LenV K x H n ∧ Q (.int n) H) gLen := by
  intro F H vs ms res s vw g
  unfold gLen at g
  split at g
  · rename_i x
    obtain ⟨u, A, rfl, r1⟩ := vw1 vw
    split at g
    · rename_i hz
      cases g
      cases r1 with
      | p r1 =>
        cases r1
        exact ⟨.int _, .int _, fun Q q => ⟨_, _, rfl, ⟨sz100 hz, rfl⟩, q⟩⟩
    · cases g
  · rename_i m _
    obtain ⟨u, A, rfl, r1⟩ := vw1 vw
    obtain ⟨ds, e, rfl⟩ := Option.map_eq_some_iff.mp g
    obtain ⟨a, xs, rfl, hs, ra⟩ := seq_view s r1 e
    refine ⟨.int _, .int _, fun Q q => ⟨_, ds.length, rfl, ?_, q⟩⟩
    rw [← ra.length]
    rcases hs with hs | hs
    · exact .inl ⟨xs, hs, rfl⟩
    · exact .inr ⟨xs, hs, rfl⟩
  · cases g
/-- list(x), tuple(x) of a list, a tuple -/
def keyD : Key → D
  | .inl i => .int i
  | .inr x => .str x
theorem keys_rp {F : Hp} : ∀ ks : List Key, RpA K F (ks.map kV) (ks.map keyD)
  | [] => .nil
  | .inl i :: ks => .cons (.int i) (keys_rp ks)
  | .inr x :: ks => .cons (.str x) (keys_rp ks)
def gList : List M → Option Res
  | [m] => match m.seq with
    | some ds => some (.newl ds)
    | none => m.dict.map fun p => .newl (p.1.map keyD)
  | _ => none
def rListOf (K : PySem.W.Frag) : List V → Hp → VK → Prop := fun xs H Q => ∃ p ys, xs = [.ref p] ∧ (SqL K H p ys ∨ SqT K H p ys) ∧ ∀ l, H l = none → Q (.ref l) (upd H l (.lst ys))
def rListAny (K : PySem.W.Frag) : List V → Hp → VK → Prop := fun xs H Q => rListOf K xs H Q ∨ (∃ (a : Addr) (kvs : List (Key × V)), xs = [.ref a] ∧ Rd H a (.dK kvs) ∧ ∀ p, H p = none → Q (.ref p) (upd H p (.lst (kvs.map fun kv => kV kv.1))))
theorem rd_list : RdOk K (rListAny K) gList := by
  intro F H vs ms res s vw g
  unfold gList at g
  split at g
  · rename_i m
    obtain ⟨u, A, rfl, r1⟩ := vw1 vw
    split at g
    · rename_i ds e
      cases g
      obtain ⟨a, xs, rfl, hs, ra⟩ := seq_view s r1 e
      exact ⟨xs, ra, fun Q q => .inl ⟨a, xs, rfl, hs, q⟩⟩
    · obtain ⟨⟨ks, ds⟩, e, rfl⟩ := Option.map_eq_some_iff.mp g
      obtain ⟨a, kvs, rfl, hs, rfl, ra⟩ := dict_view s r1 e
      refine ⟨kvs.map fun kv => kV kv.1, ?_, fun Q q => .inr ⟨a, kvs, rfl, hs, q⟩⟩
      have := keys_rp (K := K) (F := F) (kvs.map (·.1))
      simpa [Function.comp_def] using this
  · cases g
def gTuple : List M → Option Res
  | [.p (.tup ds)] => some (.val (.tup ds))
  | [m] => match m with
    | .p (.lst ds) => some (.newt ds)
    | .p (.fl ds) => some (.newt ds)
    | .l ds => some (.newt ds)
    | _ => none
  | _ => none
def rTupleOf (K : PySem.W.Frag) : List V → Hp → VK → Prop := fun xs H Q => ∃ p ys, xs = [.ref p] ∧ ((SqL K H p ys ∧ ∀ l, H l = none → Q (.ref l) (upd H l (.tup ys))) ∨ (SqT K H p ys ∧ Q (.ref p) H))
theorem rd_tuple : RdOk K (rTupleOf K) gTuple := by
  intro F H vs ms res s vw g
  unfold gTuple at g
  split at g
  · rename_i ds
    obtain ⟨u, A, rfl, r1⟩ := vw1 vw
    cases g
    cases r1 with
    | p r1 =>
      cases r1 with
      | tup h ra => exact ⟨_, .tup h ra, fun Q q => ⟨_, _, rfl, .inr ⟨sqT_sub s h, q⟩⟩⟩
  · obtain ⟨u, A, rfl, r1⟩ := vw1 vw
    split at g
    · cases g
      cases r1 with
      | p r1 =>
        cases r1 with
        | lst h ra => exact ⟨_, ra, fun Q q => ⟨_, _, rfl, .inl ⟨SqL.of (s _ _ h), q⟩⟩⟩
    · cases g
      cases r1 with
      | p r1 =>
        cases r1 with
        | fl h ra => exact ⟨_, ra, fun Q q => ⟨_, _, rfl, .inl ⟨sqL_sub s h, q⟩⟩⟩
    · cases g
      cases r1 with
      | l h ra => exact ⟨_, ra, fun Q q => ⟨_, _, rfl, .inl ⟨SqL.of h, q⟩⟩⟩
    · cases g
  · cases g
/-- in -/
def flatD : D → Bool
  | .non => true | .bl _ => true | .int _ => true | .str _ => true | _ => false
def eqF : D → D → Bool
  | .non, .non => true
  | .bl a, .bl b => a == b
  | .bl a, .int b => (if a then 1 else 0) == b
  | .int a, .bl b => a == (if b then 1 else 0)
  | .int a, .int b => a == b
  | .str a, .str b => a == b
  | _, _ => false
theorem flat_view {G : Hp} {v : V} {d : D} (r : RpD K G v d) (f : flatD d = true) : flatV v = true := by
  cases r <;> first | rfl | cases f
theorem eqF_view {G : Hp} {x y : V} {d e : D} (h1 : RpD K G x d) (h2 : RpD K G y e) (f : flatD d = true) (g : flatD e = true) : eqV x y = eqF d e := by
  cases h1 <;> first | (cases h2 <;> first | rfl | cases g) | cases f
theorem inF_view {G : Hp} {x : V} {d : D} (h1 : RpD K G x d) (f : flatD d = true) : ∀ {xs : List V} {ds : List D}, RpA K G xs ds → ds.all flatD = true → xs.all flatV = true ∧ inV x xs = ds.any fun e => eqF e d
  | _, _, .nil, _ => ⟨rfl, rfl⟩
  | _, _, .cons r ra, h => by
    rw [List.all_cons, Bool.and_eq_true] at h
    obtain ⟨i1, i2⟩ := inF_view h1 f ra h.2
    refine ⟨by rw [List.all_cons, flat_view r h.1, i1] <;> rfl, ?_⟩
    unfold inV at i2 ⊢
    rw [List.any_cons, List.any_cons, eqF_view r h1 h.1 f, i2]
def rInA (K : PySem.W.Frag) : R2 := fun x y H Q => rIn K false x y H Q ∨ (∃ a o, y = .ref a ∧ DGet H a x o ∧ Q (.bl o.isSome) H) ∨ (∃ (c : Nat) (z : Str), x = .str ⟨#[c]⟩ ∧ y = .str z ∧ Q (.bl (decide (c ∈ z.cps.toList))) H) ∨ (∃ i j, x = .str i ∧ y = .str j ∧ Q (.bl (!(Builtin.Str.occurrences j i 0 j.length 1).isEmpty)) H)
def rNiA (K : PySem.W.Frag) : R2 := fun x y H Q => rIn K true x y H Q ∨ (∃ a o, y = .ref a ∧ DGet H a x o ∧ Q (.bl (!o.isSome)) H) ∨ (∃ (c : Nat) (z : Str), x = .str ⟨#[c]⟩ ∧ y = .str z ∧ Q (.bl (!decide (c ∈ z.cps.toList))) H) ∨ (∃ i j, x = .str i ∧ y = .str j ∧ Q (.bl (!(!(Builtin.Str.occurrences j i 0 j.length 1).isEmpty))) H)
theorem op_inD {X : Cx} (hu : X.A.units + 1 < cLine) : OpR X (compareOp .In) (fun x y H Q => ∃ a o, y = .ref a ∧ DGet H a x o ∧ Q (.bl o.isSome) H) := by
  intro pins s σ H x y v u Q I rx ry h
  obtain ⟨a, o, rfl, g, q⟩ := h
  cases ry
  exact d_in hu I g rx fun s' I' => ⟨.bl _, H, I', rfl, q⟩
theorem op_niD {X : Cx} (hu : X.A.units + 1 < cLine) : OpR X (compareOp .NotIn) (fun x y H Q => ∃ a o, y = .ref a ∧ DGet H a x o ∧ Q (.bl (!o.isSome)) H) := by
  intro pins s σ H x y v u Q I rx ry h
  obtain ⟨a, o, rfl, g, q⟩ := h
  cases ry
  exact d_notIn hu I g rx fun s' I' => ⟨.bl _, H, I', rfl, q⟩
theorem op_inA {X : Cx} (hu : X.A.units + 1 < cLine) : OpR X (compareOp .In) (rInA X.K) := op_in_seq.or ((op_inD hu).or (op_in_sign.or op_in_str))
theorem op_niA {X : Cx} (hu : X.A.units + 1 < cLine) : OpR X (compareOp .NotIn) (rNiA X.K) := op_notIn_seq.or ((op_niD hu).or (op_notIn_sign.or op_notin_str))
def inD : M → M → Option Bool
  | .p (.str x), .p (.str z) => match x.cps.toList with
    | [c] => some (decide (c ∈ z.cps.toList))
    | _ => some (!(Builtin.Str.occurrences z x 0 z.length 1).isEmpty)
  | .p d, m => match m.dict, d.key with
    | some (ks, vs), some y => some (getK ks vs y).isSome
    | _, _ => match m.seq with
      | some ds => if flatD d && ds.all flatD then some (ds.any fun e => eqF e d) else none
      | none => none
  | _, _ => none
def gIn : List M → Option Res
  | [a, b] => (inD a b).map fun k => .val (.bl k)
  | _ => none
def gNi : List M → Option Res
  | [a, b] => (inD a b).map fun k => .val (.bl (!k))
  | _ => none
theorem inD_ok {x y : V} {a b : M} {A B : List Addr} {k : Bool} (s : Sub F H) (r1 : RpM K F H x a A) (r2 : RpM K F H y b B) (h : inD a b = some k) : (∀ Q : VK, Q (.bl k) H → rInA K x y H Q) ∧ (∀ Q : VK, Q (.bl (!k)) H → rNiA K x y H Q) := by
  unfold inD at h
  split at h
  · rename_i u z
    cases r1 with
    | p r1 =>
      cases r1
      cases r2 with
      | p r2 =>
        cases r2
        split at h
        · rename_i c e
          cases h
          have eu : u = ⟨#[c]⟩ := by
            obtain ⟨cps⟩ := u
            have : cps = #[c] := by
              apply Array.ext'
              simpa using e
            rw [this]
          subst eu
          exact ⟨fun Q q => .inr (.inr (.inl ⟨c, z, rfl, rfl, q⟩)), fun Q q => .inr (.inr (.inl ⟨c, z, rfl, rfl, q⟩))⟩
        · cases h
          exact ⟨fun Q q => .inr (.inr (.inr ⟨u, z, rfl, rfl, q⟩)), fun Q q => .inr (.inr (.inr ⟨u, z, rfl, rfl, q⟩))⟩
  · rename_i d m _
    cases r1 with
    | p r1 =>
      split at h
      · rename_i ks vs y' e1 e2
        cases h
        obtain ⟨a, kvs, rfl, hs, rfl, ra⟩ := dict_view s r2 e1
        have ek := key_view r1 e2
        subst ek
        have eq : (valV kvs y').isSome = (getK (kvs.map (·.1)) vs y').isSome := by
          cases e : getK (kvs.map (·.1)) vs y' with
          | none => rw [(getK_view ra).2 e]; rfl
          | some d' =>
            obtain ⟨v', hv, _⟩ := (getK_view ra).1 d' e
            rw [hv]; rfl
        exact ⟨fun Q q => .inr (.inl ⟨a, _, rfl, dget_rd hs, by rw [eq]; exact q⟩), fun Q q => .inr (.inl ⟨a, _, rfl, dget_rd hs, by rw [eq]; exact q⟩)⟩
      · split at h
        · rename_i ds e
          split at h
          · rename_i hf
            cases h
            rw [Bool.and_eq_true] at hf
            obtain ⟨a, xs, rfl, hs, ra⟩ := seq_view s r2 e
            obtain ⟨i1, i2⟩ := inF_view r1 hf.1 ra hf.2
            have fx := flat_view r1 hf.1
            exact ⟨fun Q q => .inl ⟨a, xs, rfl, hs, fx, i1, by rw [i2]; exact q⟩, fun Q q => .inl ⟨a, xs, rfl, hs, fx, i1, by rw [i2]; exact q⟩⟩
          · cases h
        · cases h
  · cases h
theorem rd_in : RdOk K (fun vs H Q => ∃ x y, vs = [x, y] ∧ rInA K x y H Q) gIn := by
  intro F H vs ms res s vw g
  unfold gIn at g
  split at g
  · obtain ⟨x, y, A, B, rfl, r1, r2⟩ := vw2 vw
    obtain ⟨k, hk, rfl⟩ := Option.map_eq_some_iff.mp g
    exact ⟨.bl k, .bl k, fun Q q => ⟨x, y, rfl, (inD_ok s r1 r2 hk).1 Q q⟩⟩
  · cases g
theorem rd_ni : RdOk K (fun vs H Q => ∃ x y, vs = [x, y] ∧ rNiA K x y H Q) gNi := by
  intro F H vs ms res s vw g
  unfold gNi at g
  split at g
  · obtain ⟨x, y, A, B, rfl, r1, r2⟩ := vw2 vw
    obtain ⟨k, hk, rfl⟩ := Option.map_eq_some_iff.mp g
    exact ⟨.bl (!k), .bl (!k), fun Q q => ⟨x, y, rfl, (inD_ok s r1 r2 hk).2 Q q⟩⟩
  · cases g

/-! ### slices -/
def cutD (xs : List D) (lo hi : Option Int) : List D := (xs.drop (HT.sIx xs.length 0 lo)).take (HT.sIx xs.length xs.length hi - HT.sIx xs.length 0 lo)
theorem cut_view {xs : List V} {ds : List D} {lo hi : Option Int} (r : RpA K F xs ds) : RpA K F (cutV xs lo hi) (cutD ds lo hi) := by
  unfold cutV cutD
  rw [r.length]
  exact (r.drop _).take _
def rSlAny (K : PySem.W.Frag) : V → Option Int → Option Int → Hp → VK → Prop := fun x lo hi H Q => rSlL K x lo hi H Q ∨ rSlA K x lo hi H Q ∨ rSlS x lo hi H Q
theorem sl_any {X : Cx} : SlR X (rSlAny X.K) := sl_list.or (sl_tupA.or sl_str)
def slD (lo hi : Option Int) : M → Option Res
  | .p (.str x) => if x.length ≤ 100000 then some (.val (.str (cutS x lo hi))) else none
  | .p (.tup ds) => if HT.sIx ds.length 0 lo = 0 ∧ HT.sIx ds.length ds.length hi = ds.length then some (.val (.tup ds)) else some (.newt (cutD ds lo hi))
  | .p (.lst ds) => some (.newl (cutD ds lo hi))
  | .p (.fl ds) => some (.newl (cutD ds lo hi))
  | .l ds => some (.newl (cutD ds lo hi))
  | _ => none
/-- m[lo:hi]: the bounds are operands too -/
def sliceF (lo hi : Bool) : List M → Option Res
  | [m] => if lo = false ∧ hi = false then slD none none m else none
  | [m, .p (.int i)] => if lo = true ∧ hi = false then slD (some i) none m else if lo = false ∧ hi = true then slD none (some i) m else none
  | [m, .p (.int i), .p (.int j)] => if lo = true ∧ hi = true then slD (some i) (some j) m else none
  | _ => none
theorem sl_ok {x : V} {m : M} {A : List Addr} {lo hi : Option Int} {res : Res} (s : Sub F H) (r1 : RpM K F H x m A) (h : slD lo hi m = some res) : ResOk K F H (fun Q => rSlAny K x lo hi H Q) res := by
  unfold slD at h
  split at h
  · rename_i z
    split at h
    · rename_i hz
      cases h
      cases r1 with
      | p r1 =>
        cases r1
        exact ⟨.str _, .str _, fun Q q => .inr (.inr ⟨z, rfl, sz100 hz, q⟩)⟩
    · cases h
  · rename_i ds
    cases r1 with
    | p r1 =>
      cases r1 with
      | @tup a xs _ ht ra =>
        have e := ra.length
        split at h
        · rename_i hw
          cases h
          refine ⟨.ref a, .tup ht ra, fun Q q => .inr (.inl ⟨a, xs, rfl, sqT_sub s ht, fun _ => q, fun n => absurd ?_ n⟩)⟩
          rw [e]; exact hw
        · rename_i hw
          cases h
          refine ⟨_, cut_view ra, fun Q q => .inr (.inl ⟨a, xs, rfl, sqT_sub s ht, fun n => absurd n ?_, fun _ => q⟩)⟩
          rw [e]; exact hw
  · cases h
    cases r1 with
    | p r1 =>
      cases r1 with
      | lst ht ra => exact ⟨_, cut_view ra, fun Q q => .inl ⟨_, _, rfl, SqL.of (s _ _ ht), q⟩⟩
  · cases h
    cases r1 with
    | p r1 =>
      cases r1 with
      | fl ht ra => exact ⟨_, cut_view ra, fun Q q => .inl ⟨_, _, rfl, sqL_sub s ht, q⟩⟩
  · cases h
    cases r1 with
    | l ht ra => exact ⟨_, cut_view ra, fun Q q => .inl ⟨_, _, rfl, SqL.of ht, q⟩⟩
  · cases h
theorem rd_sl0 : RdOk K (fun vs H Q => ∃ x, vs = [x] ∧ rSlAny K x none none H Q) (sliceF false false) := by
  intro F H vs ms res s vw g
  unfold sliceF at g
  split at g
  · obtain ⟨x, A, rfl, r1⟩ := vw1 vw
    simp only [and_self, if_true] at g
    have q := sl_ok s r1 g
    cases res <;> (obtain ⟨a, b, c⟩ := q) <;> first
      | exact ⟨a, b, fun Q z => ⟨x, rfl, c Q z⟩⟩
      | exact ⟨a, b, c.1, fun Q z => ⟨x, rfl, c.2 Q z⟩⟩
  · simp at g
  · simp at g
  · cases g
theorem rd_slL : RdOk K (fun vs H Q => ∃ x y, vs = [x, y] ∧ ∃ i, y = .int i ∧ rSlAny K x (some i) none H Q) (sliceF true false) := by
  intro F H vs ms res s vw g
  unfold sliceF at g
  split at g
  · simp at g
  · rename_i m i
    obtain ⟨x, y, A, B, rfl, r1, r2⟩ := vw2 vw
    simp only [and_self, if_true] at g
    have q := sl_ok s r1 g
    cases r2 with
    | p r2 =>
      cases r2
      cases res <;> (obtain ⟨a, b, c⟩ := q) <;> first
        | exact ⟨a, b, fun Q z => ⟨x, _, rfl, i, rfl, c Q z⟩⟩
        | exact ⟨a, b, c.1, fun Q z => ⟨x, _, rfl, i, rfl, c.2 Q z⟩⟩
  · simp at g
  · cases g
theorem rd_slH : RdOk K (fun vs H Q => ∃ x y, vs = [x, y] ∧ ∃ i, y = .int i ∧ rSlAny K x none (some i) H Q) (sliceF false true) := by
  intro F H vs ms res s vw g
  unfold sliceF at g
  split at g
  · simp at g
  · rename_i m i
    obtain ⟨x, y, A, B, rfl, r1, r2⟩ := vw2 vw
    simp at g
    have q := sl_ok s r1 g
    cases r2 with
    | p r2 =>
      cases r2
      cases res <;> (obtain ⟨a, b, c⟩ := q) <;> first
        | exact ⟨a, b, fun Q z => ⟨x, _, rfl, i, rfl, c Q z⟩⟩
        | exact ⟨a, b, c.1, fun Q z => ⟨x, _, rfl, i, rfl, c.2 Q z⟩⟩
  · simp at g
  · cases g
theorem vw3 {vs : List V} {a b c : M} (h : VwA K F H vs [a, b, c]) : ∃ x y z A B C, vs = [x, y, z] ∧ RpM K F H x a A ∧ RpM K F H y b B ∧ RpM K F H z c C := by
  cases h with
  | cons h1 h =>
    obtain ⟨y, z, B, C, rfl, h2, h3⟩ := vw2 h
    exact ⟨_, _, _, _, _, _, rfl, h1, h2, h3⟩
theorem rd_slB : RdOk K (fun vs H Q => ∃ x y z, vs = [x, y, z] ∧ ∃ i j, y = .int i ∧ z = .int j ∧ rSlAny K x (some i) (some j) H Q) (sliceF true true) := by
  intro F H vs ms res s vw g
  unfold sliceF at g
  split at g
  · simp at g
  · simp at g
  · rename_i m i j
    obtain ⟨x, y, z, A, B, C, rfl, r1, r2, r3⟩ := vw3 vw
    simp only [and_self, if_true] at g
    have q := sl_ok s r1 g
    cases r2 with
    | p r2 =>
      cases r2
      cases r3 with
      | p r3 =>
        cases r3
        cases res <;> (obtain ⟨a, b, c⟩ := q) <;> first
          | exact ⟨a, b, fun Q z => ⟨x, _, _, rfl, i, j, rfl, rfl, c Q z⟩⟩
          | exact ⟨a, b, c.1, fun Q z => ⟨x, _, _, rfl, i, j, rfl, rfl, c.2 Q z⟩⟩
  · cases g
end
section
variable {X : Cx} {W : WX} {K : PySem.W.Frag} {σ : L2.St} {H : Hp} {pos : Pos}
theorem be_sl0 {e : Expr} {a : WO} {p2 : Pos} (h : PE X e (tO X.K W a)) : PE X (.Subscript e (.Slice none none none p2) pos) (tE X.K W (wRd (sliceF false false) (wCons a wNil))) :=
  (pe_slice sl_any h po_none po_none).wk fun _ _ _ q => tO_1 (tE_rd rd_sl0 q)
theorem be_slL {e i : Expr} {a b : WO} {p2 : Pos} (h : PE X e (tO X.K W a)) (hi : PE X i (tO X.K W b)) : PE X (.Subscript e (.Slice (some i) none none p2) pos) (tE X.K W (wRd (sliceF true false) (wCons a (wCons b wNil)))) :=
  (pe_slice sl_any h (po_some hi) po_none).wk fun σ H Q q => tO_2 (r := fun x y H Q => ∃ i, y = .int i ∧ rSlAny X.K x (some i) none H Q) (tE_rd rd_slL q)
theorem be_slH {e i : Expr} {a b : WO} {p2 : Pos} (h : PE X e (tO X.K W a)) (hi : PE X i (tO X.K W b)) : PE X (.Subscript e (.Slice none (some i) none p2) pos) (tE X.K W (wRd (sliceF false true) (wCons a (wCons b wNil)))) :=
  (pe_slice sl_any h po_none (po_some hi)).wk fun σ H Q q => tO_2 (r := fun x y H Q => ∃ i, y = .int i ∧ rSlAny X.K x none (some i) H Q) (tE_rd rd_slH q)
theorem tO_3 {a b c : WO} {Q : List V → Hp → Prop} (h : tA K W (wCons a (wCons b (wCons c wNil))) σ H Q) : (tO K W a) σ H (fun x H1 => (tO K W b) σ H1 (fun y H2 => (tO K W c) σ H2 (fun z H3 => Q [x, y, z] H3))) := by
  obtain ⟨env, R, C, CX, ok, h, hQ, hX⟩ := tA_cons h
  refine ⟨env, R, C, CX, ok, h, fun v H' o env' q c => ?_, hX⟩
  obtain ⟨env, R, C, CX, ok, h, hQ, hX⟩ := tA_cons (hQ v H' o env' q c)
  refine ⟨env, R, C, CX, ok, h, fun v2 H2 o2 env2 q2 c2 => ?_, hX⟩
  obtain ⟨env, R, C, CX, ok, h, hQ, hX⟩ := tA_cons (hQ v2 H2 o2 env2 q2 c2)
  exact ⟨env, R, C, CX, ok, h, fun v3 H3 o3 env3 q3 c3 => tA_nil (hQ v3 H3 o3 env3 q3 c3), hX⟩
def wSlB (a : WO) (b c : BV.WE) : BV.WE := fun e C X => a e (fun oa e1 => b e1 (fun mb e2 => match mb with
  | .p (.int i) => c e2 (fun mc e3 => match mc with
    | .p (.int j) => (match (msOf e3 [oa]).bind (fun ms => match ms with | [m] => slD (some i) (some j) m | _ => none) with
      | some r => C r.m e3
      | none => False)
    | _ => False) X
  | _ => False) X) X
theorem int_of {R : List Ent} {env : Env} {v : V} {i : Int} (o : OkS K H σ env ((some v, some (.p (.int i))) :: R)) : v = .int i := by
  obtain ⟨F, A, o⟩ := o.topR
  obtain ⟨_, _, _, r, _, _⟩ := o.head
  cases r with
  | p r => cases r; rfl
theorem be_slB {e i j : Expr} {a : WO} {b c : BV.WE} {p2 : Pos} (h : PE X e (tO X.K W a)) (hi : PE X i (tE X.K W b)) (hj : PE X j (tE X.K W c)) : PE X (.Subscript e (.Slice (some i) (some j) none p2) pos) (tE X.K W (wSlB a b c)) :=
  (pe_slice sl_any h (po_some hi) (po_some hj)).wk fun σ H Q q => by
    obtain ⟨env, R, C, CX, ok, h, hQ, hX⟩ := q
    refine ⟨env, R, _, CX, ok, h, fun v1 H1 o1 env1 q1 z1 => ?_, hX⟩
    have step : ∀ (R1 : List Ent), (R1 = R ∨ ∃ t, R1 = t :: R) → OkS X.K H1 σ env1 R1 → (∀ {H' : Hp} {env' : Env} {m : M}, msOf env' [o1] = some [m] → OkS X.K H' σ env' R1 → ∃ F A AA, Op X.K F H' (σ.zip env' ++ R1) A ∧ RpM X.K F H' v1 m AA) →
        tPart (tE X.K W b) σ H1 (fun l H2 => tPart (tE X.K W c) σ H2 fun u H3 => rSlAny X.K v1 l u H3 Q) := fun R1 hR1 ok1 hv => by
      have hX1 : ∀ x env' cls d H', OkX X.K H' σ env' R1 x cls d → CX x env' → W cls d σ H' := fun x env' cls d H' z => by
        rcases hR1 with rfl | ⟨t, rfl⟩
        · exact hX x env' cls d H' z
        · exact hX x env' cls d H' z.popR
      refine ⟨env1, R1, _, CX, ok1, z1, fun v2 H2 m2 env2 q2 z2 => ?_, hX1⟩
      split at z2
      · rename_i i'
        have e2 := int_of q2
        refine ⟨i', e2, env2, R1, _, CX, q2.popR, z2, fun v3 H3 m3 env3 q3 z3 => ?_, hX1⟩
        split at z3
        · rename_i j'
          have e3 := int_of q3
          refine ⟨j', e3, ?_⟩
          have q4 := q3.popR
          cases e5 : (msOf env3 [o1]).bind (fun ms => match ms with | [m] => slD (some i') (some j') m | _ => none) with
          | none => rw [e5] at z3; exact z3.elim
          | some res =>
            rw [e5] at z3
            obtain ⟨ms, h1, h2⟩ := Option.bind_eq_some_iff.mp e5
            split at h2
            · rename_i m
              obtain ⟨F, A, AA, op, rm⟩ := hv h1 q4
              rcases hR1 with rfl | ⟨t, rfl⟩
              · exact res_ok (T := []) q4.1 op (sl_ok op.sub rm h2) z3 hQ
              · exact res_ok (T := [t]) q4.1 op (sl_ok op.sub rm h2) z3 hQ
            · cases h2
        · exact z3.elim
      · exact z2.elim
    cases o1 with
    | inl i1 =>
      obtain ⟨s1, q1⟩ := q1
      refine step R (.inl rfl) q1 fun {H' env' m} hm q => ?_
      obtain ⟨_, F, A, op⟩ := id q
      have vw := views (vs := [v1]) (os := [.inl i1]) op ⟨s1, trivial⟩ hm (fun e he => List.mem_append_left _ he) (fun e he => by simp [temps] at he)
      obtain ⟨x, AA, e, rm⟩ := vw1 vw
      cases e
      exact ⟨F, A, AA, op, rm⟩
    | inr m1 =>
      have q1 : OkS X.K H1 σ env1 ((some v1, some m1) :: R) := q1
      refine step _ (.inr ⟨_, rfl⟩) q1 fun {H' env' m} hm q => ?_
      obtain ⟨_, F, A, op⟩ := id q
      have vw := views (vs := [v1]) (os := [.inr m1]) op trivial hm (fun e he => List.mem_append_left _ he) (fun e he => by
        have : e = (some v1, some m1) := by simpa [temps] using he
        rw [this]; simp)
      obtain ⟨x, AA, e, rm⟩ := vw1 vw
      cases e
      exact ⟨F, A, AA, op, rm⟩

/-! ### a built-in type's methods, on what a slot holds -/
def wMeth (chk : M → Bool) (i : Nat) (g : M → List D → Option (M × D)) (wv : WV) : BV.WE := fun e C X => (match e[i]? with | some (some m) => chk m = true | _ => False) ∧ wv e (fun ds e1 => match e1[i]? with
  | some (some m) => (match g m ds with
    | some (m', d) => C (.p d) (e1.set i (some m'))
    | none => False)
  | _ => False) X
structure MeOk (K : PySem.W.Frag) (T : V → Hp → Prop) (r : V → List V → Hp → VK → Prop) (chk : M → Bool) (g : M → List D → Option (M × D)) : Prop where
  ty : ∀ F H v m A, Sub F H → RpM K F H v m A → chk m = true → T v H
  run : ∀ F H v m A vs ds m' d, Sub F H → RpM K F H v m A → (∀ a ∈ A, F a = none) → RpA K F vs ds → g m ds = some (m', d) → ∃ y H', RpD K F y d ∧ (∀ Q : VK, Q y H' → r v vs H Q) ∧
    ((H' = H ∧ m' = m) ∨ ∃ a u, v = .ref a ∧ A = [a] ∧ H' = upd H a u ∧ RpM K F H' v m' [a])
theorem tE_meth {T : V → Hp → Prop} {r : V → List V → Hp → VK → Prop} {chk : M → Bool} {i : Nat} {g : M → List D → Option (M × D)} {wv : WV} {Q : VK} (k : MeOk K T r chk g) (h : tE K W (wMeth chk i g wv) σ H Q) :
    ∃ v, σ[i]? = some (some v) ∧ T v H ∧ tV K W wv σ H (fun vs H2 => r v vs H2 Q) := by
  obtain ⟨env, R, C, CX, ok, ⟨hc, h⟩, hQ, hX⟩ := h
  split at hc
  · rename_i m0 e0
    obtain ⟨v, ev, q0⟩ := ok.get e0
    obtain ⟨F0, A0, o0⟩ := q0
    obtain ⟨_, _, _, r0, _, _⟩ := o0.head
    refine ⟨v, ev, k.ty F0 H v m0 _ o0.sub r0 hc, env, R, _, CX, ok, h, fun vs H' ds env' hl q z => ?_, hX⟩
    split at z
    · rename_i m e1
      cases e2 : g m ds with
      | none => rw [e2] at z; exact z.elim
      | some p =>
        obtain ⟨m', d⟩ := p
        rw [e2] at z
        obtain ⟨F, A, o, ra⟩ := q.vals hl
        have hs : i < σ.length := (List.getElem?_eq_some_iff.mp ev).1
        have hz : (σ.zip env')[i]? = some (some v, some m) := zip_get ev e1
        obtain ⟨A1, o1⟩ := o.perm ((perm_get hz).append_right R)
        obtain ⟨B1, B2, rfl, rm, o2, dj⟩ := Op.head (L := (σ.zip env').eraseIdx i ++ R) o1
        obtain ⟨y, H2, ry, rq, w⟩ := k.run F H' v m B1 vs ds m' d o1.sub rm (fun a ha => o1.fr a (List.mem_append_left _ ha)) ra e2
        refine rq Q ?_
        have fin : ∀ {A2 : List Addr}, Op K F H2 ((some v, some m') :: ((σ.zip env').eraseIdx i ++ R)) A2 → Q y H2 := fun {A2} o3 => by
          have o4 : Ok K H2 ((some v, some m') :: ((σ.zip env').eraseIdx i ++ ((some y, some (.p d)) :: R))) :=
            Ok.perm ⟨F, A2, o3.pushP ry⟩ ((List.Perm.swap _ _ _).trans ((perm_mid ((σ.zip env').eraseIdx i) R _).symm.cons _))
          exact hQ y H2 _ _ (OkS.put' q.1 ev o4) z
        rcases w with ⟨rfl, rfl⟩ | ⟨a, u, rfl, rfl, rfl, rm'⟩
        · exact fin o1
        · exact fin (Op.write (m := m) (A1 := []) o1.sub o2 dj (by simp) (fun x hx => o1.fr x (List.mem_append_left _ hx)) rm')
    · exact z.elim
  · exact hc.elim
theorem be_bm {T : String} {name : Str} {o : Expr} {e : Expr} {es : List Expr} {r : V → List V → Hp → VK → Prop} {chk : M → Bool} {i : Nat} {g : M → List D → Option (M × D)} {wv : WV} {apos cpos : Pos} (k : MeOk X.K (tyV X.K T) r chk g)
    (h : PE X (.Call (.Attribute o name apos) (e :: es) [] cpos) (tBM X.K T r (tVar i) (tV X.K W wv))) : PE X (.Call (.Attribute o name apos) (e :: es) [] cpos) (tE X.K W (wMeth chk i g wv)) :=
  h.wk fun σ H Q q => by
    obtain ⟨v, e1, e2, e3⟩ := tE_meth k q
    exact ⟨v, e1, e2, e3⟩
theorem be_bm0 {T : String} {name : Str} {o : Expr} {r : V → List V → Hp → VK → Prop} {chk : M → Bool} {i : Nat} {g : M → List D → Option (M × D)} {apos cpos : Pos} (k : MeOk X.K (tyV X.K T) r chk g)
    (h : PE X (.Call (.Attribute o name apos) [] [] cpos) (tBM0 X.K T r (tVar i))) : PE X (.Call (.Attribute o name apos) [] [] cpos) (tE X.K W (wMeth chk i g wvNil)) :=
  h.wk fun σ H Q q => by
    obtain ⟨v, e1, e2, env, R, C, CX, ok, h, hQ, hX⟩ := tE_meth k q
    exact ⟨v, e1, e2, hQ [] H [] env rfl ok h⟩
def isL : M → Bool
  | .l _ => true
  | _ => false
theorem ty_list {F : Hp} {v : V} {m : M} {A : List Addr} (s : Sub F H) (r : RpM K F H v m A) (h : isL m = true) : tyV K "list" v H := by
  cases r <;> first | exact .inl ⟨rfl, _, SqL.of (by assumption)⟩ | cases h
def gAppend : M → List D → Option (M × D)
  | .l ds, [d] => if ds.length < 100000 then some (.l (ds ++ [d]), .non) else none
  | _, _ => none
theorem me_append : MeOk K (tyV K "list") rAppend isL gAppend := by
  refine ⟨fun F H v m A s r h => ty_list s r h, fun F H v m A vs ds m' d s r hF ra g => ?_⟩
  unfold gAppend at g
  split at g
  · split at g
    · rename_i xs z hz
      cases g
      cases r with
      | @l a us _ h r =>
        cases ra with
        | cons r1 r2 =>
          cases r2
          refine ⟨.non, _, .non, fun Q q => ⟨a, us, _, rfl, rfl, h, ?_, q⟩, .inr ⟨a, _, rfl, rfl, rfl, .l upd_same (r.append (.cons r1 .nil))⟩⟩
          rw [r.length]
          exact Nat.lt_of_lt_of_le hz (by decide)
    · cases g
  · cases g
def gPop : M → List D → Option (M × D)
  | .l ds, [] => (ds[ds.length - 1]?).map fun d => (.l ds.dropLast, d)
  | _, _ => none
theorem me_pop : MeOk K (tyV K "list") rPop isL gPop := by
  refine ⟨fun F H v m A s r h => ty_list s r h, fun F H v m A vs ds m' d s r hF ra g => ?_⟩
  unfold gPop at g
  split at g
  · rename_i xs
    obtain ⟨z, hz, e⟩ := Option.map_eq_some_iff.mp g
    cases e
    cases r with
    | @l a us _ h r =>
      cases ra
      obtain ⟨y, hy, ry⟩ := r.get hz
      exact ⟨y, _, ry, fun Q q => ⟨a, us, y, rfl, rfl, h, by rw [r.length]; exact hy, q⟩, .inr ⟨a, _, rfl, rfl, rfl, .l upd_same r.dropLast⟩⟩
  · cases g
def gExtend : M → List D → Option (M × D)
  | .l ds, [.lst es] => if ds.length + es.length ≤ 100000 then some (.l (ds ++ es), .non) else none
  | _, _ => none
theorem me_extend : MeOk K (tyV K "list") rExtend isL gExtend := by
  refine ⟨fun F H v m A s r h => ty_list s r h, fun F H v m A vs ds m' d s r hF ra g => ?_⟩
  unfold gExtend at g
  split at g
  · split at g
    · rename_i xs es hz
      cases g
      cases r with
      | @l a us _ h r =>
        cases ra with
        | cons r1 r2 =>
          cases r2
          cases r1 with
          | @lst b ws _ hb rb =>
            refine ⟨.non, _, .non, fun Q q => ⟨a, b, us, ws, rfl, rfl, h, s _ _ hb, ?_, q⟩, .inr ⟨a, _, rfl, rfl, rfl, .l upd_same (r.append rb)⟩⟩
            rw [r.length, rb.length]
            exact sz100 hz
    · cases g
  · cases g
end
end BV

namespace BV
open PySem L2 PyProof.Rows
section
variable {X : Cx} {W : WX} {K : PySem.W.Frag} {σ : L2.St} {H : Hp} {pos : Pos}
theorem tV_cons {a : BV.WE} {r : WV} {Q : List V → Hp → Prop} (h : tV K W (wvCons a r) σ H Q) : tCons (tE K W a) (tV K W r) σ H Q := by
  obtain ⟨env, R, C, CX, ok, h, hQ, hX⟩ := h
  refine ⟨env, R, _, CX, ok, h, fun v H' m env' q z => ?_, hX⟩
  split at z
  · rename_i d hz
    refine ⟨env', _, _, CX, q.freezeR hz, z, fun vs H2 ds env2 z1 z2 z3 => hQ (v :: vs) H2 (d :: ds) env2 (by simp [z1]) (z2.permR (perm_mid _ _ _)) z3, fun x env2 cls d H2 z1 z2 => hX x env2 cls d H2 z1.popR z2⟩
  · exact z.elim
theorem tV_nil {Q : List V → Hp → Prop} (h : tV K W wvNil σ H Q) : Q [] H := by
  obtain ⟨env, R, C, CX, ok, h, hQ, hX⟩ := h
  exact hQ [] H [] env rfl ok h
theorem tV_2 {a b : BV.WE} {Q : List V → Hp → Prop} (h : tV K W (wvCons a (wvCons b wvNil)) σ H Q) : tE K W a σ H (fun x H1 => tE K W b σ H1 (fun y H2 => Q [x, y] H2)) := by
  obtain ⟨env, R, C, CX, ok, h, hQ, hX⟩ := tV_cons h
  refine ⟨env, R, C, CX, ok, h, fun v H' m env' q c => ?_, hX⟩
  obtain ⟨env, R, C, CX, ok, h, hQ, hX⟩ := tV_cons (hQ v H' m env' q c)
  exact ⟨env, R, C, CX, ok, h, fun v2 H2 m2 env2 q2 c2 => tV_nil (hQ v2 H2 m2 env2 q2 c2), hX⟩
theorem tV_1 {a : BV.WE} {Q : List V → Hp → Prop} (h : tV K W (wvCons a wvNil) σ H Q) : tE K W a σ H (fun x H1 => Q [x] H1) := by
  obtain ⟨env, R, C, CX, ok, h, hQ, hX⟩ := tV_cons h
  exact ⟨env, R, C, CX, ok, h, fun v H' m env' q c => tV_nil (hQ v H' m env' q c), hX⟩
/-! ### dicts -/
def isK (m : M) : Bool := m.dict.isSome
theorem isD_view {F : Hp} {v : V} {m : M} {A : List Addr} (s : Sub F H) (r : RpM K F H v m A) (h : isK m = true) : ∃ a, v = .ref a ∧ IsD H a := by
  obtain ⟨⟨ks, vs⟩, e⟩ := Option.isSome_iff_exists.mp h
  obtain ⟨a, kvs, rfl, hs, _, _⟩ := dict_view s r e
  exact ⟨a, rfl, .inl ⟨kvs, hs⟩⟩
def gGet2 : M → List D → Option (M × D)
  | m, [k, x] => match m.dict, k.key with
    | some (ks, vs), some y => some (m, (getK ks vs y).getD x)
    | _, _ => none
  | _, _ => none
theorem me_get2 : MeOk K (fun v H => ∃ a, v = .ref a ∧ IsD H a) (fun v vs H Q => ∃ a y z o, v = .ref a ∧ vs = [y, z] ∧ DGet H a y o ∧ Q (o.getD z) H) isK gGet2 := by
  refine ⟨fun F H v m A s r h => isD_view s r h, fun F H v m A vs ds m' d s r hF ra g => ?_⟩
  unfold gGet2 at g
  split at g
  · split at g
    · rename_i k x _ _ ks es y e1 e2
      cases g
      obtain ⟨a, kvs, rfl, hs, rfl, rv⟩ := dict_view s r e1
      cases ra with
      | cons r1 r2 =>
        cases r2 with
        | @cons zv _ _ _ r2 r3 =>
          cases r3
          have ek := key_view r1 e2
          subst ek
          have := getK_view (k := y) rv
          cases e : getK (kvs.map (·.1)) es y with
          | none =>
            exact ⟨zv, H, by simpa using r2, fun Q q => ⟨a, _, zv, none, rfl, rfl, by rw [← this.2 e]; exact dget_rd hs, q⟩, .inl ⟨rfl, rfl⟩⟩
          | some d0 =>
            obtain ⟨w, hw, rw'⟩ := this.1 d0 e
            exact ⟨w, H, by simpa using rw', fun Q q => ⟨a, _, zv, some w, rfl, rfl, by rw [← hw]; exact dget_rd hs, q⟩, .inl ⟨rfl, rfl⟩⟩
    · cases g
  · cases g
theorem be_dget2 {o e f : Expr} {i : Nat} {a b : BV.WE} {apos cpos : Pos} (hu : X.A.units + 1 < cLine) (ho : PE X o (tVar i)) (he : PE X e (tE X.K W a)) (hf : PE X f (tE X.K W b)) (m : M2 X o "get" apos e f cpos) :
    PE X (.Call (.Attribute o "get" apos) [e, f] [] cpos) (tE X.K W (wMeth isK i gGet2 (wvCons a (wvCons b wvNil)))) :=
  (pe_dget2 hu ho he hf m).wk fun σ H Q q => by
    obtain ⟨v, e1, ⟨p, rfl, hd⟩, q⟩ := tE_meth me_get2 q
    refine ⟨_, e1, p, rfl, hd, ?_⟩
    obtain ⟨env, R, C, CX, ok, h, hQ, hX⟩ := tV_2 q
    refine ⟨env, R, C, CX, ok, h, fun v1 H1 m1 env1 q1 c1 => ?_, hX⟩
    obtain ⟨env, R, C, CX, ok, h, hQ, hX⟩ := hQ v1 H1 m1 env1 q1 c1
    refine ⟨env, R, C, CX, ok, h, fun v2 H2 m2 env2 q2 c2 => ?_, hX⟩
    obtain ⟨a, y, z, o, ea, ey, hg, hq⟩ := hQ v2 H2 m2 env2 q2 c2
    cases ea; cases ey
    exact ⟨o, hg, hq⟩
def gSetd : M → List D → Option (M × D)
  | .k ks vs, [k, x] => match k.key with
    | some y => if ks.length < 100000 then (match getK ks vs y with
      | some d => some (.k ks vs, d)
      | none => some (.k (ks ++ [y]) (vs ++ [x]), x)) else none
    | none => none
  | _, _ => none
theorem me_setd : MeOk K (fun v H => ∃ a, v = .ref a ∧ IsD H a) (fun v vs H Q => ∃ a y z kvs k, v = .ref a ∧ vs = [y, z] ∧ H a = some (.dK kvs) ∧ y = kV k ∧ kvs.length < sizeLine ∧
    (∀ v, valV kvs k = some v → Q v H) ∧ (valV kvs k = none → Q z (upd H a (.dK (putK kvs k z))))) isK gSetd := by
  refine ⟨fun F H v m A s r h => isD_view s r h, fun F H v m A vs ds m' d s r hF ra g => ?_⟩
  unfold gSetd at g
  split at g
  · rename_i m ds ks es k x
    cases r with
    | @k a kvs _ hs rv =>
      cases ra with
      | cons r1 r2 =>
        cases r2 with
        | @cons zv _ _ _ r2 r3 =>
          cases r3
          split at g
          · rename_i y ey
            have ek := key_view r1 ey
            subst ek
            split at g
            · rename_i hl
              have hl : kvs.length < sizeLine := by rw [List.length_map] at hl; exact Nat.lt_of_lt_of_le hl (by decide)
              have := getK_view (k := y) rv
              split at g
              · rename_i d0 e
                cases g
                obtain ⟨w, hw, rw'⟩ := this.1 _ e
                exact ⟨w, H, rw', fun Q q => ⟨a, _, zv, kvs, y, rfl, rfl, hs, rfl, hl, fun u hu => (by rw [hw] at hu; cases hu; exact q), fun n => (by rw [hw] at n; cases n)⟩, .inl ⟨rfl, rfl⟩⟩
              · rename_i e
                cases g
                have hn := this.2 e
                refine ⟨zv, _, r2, fun Q q => ⟨a, _, zv, kvs, y, rfl, rfl, hs, rfl, hl, fun u hu => (by rw [hn] at hu; cases hu), fun _ => q⟩, .inr ⟨a, _, rfl, rfl, rfl, ?_⟩⟩
                have e1 : kvs.map (·.1) ++ [y] = (putK kvs y zv).map (·.1) := by rw [putK_new _ hn]; simp
                rw [e1]
                refine .k upd_same ?_
                rw [putK_new _ hn, List.map_append]
                exact rv.append (.cons r2 .nil)
            · cases g
          · cases g
  · cases g
theorem be_setd {o e f : Expr} {i : Nat} {a b : BV.WE} {apos cpos : Pos} (ho : PE X o (tVar i)) (he : PE X e (tE X.K W a)) (hf : PE X f (tE X.K W b)) (m : M2 X o "setdefault" apos e f cpos) :
    PE X (.Call (.Attribute o "setdefault" apos) [e, f] [] cpos) (tE X.K W (wMeth isK i gSetd (wvCons a (wvCons b wvNil)))) :=
  (pe_dsetd ho he hf m).wk fun σ H Q q => by
    obtain ⟨v, e1, ⟨p, rfl, hd⟩, q⟩ := tE_meth me_setd q
    refine ⟨_, e1, p, rfl, hd, ?_⟩
    obtain ⟨env, R, C, CX, ok, h, hQ, hX⟩ := tV_2 q
    refine ⟨env, R, C, CX, ok, h, fun v1 H1 m1 env1 q1 c1 => ?_, hX⟩
    obtain ⟨env, R, C, CX, ok, h, hQ, hX⟩ := hQ v1 H1 m1 env1 q1 c1
    refine ⟨env, R, C, CX, ok, h, fun v2 H2 m2 env2 q2 c2 => ?_, hX⟩
    obtain ⟨a, y, z, kvs, k, ea, ey, h3, h4, h5, h6, h7⟩ := hQ v2 H2 m2 env2 q2 c2
    cases ea; cases ey
    exact ⟨kvs, k, h3, h4, h5, h6, h7⟩
def wDictNew : BV.WE := fun e C _ => C (.k [] []) e
theorem be_dnew : PE X (.Dict [] [] pos) (tE X.K W wDictNew) := pe_dnewK.wk fun σ H Q ⟨env, R, C, CX, ok, h, hQ, hX⟩ => fun p hp => by
  obtain ⟨F, A, o⟩ := ok.2
  exact hQ _ _ _ env (OkS.ofTop ok.1 ⟨F, _, o.newK (kvs := []) .nil hp⟩) h
/-! ### x[i] = v -/
def replD (k : Key) (d : D) : List Key → List D → List D
  | y :: ks, v :: vs => (if y = k then d else v) :: replD k d ks vs
  | _, _ => []
def putD (ks : List Key) (vs : List D) (k : Key) (d : D) : List Key × List D :=
  if ks.any (fun y => decide (y = k)) = true then (ks, replD k d ks vs) else (ks ++ [k], vs ++ [d])
def setD : M → D → D → Option M
  | .l ds, .int i, d => (ixN ds.length i).map fun j => .l (ds.set j d)
  | .k ks vs, k, d => match k.key with
    | some y => if ks.length < 100000 then some (.k (putD ks vs y d).1 (putD ks vs y d).2) else none
    | none => none
  | _, _, _ => none
def rSetA : V → V → V → Hp → (Hp → Prop) → Prop := fun o i v H Q => rSetL o i v H Q ∨ ∃ a H', o = .ref a ∧ DPut H a i v H' ∧ Q H'
theorem set_any (hu : X.A.units + 1 < cLine) : PSet X rSetA := by
  intro pins s σ H o i v ov iv u Q I ro ri rv h
  rcases h with h | ⟨a, H', rfl, h, q⟩
  · exact set_list pins s σ H o i v ov iv u Q I ro ri rv h
  · cases ro
    exact d_setItem hu I h ri rv fun s' I' => ⟨H', I', q⟩
theorem repl_view {k : Key} {v : V} {d : D} {F : Hp} (rd : RpD K F v d) : ∀ {kvs : List (Key × V)} {ds : List D}, RpA K F (kvs.map (·.2)) ds → RpA K F ((kvs.map fun kv => if kv.1 = k then (kv.1, v) else kv).map (·.2)) (replD k d (kvs.map (·.1)) ds)
  | [], ds, ra => by cases ra; exact .nil
  | p :: r, ds, ra => by
    cases ra with
    | @cons _ _ d0 ds r1 r2 =>
      have ih := repl_view (k := k) rd r2
      show RpA K F ((if p.1 = k then (p.1, v) else p).2 :: _) ((if p.1 = k then d else d0) :: _)
      by_cases e : p.1 = k
      · rw [if_pos e, if_pos e]; exact .cons rd ih
      · rw [if_neg e, if_neg e]; exact .cons r1 ih
theorem putD_view {kvs : List (Key × V)} {ds : List D} {k : Key} {v : V} {d : D} {F : Hp} (ra : RpA K F (kvs.map (·.2)) ds) (rd : RpD K F v d) :
    (putK kvs k v).map (·.1) = (putD (kvs.map (·.1)) ds k d).1 ∧ RpA K F ((putK kvs k v).map (·.2)) (putD (kvs.map (·.1)) ds k d).2 := by
  have ea : ((kvs.map (·.1)).any fun y => decide (y = k)) = (kvs.any fun kv => decide (kv.1 = k)) := by rw [List.any_map]; rfl
  unfold putD putK
  rw [ea]
  by_cases h : (kvs.any fun kv => decide (kv.1 = k)) = true
  · rw [if_pos h, if_pos h]
    refine ⟨?_, repl_view rd ra⟩
    rw [List.map_map]
    refine List.map_congr_left fun p _ => ?_
    show (if p.1 = k then (p.1, v) else p).1 = p.1
    split <;> rfl
  · rw [if_neg h, if_neg h]
    simp only [List.map_append, List.map_cons, List.map_nil]
    exact ⟨True.intro, ra.append (.cons rd .nil)⟩
def wgSub (i : Nat) (wi : BV.WE) : WG := fun m e C => match m.fz, e[i]? with
  | some d, some (some _) => wi e (fun mk e1 => match mk, e1[i]? with
    | .p k, some (some own) => (match setD own k d with
      | some own' => C (e1.set i (some own'))
      | none => False)
    | _, _ => False) (fun _ _ => False)
  | _, _ => False
theorem bg_sub {pr : Nat → Bool} {o ix : Expr} {i : Nat} {wi : BV.WE} (hu : X.A.units + 1 < cLine) (ho : PE X o (tVar i)) (hi : PE X ix (tE X.K W wi))
    (ha : ∀ v, assign (.Subscript o ix pos) X.env v = (do
      let ov ← holding [v] (eval o X.env)
      let iv ← holding [v, ov] (eval ix X.env)
      standAt pos
      holding [v, ov, iv] (setItem ov iv v)
      release [v, ov, iv] []) := by intro _; rfl) : PG X (.Subscript o ix pos) (tG X.K pr (wgSub i wi)) :=
  (pg_sub ho hi (set_any hu) ha).wk fun v σ H Q ⟨env, R, m, C, ok, h, k⟩ => by
    unfold wgSub at h
    split at h
    · rename_i d own0 ez e0
      have ok := ok.freezeR ez
      obtain ⟨ov, hs, _⟩ := ok.get e0
      · refine ⟨ov, hs, env, _, _, _, ok, h, fun vk H1 mk env1 q z => ?_, fun _ _ _ _ _ _ z => z.elim⟩
        split at z
        · rename_i k' own e1
          cases es : setD own k' d with
          | none => rw [es] at z; exact z.elim
          | some own' =>
            rw [es] at z
            obtain ⟨F, A, o⟩ := q.topR
            obtain ⟨_, A1, _, rk, o1, _⟩ := o.head
            have p1 : (σ.zip env1 ++ (some v, some (M.p d)) :: R).Perm ((some v, some (M.p d)) :: (σ.zip env1 ++ R)) := List.perm_middle
            obtain ⟨A2, o2⟩ := o1.perm p1
            obtain ⟨_, A3, _, rv, o3, _⟩ := o2.head
            have hz : (σ.zip env1)[i]? = some (some ov, some own) := zip_get hs e1
            obtain ⟨A4, o4⟩ := o3.perm ((perm_get hz).append_right R)
            obtain ⟨B1, B2, rfl, ro, o5, dj⟩ := Op.head (L := (σ.zip env1).eraseIdx i ++ R) o4
            cases rk with
            | p rk =>
              cases rv with
              | p rv =>
                have fin : ∀ {a : Addr} {u : HO}, ov = .ref a → B1 = [a] → RpM X.K F (upd H1 a u) (.ref a) own' [a] → Q σ (upd H1 a u) := fun {a u} ea eb rm => by
                  subst ea; subst eb
                  have o6 := Op.write (m := own) (A1 := []) o4.sub o5 dj (by simp) (fun x hx => o4.fr x (List.mem_append_left _ hx)) rm
                  exact k σ _ _ (Pr.refl pr σ) (OkS.put' q.1 hs ⟨F, _, o6⟩) z
                unfold setD at es
                split at es
                · rename_i ds j
                  obtain ⟨n, hn, rfl⟩ := Option.map_eq_some_iff.mp es
                  cases rk
                  cases ro with
                  | @l a xs _ hl ra => exact .inl ⟨a, xs, j, n, rfl, rfl, hl, by rw [ra.length]; exact hn, fin rfl rfl (.l upd_same (ra.set rv n))⟩
                · split at es
                  · rename_i ks vs y ey
                    split at es
                    · rename_i hl
                      cases es
                      cases ro with
                      | @k a kvs _ hs' ra =>
                        have ek := key_view rk ey
                        subst ek
                        have hl : kvs.length < sizeLine := by rw [List.length_map] at hl; exact Nat.lt_of_lt_of_le hl (by decide)
                        obtain ⟨z1, z2⟩ := putD_view (k := y) ra rv
                        refine .inr ⟨a, _, rfl, DPut.k hs' hl, fin rfl rfl ?_⟩
                        rw [← z1]
                        exact .k upd_same z2
                    · cases es
                  · cases es
                · cases es
        · exact z.elim
    · exact h.elim
end
end BV

namespace BV
open PySem L2 PyProof.Rows
section
variable {K : PySem.W.Frag} {F H : Hp}
theorem op_eqA {X : Cx} (hu : X.A.units + 64 < cLine) : OpR X (compareOp .Eq) (rEqA X.K) := op_eq.or (op_eqD2 hu)
theorem op_neA {X : Cx} (hu : X.A.units + 64 < cLine) : OpR X (compareOp .NotEq) (rNeA X.K) := op_ne.or (op_neD2 hu)
theorem rd_int0 {f : Int → Int → Int} : RdOk K (fun vs H Q => ∃ x y, vs = [x, y] ∧ rI0 (fun i j => V.int (f i j)) x y H Q) (gInt (fun _ _ => true) f) := by
  intro F H vs ms res s vw g
  unfold gInt at g
  split at g
  · rename_i i j
    obtain ⟨x, y, A, B, rfl, r1, r2⟩ := vw2 vw
    rw [if_pos rfl] at g
    cases g
    cases r1 with
    | p r1 =>
      cases r1
      cases r2 with
      | p r2 =>
        cases r2
        exact ⟨.int _, .int _, fun Q q => ⟨_, _, rfl, i, j, rfl, rfl, q⟩⟩
  · cases g
def cPos (_ j : Int) : Bool := decide (0 < j)
theorem cPos_ok : ∀ i j, cPos i j = true → (fun _ j => 0 < j) i j := fun _ _ h => of_decide_eq_true h
def cDiv (_ j : Int) : Bool := decide (0 < j ∧ j < 1073741824)
theorem cDiv_ok : ∀ i j, cDiv i j = true → CDiv i j := fun i j h => (of_decide_eq_true h : 0 < j ∧ j < 1073741824)
def cPow (i j : Int) : Bool := decide (0 ≤ j ∧ j ≤ 1000000 ∧ i.natAbs < 18446744073709551616)
theorem cPow_ok : ∀ i j, cPow i j = true → CPow i j := fun i j h => by
  have h := of_decide_eq_true h
  exact ⟨h.1, h.2.1, by have := h.2.2; omega⟩
/-- a * b of ints, one of them small; a list by an int -/
def cMul (i j : Int) : Bool := decide (-18446744073709551616 < i ∧ i < 18446744073709551616) || decide (-18446744073709551616 < j ∧ j < 18446744073709551616)
theorem cMul_ok : ∀ i j, cMul i j = true → CMul i j := fun i j h => by
  rcases Bool.or_eq_true_iff.mp h with h | h
  · have h := of_decide_eq_true h
    exact .inl ⟨by omega, by omega⟩
  · have h := of_decide_eq_true h
    exact .inr ⟨by omega, by omega⟩
def repD : Nat → List D → List D
  | 0, _ => []
  | n + 1, ds => ds ++ repD n ds
def gMul : List M → Option Res
  | [.p (.int i), .p (.int j)] => if cMul i j = true then some (.val (.int (i * j))) else none
  | _ => none
theorem rd_mul : RdOk K (fun vs H Q => ∃ x y, vs = [x, y] ∧ rI CMul (fun i j => V.int (i * j)) x y H Q) gMul := by
  intro F H vs ms res s vw g
  unfold gMul at g
  split at g
  · rename_i i j
    obtain ⟨x, y, A, B, rfl, r1, r2⟩ := vw2 vw
    split at g
    · rename_i h
      cases g
      cases r1 with
      | p r1 =>
        cases r1
        cases r2 with
        | p r2 =>
          cases r2
          exact ⟨.int _, .int _, fun Q q => ⟨_, _, rfl, i, j, rfl, rfl, cMul_ok i j h, q⟩⟩
    · cases g
  · cases g
theorem op_mulA {X : Cx} : OpR X (binaryOp .Mult) (rI CMul fun i j => .int (i * j)) := op_mul
def gNeg : List M → Option Res
  | [.p (.int i)] => some (.val (.int (-i)))
  | _ => none
theorem rd_neg : RdOk K (fun vs H Q => ∃ x, vs = [x] ∧ rU (fun i => V.int (-i)) x H Q) gNeg := by
  intro F H vs ms res s vw g
  unfold gNeg at g
  split at g
  · rename_i i
    obtain ⟨x, A, rfl, r1⟩ := vw1 vw
    cases g
    cases r1 with
    | p r1 => cases r1; exact ⟨.int _, .int _, fun Q q => ⟨_, rfl, i, rfl, q⟩⟩
  · cases g
/-- is None -/
def gIsN : List M → Option Res
  | [.p d, .p .non] => some (.val (.bl (match d with | .non => true | _ => false)))
  | [_, .p .non] => some (.val (.bl false))
  | _ => none
def gNotN : List M → Option Res
  | [.p d, .p .non] => some (.val (.bl (match d with | .non => false | _ => true)))
  | [_, .p .non] => some (.val (.bl true))
  | _ => none
theorem isN_view {v : V} {d : D} {G : Hp} (r : RpD K G v d) : decide (v = V.non) = (match d with | .non => true | _ => false) := by
  cases r <;> rfl
theorem notP_view {v : V} {m : M} {A : List Addr} (r : RpM K F H v m A) (h : ∀ d, m ≠ .p d) (hh : ∀ u, m ≠ .h u) : decide (v = V.non) = false := by
  cases r with
  | p _ => exact absurd rfl (h _)
  | h u => exact absurd rfl (hh _)
  | _ => rfl
/-- str(n), int(x), abs, min, max -/
def gStr : List M → Option Res
  | [.p (.int i)] => if i.natAbs.log2 < 1920 then some (.val (.str (toString i))) else none
  | _ => none
theorem rd_str : RdOk K (fun xs H Q => ∃ i, xs = [.int i] ∧ i.natAbs.log2 < 1920 ∧ Q (.str (toString i)) H) gStr := by
  intro F H vs ms res s vw g
  unfold gStr at g
  split at g
  · obtain ⟨x, A, rfl, r1⟩ := vw1 vw
    split at g
    · rename_i hz
      cases g
      cases r1 with
      | p r1 => cases r1; exact ⟨.str _, .str _, fun Q q => ⟨_, rfl, hz, q⟩⟩
    · cases g
  · cases g
def gIntOf : List M → Option Res
  | [.p (.int i)] => some (.val (.int i))
  | [.p (.bl k)] => some (.val (.int (if k then 1 else 0)))
  | _ => none
theorem rd_intOf : RdOk K (fun xs H Q => (∃ i, xs = [.int i] ∧ Q (.int i) H) ∨ ∃ k, xs = [.bl k] ∧ Q (.int (if k then 1 else 0)) H) gIntOf := by
  intro F H vs ms res s vw g
  unfold gIntOf at g
  split at g
  · obtain ⟨x, A, rfl, r1⟩ := vw1 vw
    cases g
    cases r1 with
    | p r1 => cases r1; exact ⟨.int _, .int _, fun Q q => .inl ⟨_, rfl, q⟩⟩
  · obtain ⟨x, A, rfl, r1⟩ := vw1 vw
    cases g
    cases r1 with
    | p r1 => cases r1; exact ⟨.int _, .int _, fun Q q => .inr ⟨_, rfl, q⟩⟩
  · cases g
def gMin2 : List M → Option Res
  | [.p (.int i), .p (.int j)] => some (.val (.int (if j < i then j else i)))
  | _ => none
theorem rd_min2 : RdOk K (fun xs H Q => ∃ i j, xs = [.int i, .int j] ∧ Q (.int (if j < i then j else i)) H) gMin2 := by
  intro F H vs ms res s vw g
  unfold gMin2 at g
  split at g
  · obtain ⟨x, y, A, B, rfl, r1, r2⟩ := vw2 vw
    cases g
    cases r1 with
    | p r1 =>
      cases r1
      cases r2 with
      | p r2 => cases r2; exact ⟨.int _, .int _, fun Q q => ⟨_, _, rfl, q⟩⟩
  · cases g
def gMax2 : List M → Option Res
  | [.p (.int i), .p (.int j)] => some (.val (.int (if j > i then j else i)))
  | _ => none
theorem rd_max2 : RdOk K (fun xs H Q => ∃ i j, xs = [.int i, .int j] ∧ Q (.int (if j > i then j else i)) H) gMax2 := by
  intro F H vs ms res s vw g
  unfold gMax2 at g
  split at g
  · obtain ⟨x, y, A, B, rfl, r1, r2⟩ := vw2 vw
    cases g
    cases r1 with
    | p r1 =>
      cases r1
      cases r2 with
      | p r2 => cases r2; exact ⟨.int _, .int _, fun Q q => ⟨_, _, rfl, q⟩⟩
  · cases g
def gAbs : List M → Option Res
  | [.p (.int i)] => some (.val (.int (if i < 0 then -i else i)))
  | _ => none
theorem rd_abs : RdOk K (fun xs H Q => ∃ i, xs = [.int i] ∧ Q (.int (if i < 0 then -i else i)) H) gAbs := by
  intro F H vs ms res s vw g
  unfold gAbs at g
  split at g
  · obtain ⟨x, A, rfl, r1⟩ := vw1 vw
    cases g
    cases r1 with
    | p r1 => cases r1; exact ⟨.int _, .int _, fun Q q => ⟨_, rfl, q⟩⟩
  · cases g
/-- all, any of truths -/
def blsOf : List D → Option (List Bool)
  | [] => some []
  | .bl b :: r => (blsOf r).map (b :: ·)
  | _ => none
theorem blsOf_eq : ∀ {ds : List D} {bs : List Bool}, blsOf ds = some bs → ds = bs.map D.bl
  | [], bs, h => by cases h; rfl
  | .bl b :: r, bs, h => by
    obtain ⟨bs', h1, rfl⟩ := Option.map_eq_some_iff.mp (show (blsOf r).map (b :: ·) = some bs from h)
    rw [blsOf_eq h1]; rfl
  | .non :: _, _, h => by cases h
  | .int _ :: _, _, h => by cases h
  | .str _ :: _, _, h => by cases h
  | .tup _ :: _, _, h => by cases h
  | .lst _ :: _, _, h => by cases h
  | .fl _ :: _, _, h => by cases h
  | .dct _ _ :: _, _, h => by cases h
  | .ins _ _ _ :: _, _, h => by cases h
  | .xd _ _ :: _, _, h => by cases h
  | .fn _ :: _, _, h => by cases h
  | .ty _ :: _, _, h => by cases h
theorem lseq_view {v : V} {m : M} {ds : List D} {A : List Addr} (s : Sub F H) (r : RpM K F H v m A) (e : m.lseq = some ds) : ∃ a xs, v = .ref a ∧ SqL K H a xs ∧ RpA K F xs ds := by
  cases r with
  | p r =>
    cases r with
    | lst h ra => cases e; exact ⟨_, _, rfl, SqL.of (s _ _ h), ra⟩
    | fl h ra => cases e; exact ⟨_, _, rfl, sqL_sub s h, ra⟩
    | _ => cases e
  | l h r => cases e; exact ⟨_, _, rfl, SqL.of h, r⟩
  | k h r => cases e
  | o _ _ => cases e
  | h _ => cases e
  | z _ _ => cases e
def gAll : List M → Option Res
  | [m] => (m.lseq.bind blsOf).map fun bs => .val (.bl (bs.all id))
  | _ => none
def gAny : List M → Option Res
  | [m] => (m.lseq.bind blsOf).map fun bs => .val (.bl (bs.any id))
  | _ => none
theorem rd_all : RdOk K (rAll K) gAll := by
  intro F H vs ms res s vw g
  unfold gAll at g
  split at g
  · obtain ⟨x, A, rfl, r1⟩ := vw1 vw
    obtain ⟨bs, h1, rfl⟩ := Option.map_eq_some_iff.mp g
    obtain ⟨ds, h2, h3⟩ := Option.bind_eq_some_iff.mp h1
    obtain ⟨a, xs, rfl, hs, ra⟩ := lseq_view s r1 h2
    rw [blsOf_eq h3] at ra
    have := RpA.of_bls ra
    subst this
    exact ⟨.bl _, .bl _, fun Q q => ⟨a, bs, rfl, hs, q⟩⟩
  · cases g
theorem rd_any : RdOk K (rAny K) gAny := by
  intro F H vs ms res s vw g
  unfold gAny at g
  split at g
  · obtain ⟨x, A, rfl, r1⟩ := vw1 vw
    obtain ⟨bs, h1, rfl⟩ := Option.map_eq_some_iff.mp g
    obtain ⟨ds, h2, h3⟩ := Option.bind_eq_some_iff.mp h1
    obtain ⟨a, xs, rfl, hs, ra⟩ := lseq_view s r1 h2
    rw [blsOf_eq h3] at ra
    have := RpA.of_bls ra
    subst this
    exact ⟨.bl _, .bl _, fun Q q => ⟨a, bs, rfl, hs, q⟩⟩
  · cases g
/-- isinstance(x, T) -/
def tyName : M → Option String
  | .p .non => some "NoneType"
  | .p (.bl _) => some "bool"
  | .p (.int _) => some "int"
  | .p (.str _) => some "str"
  | .p (.tup _) => some "tuple"
  | .p (.lst _) => some "list"
  | .p (.dct _ _) => some "dict"
  | .l _ => some "list"
  | .k _ _ => some "dict"
  | _ => none
theorem ty_view {v : V} {m : M} {n : String} {A : List Addr} (s : Sub F H) (r : RpM K F H v m A) (e : tyName m = some n) : TyX K H v (.type n) := by
  cases r with
  | p r =>
    cases r with
    | non => cases e; exact .base .non
    | bl b => cases e; exact .base (.bl b)
    | int b => cases e; exact .base (.int b)
    | str b => cases e; exact .base (.str b)
    | lst h ra => cases e; exact .base (.lst (s _ _ h))
    | dct h ra => cases e; exact .base (.dK (s _ _ h))
    | tup h ra =>
      cases e
      rcases sqT_sub s h with (h | ⟨o, h⟩) | ⟨o, its, n, hk, hc, _⟩
      · exact .base (.tup h)
      · exact .fTuple h
      · exact .kTuple hk hc
    | _ => cases e
  | l h r => cases e; exact .base (.lst h)
  | k h r => cases e; exact .base (.dK h)
  | z _ _ => cases e
  | o _ _ => cases e
  | h _ => cases e
def gIsi : List M → Option Res
  | [m, .p (.ty n)] => (tyName m).bind fun t => (L2.kitB t n).map fun b => .val (.bl b)
  | _ => none
theorem rd_isi : RdOk K (rIsi K) gIsi := by
  intro F H vs ms res s vw g
  unfold gIsi at g
  split at g
  · obtain ⟨x, y, A, B, rfl, r1, r2⟩ := vw2 vw
    obtain ⟨t, h1, h2⟩ := Option.bind_eq_some_iff.mp g
    obtain ⟨b, h3, rfl⟩ := Option.map_eq_some_iff.mp h2
    cases r2 with
    | p r2 => cases r2; exact ⟨.bl b, .bl b, fun Q q => ⟨x, _, _, _, b, rfl, .ty _, ty_view s r1 h1, kit_ty h3, q⟩⟩
  · cases g
/-- "..".join(xs) -/
def strsOf : List D → Option (List Str)
  | [] => some []
  | .str b :: r => (strsOf r).map (b :: ·)
  | _ => none
theorem strsOf_eq : ∀ {ds : List D} {bs : List Str}, strsOf ds = some bs → ds = bs.map D.str
  | [], bs, h => by cases h; rfl
  | .str b :: r, bs, h => by
    obtain ⟨bs', h1, rfl⟩ := Option.map_eq_some_iff.mp (show (strsOf r).map (b :: ·) = some bs from h)
    rw [strsOf_eq h1]; rfl
  | .non :: _, _, h => by cases h
  | .int _ :: _, _, h => by cases h
  | .bl _ :: _, _, h => by cases h
  | .tup _ :: _, _, h => by cases h
  | .lst _ :: _, _, h => by cases h
  | .fl _ :: _, _, h => by cases h
  | .dct _ _ :: _, _, h => by cases h
  | .ins _ _ _ :: _, _, h => by cases h
  | .xd _ _ :: _, _, h => by cases h
  | .fn _ :: _, _, h => by cases h
  | .ty _ :: _, _, h => by cases h
def gJoin (x : Str) : List M → Option Res
  | [m] => (m.seq.bind strsOf).bind fun ys => if (ys.map (·.length)).sum + ys.length * x.length ≤ 16777216 then some (.val (.str (Txt.join x ys))) else none
  | _ => none
def rJoin (K : PySem.W.Frag) (x : Str) : V → Hp → VK → Prop := fun y H Q => ∃ p, ∃ ys : List Str, y = .ref p ∧ (SqL K H p (ys.map V.str) ∨ SqT K H p (ys.map V.str)) ∧ (ys.map (·.length)).sum + ys.length * x.length ≤ 16777216 ∧ Q (.str (Txt.join x ys)) H
theorem rd_join {x : Str} : RdOk K (fun vs H Q => ∃ y, vs = [y] ∧ rJoin K x y H Q) (gJoin x) := by
  intro F H vs ms res s vw g
  unfold gJoin at g
  split at g
  · obtain ⟨y, A, rfl, r1⟩ := vw1 vw
    obtain ⟨ys, h1, h2⟩ := Option.bind_eq_some_iff.mp g
    obtain ⟨ds, h3, h4⟩ := Option.bind_eq_some_iff.mp h1
    split at h2
    · rename_i hz
      cases h2
      obtain ⟨a, xs, rfl, hs, ra⟩ := seq_view s r1 h3
      rw [strsOf_eq h4] at ra
      have := RpA.of_strs ra
      subst this
      exact ⟨.str _, .str _, fun Q q => ⟨_, rfl, a, ys, rfl, hs, hz, q⟩⟩
    · cases h2
  · cases g
end
section
variable {X : Cx} {W : WX} {K : PySem.W.Frag} {σ : L2.St} {H : Hp} {pos : Pos}
theorem be_join {x : Str} {e : Expr} {j : Nat} {p apos cpos : Pos} {a : WO} (h : PE X e (tO X.K W a)) (hs : starEach [e] X.env = [(false, eval e X.env)] := by rfl) (hbase : attributeBase (.Constant (.str x) j p) "join" X.env (eval (.Constant (.str x) j p) X.env) = eval (.Constant (.str x) j p) X.env := by rfl) (hline : (apos.endLine == cpos.line) = true := by rfl) :
    PE X (.Call (.Attribute (.Constant (.str x) j p) "join" apos) [e] [] cpos) (tE X.K W (wRd (gJoin x) (wCons a wNil))) :=
  (pe_join pe_str h hs hbase hline).wk fun σ H Q q => by
    refine ⟨⟨x, rfl⟩, ?_⟩
    obtain ⟨env, R, C, CX, ok, h, hQ, hX⟩ := tO_1 (r := rJoin X.K x) (tE_rd rd_join q)
    refine ⟨env, R, C, CX, ok, h, fun v H' o env' q c => ?_, hX⟩
    obtain ⟨p, ys, rfl, h1, h2, h3⟩ := hQ v H' o env' q c
    exact ⟨x, p, ys, rfl, rfl, h1, h2, h3⟩
def wChain (g1 g2 : List M → Option Res) (a b c : BV.WE) : BV.WE := fun e C X => a e (fun ma e1 => b e1 (fun mb e2 => match ma.fz, mb.fz with
  | some _, some db => (match g1 [ma, .p db] with
    | some (.val (.bl true)) => c e2 (fun mc e3 => match g2 [.p db, mc] with
      | some r => C r.m e3
      | none => False) X
    | some (.val (.bl false)) => C (.p (.bl false)) e2
    | _ => False)
  | _, _ => False) X) X
end
end BV

namespace BV
open PySem L2 PyProof.Rows
section
variable {X : Cx} {W : WX} {pos p : Pos} {e : Expr} {es : List Expr} {was : WA}
theorem be_blt {id : String} {x : Str} {r : List V → Hp → VK → Prop} {g : List M → Option Res} (hc : CallR X (.builtin id) r) (hr : RdOk X.K r g) (hv : bootBuiltins x = some (.builtin id)) (hg : Gl X x) (hm : X.mg x = none) (ha : PA X (e :: es) (tA X.K W was)) (hn : x ≠ "__name__" := by decide) (hdb : (x == ("__debug__" : Str)) = false := by decide)
    (he : starEach (e :: es) X.env = (false, eval e X.env) :: starEach es X.env := by rfl) (hpl : (backTo pos (starEach es X.env)).any (·.1) = false := by rfl) : PE X (.Call (.Name x p) (e :: es) [] pos) (tE X.K W (wRd g was)) :=
  be_rdA hr (pe_callB hc hg hm hv ha hn hdb he hpl)
theorem be_bty {T : String} {x : Str} {r : List V → Hp → VK → Prop} {g : List M → Option Res} (hc : CallR X (.type T) r) (hr : RdOk X.K r g) (hv : bootBuiltins x = some (.type T)) (hg : Gl X x) (hm : X.mg x = none) (ha : PA X (e :: es) (tA X.K W was)) (hn : x ≠ "__name__" := by decide) (hdb : (x == ("__debug__" : Str)) = false := by decide)
    (he : starEach (e :: es) X.env = (false, eval e X.env) :: starEach es X.env := by rfl) (hpl : (backTo pos (starEach es X.env)).any (·.1) = false := by rfl) : PE X (.Call (.Name x p) (e :: es) [] pos) (tE X.K W (wRd g was)) :=
  be_rdA hr (pe_callTy hc hg hm hv ha hn hdb he hpl)
theorem be_len (hg : Gl X "len") (hm : X.mg "len" = none) (ha : PA X (e :: es) (tA X.K W was)) (he : starEach (e :: es) X.env = (false, eval e X.env) :: starEach es X.env := by rfl) (hpl : (backTo pos (starEach es X.env)).any (·.1) = false := by rfl) :
    PE X (.Call (.Name "len" p) (e :: es) [] pos) (tE X.K W (wRd gLen was)) := be_blt call_len rd_len PySem.boot_len hg hm ha (by decide) (by decide) he hpl
theorem be_list (hc : X.calm = true) (hg : Gl X "list") (hm : X.mg "list" = none) (ha : PA X (e :: es) (tA X.K W was)) (he : starEach (e :: es) X.env = (false, eval e X.env) :: starEach es X.env := by rfl) (hpl : (backTo pos (starEach es X.env)).any (·.1) = false := by rfl) :
    PE X (.Call (.Name "list" p) (e :: es) [] pos) (tE X.K W (wRd gList was)) := be_bty (call_list_of.or (call_listD hc)) rd_list (by decide +kernel) hg hm ha (by decide) (by decide) he hpl
theorem be_tuple (hg : Gl X "tuple") (hm : X.mg "tuple" = none) (ha : PA X (e :: es) (tA X.K W was)) (he : starEach (e :: es) X.env = (false, eval e X.env) :: starEach es X.env := by rfl) (hpl : (backTo pos (starEach es X.env)).any (·.1) = false := by rfl) :
    PE X (.Call (.Name "tuple" p) (e :: es) [] pos) (tE X.K W (wRd gTuple was)) := be_bty call_tuple_of rd_tuple (by decide +kernel) hg hm ha (by decide) (by decide) he hpl
theorem be_str (hg : Gl X "str") (hm : X.mg "str" = none) (ha : PA X (e :: es) (tA X.K W was)) (he : starEach (e :: es) X.env = (false, eval e X.env) :: starEach es X.env := by rfl) (hpl : (backTo pos (starEach es X.env)).any (·.1) = false := by rfl) :
    PE X (.Call (.Name "str" p) (e :: es) [] pos) (tE X.K W (wRd gStr was)) := be_bty call_str_int rd_str (by decide +kernel) hg hm ha (by decide) (by decide) he hpl
theorem be_int (hg : Gl X "int") (hm : X.mg "int" = none) (ha : PA X (e :: es) (tA X.K W was)) (he : starEach (e :: es) X.env = (false, eval e X.env) :: starEach es X.env := by rfl) (hpl : (backTo pos (starEach es X.env)).any (·.1) = false := by rfl) :
    PE X (.Call (.Name "int" p) (e :: es) [] pos) (tE X.K W (wRd gIntOf was)) := be_bty call_int1 rd_intOf (by decide +kernel) hg hm ha (by decide) (by decide) he hpl
theorem be_all (hc : X.calm = true) (hg : Gl X "all") (hm : X.mg "all" = none) (ha : PA X (e :: es) (tA X.K W was)) (he : starEach (e :: es) X.env = (false, eval e X.env) :: starEach es X.env := by rfl) (hpl : (backTo pos (starEach es X.env)).any (·.1) = false := by rfl) :
    PE X (.Call (.Name "all" p) (e :: es) [] pos) (tE X.K W (wRd gAll was)) := be_blt (cr_all hc) rd_all (by decide +kernel) hg hm ha (by decide) (by decide) he hpl
theorem be_any (hc : X.calm = true) (hg : Gl X "any") (hm : X.mg "any" = none) (ha : PA X (e :: es) (tA X.K W was)) (he : starEach (e :: es) X.env = (false, eval e X.env) :: starEach es X.env := by rfl) (hpl : (backTo pos (starEach es X.env)).any (·.1) = false := by rfl) :
    PE X (.Call (.Name "any" p) (e :: es) [] pos) (tE X.K W (wRd gAny was)) := be_blt (cr_any hc) rd_any (by decide +kernel) hg hm ha (by decide) (by decide) he hpl
theorem be_min2 (hc : X.calm = true) (hg : Gl X "min") (hm : X.mg "min" = none) (ha : PA X (e :: es) (tA X.K W was)) (he : starEach (e :: es) X.env = (false, eval e X.env) :: starEach es X.env := by rfl) (hpl : (backTo pos (starEach es X.env)).any (·.1) = false := by rfl) :
    PE X (.Call (.Name "min" p) (e :: es) [] pos) (tE X.K W (wRd gMin2 was)) := be_blt (call_min2 hc) rd_min2 (by decide +kernel) hg hm ha (by decide) (by decide) he hpl
theorem be_max2 (hc : X.calm = true) (hg : Gl X "max") (hm : X.mg "max" = none) (ha : PA X (e :: es) (tA X.K W was)) (he : starEach (e :: es) X.env = (false, eval e X.env) :: starEach es X.env := by rfl) (hpl : (backTo pos (starEach es X.env)).any (·.1) = false := by rfl) :
    PE X (.Call (.Name "max" p) (e :: es) [] pos) (tE X.K W (wRd gMax2 was)) := be_blt (call_max2 hc) rd_max2 (by decide +kernel) hg hm ha (by decide) (by decide) he hpl
theorem be_abs (hg : Gl X "abs") (hm : X.mg "abs" = none) (ha : PA X (e :: es) (tA X.K W was)) (he : starEach (e :: es) X.env = (false, eval e X.env) :: starEach es X.env := by rfl) (hpl : (backTo pos (starEach es X.env)).any (·.1) = false := by rfl) :
    PE X (.Call (.Name "abs" p) (e :: es) [] pos) (tE X.K W (wRd gAbs was)) := be_blt call_abs rd_abs (by decide +kernel) hg hm ha (by decide) (by decide) he hpl
theorem be_isi (hg : Gl X "isinstance") (hm : X.mg "isinstance" = none) (ha : PA X (e :: es) (tA X.K W was)) (he : starEach (e :: es) X.env = (false, eval e X.env) :: starEach es X.env := by rfl) (hpl : (backTo pos (starEach es X.env)).any (·.1) = false := by rfl) :
    PE X (.Call (.Name "isinstance" p) (e :: es) [] pos) (tE X.K W (wRd gIsi was)) := be_blt call_isi rd_isi (by decide +kernel) hg hm ha (by decide) (by decide) he hpl
/-! operators -/
section
variable {l r : Expr} {a b : WO}
theorem be_add (ha : PE X l (tO X.K W a)) (hb : PE X r (tO X.K W b)) : PE X (.BinOp l .Add r pos) (tE X.K W (wRd gAdd (wCons a (wCons b wNil)))) := be_rd2 rd_add (pe_op op_addA ha hb)
theorem be_sub (ha : PE X l (tO X.K W a)) (hb : PE X r (tO X.K W b)) : PE X (.BinOp l .Sub r pos) (tE X.K W (wRd (gInt (fun _ _ => true) (fun i j => i - j)) (wCons a (wCons b wNil)))) := be_rd2 rd_int0 (pe_op op_sub ha hb)
theorem be_mul (ha : PE X l (tO X.K W a)) (hb : PE X r (tO X.K W b)) : PE X (.BinOp l .Mult r pos) (tE X.K W (wRd gMul (wCons a (wCons b wNil)))) := be_rd2 rd_mul (pe_op op_mulA ha hb)
theorem be_mod (ha : PE X l (tO X.K W a)) (hb : PE X r (tO X.K W b)) : PE X (.BinOp l .Mod r pos) (tE X.K W (wRd (gInt cPos (fun i j => i % j)) (wCons a (wCons b wNil)))) := be_rd2 (rd_int cPos_ok) (pe_op op_mod ha hb)
theorem be_div (ha : PE X l (tO X.K W a)) (hb : PE X r (tO X.K W b)) : PE X (.BinOp l .FloorDiv r pos) (tE X.K W (wRd (gInt cDiv (fun i j => i / j)) (wCons a (wCons b wNil)))) := be_rd2 (rd_int cDiv_ok) (pe_op op_fdiv ha hb)
theorem be_pow (ha : PE X l (tO X.K W a)) (hb : PE X r (tO X.K W b)) : PE X (.BinOp l .Pow r pos) (tE X.K W (wRd (gInt cPow (fun i j => i ^ j.toNat)) (wCons a (wCons b wNil)))) := be_rd2 (rd_int cPow_ok) (pe_op op_pow ha hb)
theorem be_eq (hu : X.A.units + 64 < cLine) (ha : PE X l (tO X.K W a)) (hb : PE X r (tO X.K W b)) : PE X (.Compare l [.Eq] [r] pos) (tE X.K W (wRd gEq (wCons a (wCons b wNil)))) := be_rd2 rd_eq (pe_cmpR (op_eqA hu) ha hb (nomark _))
theorem be_ne (hu : X.A.units + 64 < cLine) (ha : PE X l (tO X.K W a)) (hb : PE X r (tO X.K W b)) : PE X (.Compare l [.NotEq] [r] pos) (tE X.K W (wRd gNe (wCons a (wCons b wNil)))) := be_rd2 rd_ne (pe_cmpR (op_neA hu) ha hb (nomark _))
abbrev pLt (i j : Int) : Bool := decide (i < j)
abbrev pLe (i j : Int) : Bool := decide (i ≤ j)
abbrev pGt (i j : Int) : Bool := decide (j < i)
abbrev pGe (i j : Int) : Bool := decide (j ≤ i)
theorem be_lt (ha : PE X l (tO X.K W a)) (hb : PE X r (tO X.K W b)) : PE X (.Compare l [.Lt] [r] pos) (tE X.K W (wRd (gCmp pLt) (wCons a (wCons b wNil)))) := be_rd2 rd_cmp (pe_cmpR op_lt ha hb (nomark _))
theorem be_le (ha : PE X l (tO X.K W a)) (hb : PE X r (tO X.K W b)) : PE X (.Compare l [.LtE] [r] pos) (tE X.K W (wRd (gCmp pLe) (wCons a (wCons b wNil)))) := be_rd2 rd_cmp (pe_cmpR op_le ha hb (nomark _))
theorem be_gt (ha : PE X l (tO X.K W a)) (hb : PE X r (tO X.K W b)) : PE X (.Compare l [.Gt] [r] pos) (tE X.K W (wRd (gCmp pGt) (wCons a (wCons b wNil)))) := be_rd2 rd_cmp (pe_cmpR op_gt ha hb (nomark _))
theorem be_ge (ha : PE X l (tO X.K W a)) (hb : PE X r (tO X.K W b)) : PE X (.Compare l [.GtE] [r] pos) (tE X.K W (wRd (gCmp pGe) (wCons a (wCons b wNil)))) := be_rd2 rd_cmp (pe_cmpR op_ge ha hb (nomark _))
theorem be_in (hu : X.A.units + 1 < cLine) (ha : PE X l (tO X.K W a)) (hb : PE X r (tO X.K W b)) (hm : behindInMarks .In r = false := by rfl) : PE X (.Compare l [.In] [r] pos) (tE X.K W (wRd gIn (wCons a (wCons b wNil)))) := be_rd2 rd_in (pe_cmpR (op_inA hu) ha hb hm)
theorem be_ni (hu : X.A.units + 1 < cLine) (ha : PE X l (tO X.K W a)) (hb : PE X r (tO X.K W b)) (hm : behindInMarks .NotIn r = false := by rfl) : PE X (.Compare l [.NotIn] [r] pos) (tE X.K W (wRd gNi (wCons a (wCons b wNil)))) := be_rd2 rd_ni (pe_cmpR (op_niA hu) ha hb hm)
theorem bt_eq (hu : X.A.units + 64 < cLine) (ha : PE X l (tO X.K W a)) (hb : PE X r (tO X.K W b)) : PT X (.Compare l [.Eq] [r] pos) (tT X.K W (wTV (wRd gEq (wCons a (wCons b wNil))))) := bt_rd2 rd_eq (pt_cmpR (op_eqA hu) ha hb (nomark _))
theorem bt_ne (hu : X.A.units + 64 < cLine) (ha : PE X l (tO X.K W a)) (hb : PE X r (tO X.K W b)) : PT X (.Compare l [.NotEq] [r] pos) (tT X.K W (wTV (wRd gNe (wCons a (wCons b wNil))))) := bt_rd2 rd_ne (pt_cmpR (op_neA hu) ha hb (nomark _))
theorem bt_lt (ha : PE X l (tO X.K W a)) (hb : PE X r (tO X.K W b)) : PT X (.Compare l [.Lt] [r] pos) (tT X.K W (wTV (wRd (gCmp pLt) (wCons a (wCons b wNil))))) := bt_rd2 rd_cmp (pt_cmpR op_lt ha hb (nomark _))
theorem bt_le (ha : PE X l (tO X.K W a)) (hb : PE X r (tO X.K W b)) : PT X (.Compare l [.LtE] [r] pos) (tT X.K W (wTV (wRd (gCmp pLe) (wCons a (wCons b wNil))))) := bt_rd2 rd_cmp (pt_cmpR op_le ha hb (nomark _))
theorem bt_gt (ha : PE X l (tO X.K W a)) (hb : PE X r (tO X.K W b)) : PT X (.Compare l [.Gt] [r] pos) (tT X.K W (wTV (wRd (gCmp pGt) (wCons a (wCons b wNil))))) := bt_rd2 rd_cmp (pt_cmpR op_gt ha hb (nomark _))
theorem bt_ge (ha : PE X l (tO X.K W a)) (hb : PE X r (tO X.K W b)) : PT X (.Compare l [.GtE] [r] pos) (tT X.K W (wTV (wRd (gCmp pGe) (wCons a (wCons b wNil))))) := bt_rd2 rd_cmp (pt_cmpR op_ge ha hb (nomark _))
theorem bt_in (hu : X.A.units + 1 < cLine) (ha : PE X l (tO X.K W a)) (hb : PE X r (tO X.K W b)) (hm : behindInMarks .In r = false := by rfl) : PT X (.Compare l [.In] [r] pos) (tT X.K W (wTV (wRd gIn (wCons a (wCons b wNil))))) := bt_rd2 rd_in (pt_cmpR (op_inA hu) ha hb hm)
theorem bt_ni (hu : X.A.units + 1 < cLine) (ha : PE X l (tO X.K W a)) (hb : PE X r (tO X.K W b)) (hm : behindInMarks .NotIn r = false := by rfl) : PT X (.Compare l [.NotIn] [r] pos) (tT X.K W (wTV (wRd gNi (wCons a (wCons b wNil))))) := bt_rd2 rd_ni (pt_cmpR (op_niA hu) ha hb hm)
theorem be_ix (hu : X.A.units + 1 < cLine) (ha : PE X l (tO X.K W a)) (hb : PE X r (tO X.K W b)) (hs : PlainIx r := by exact fun _ _ => rfl) : PE X (.Subscript l r pos) (tE X.K W (wRd gIx (wCons a (wCons b wNil)))) := be_rd2 rd_ix (pe_ix (ix_any hu) ha hb hs)
theorem be_neg (ha : PE X l (tO X.K W a)) : PE X (.UnaryOp .USub l pos) (tE X.K W (wRd gNeg (wCons a wNil))) := be_rd1 rd_neg (pe_un un_neg ha)
end
/-! a list's methods -/
section
variable {o : Expr} {i : Nat} {wv : WV} {apos cpos : Pos}
theorem be_append (ho : PE X o (tVar i)) (ha : PA X (e :: es) (tV X.K W wv)) (hbase : attributeBase o "append" X.env (eval o X.env) = eval o X.env := by rfl)
    (hfew : ((backTo cpos (starEach (e :: es) X.env)).all (fun x => !x.1) && (backToKw cpos (keywordEach [] X.env)).all (fun x => x.1.isSome)
      && decide ((e :: es).length + ([] : List Keyword).length + (if ([] : List Keyword).isEmpty then 0 else 1) < 30)) = true := by rfl)
    (hline : (apos.endLine == cpos.line) = true := by rfl) (hs : starEach (e :: es) X.env = (false, eval e X.env) :: starEach es X.env := by rfl) (hplain : (backTo cpos (starEach es X.env)).any (·.1) = false := by rfl) :
    PE X (.Call (.Attribute o "append" apos) (e :: es) [] cpos) (tE X.K W (wMeth isL i gAppend wv)) := be_bm me_append (pe_bm PySem.F.plainAttrs_list PySem.F.slot_list_append PySem.F.type_list_append mt_append ho ha hbase hfew hline hs hplain)
theorem be_extend (ho : PE X o (tVar i)) (ha : PA X (e :: es) (tV X.K W wv)) (hbase : attributeBase o "extend" X.env (eval o X.env) = eval o X.env := by rfl)
    (hfew : ((backTo cpos (starEach (e :: es) X.env)).all (fun x => !x.1) && (backToKw cpos (keywordEach [] X.env)).all (fun x => x.1.isSome)
      && decide ((e :: es).length + ([] : List Keyword).length + (if ([] : List Keyword).isEmpty then 0 else 1) < 30)) = true := by rfl)
    (hline : (apos.endLine == cpos.line) = true := by rfl) (hs : starEach (e :: es) X.env = (false, eval e X.env) :: starEach es X.env := by rfl) (hplain : (backTo cpos (starEach es X.env)).any (·.1) = false := by rfl) :
    PE X (.Call (.Attribute o "extend" apos) (e :: es) [] cpos) (tE X.K W (wMeth isL i gExtend wv)) := be_bm me_extend (pe_bm PySem.F.plainAttrs_list PySem.F.slot_list_extend PySem.F.type_list_extend mt_extend ho ha hbase hfew hline hs hplain)
end
end
end BV

namespace PySem
open Sem (wp)
section
variable {prog : Program} {w : World} {A : Around} {E : Value → Shared → Prop} {s : Shared} {z TI TO i1 i2 T : Addr} {fp1 fp2 : List Addr} {n1 n2 i : Nat} {P1 P2 : Nat → Value → Prop} {St1 St2 : Nat → Heap → Prop} {a1 a2 : Value} {f : Bool} {oT : Obj}
/-- next of a zip whose tuple is still out -/
theorem bvz_item_held {Q : Value → Shared → Prop} (S : ZipSep2 z TI TO i1 i2 fp1 fp2) (D1 : Draws prog w A i1 fp1 n1 P1 St1) (D2 : Draws prog w A i2 fp2 n2 P2 St2)
    (hz : IsZipHeld s.heap z TI TO T f) (hT : s.heap.get? T = some oT) (hTI : IsTupOf2 s.heap TI (.ref i1) (.ref i2)) (st1 : St1 i s.heap) (st2 : St2 i s.heap) (hlt1 : i < n1) (hlt2 : i < n2)
    (hQ : ∀ x1 x2 h' tk, P1 i x1 → P2 i x2 → IsZipHeld h' z TI TO T true → St1 (i + 1) h' → St2 (i + 1) h' → IsTupOf2 h' s.heap.objs.size x1 x2 → h'.objs.size = s.heap.objs.size + 1 →
      (∀ c o, c ≠ z → c ≠ i1 → c ≠ i2 → s.heap.get? c = some o → h'.get? c = some o) → Q (.ref s.heap.objs.size) { s with heap := h', toks := tk }) :
    wpAny (model prog w) A (Builtin.«zip.__next__» ⟨[.ref z], []⟩) (fun fin s' => ∃ v, fin = .done (.ret v) ∧ Q v s') E s := by
  obtain ⟨hp, g, d, tk0, os⟩ := s
  show wpAny _ _ (field (.ref z) 2 >>= _) _ _ _
  refine wpAny_bind (wpAny_field hz rfl (x := .bool false) rfl ?_)
  show wpAny _ _ (field (.ref z) 3 >>= _) _ _ _
  refine wpAny_bind (wpAny_field hz rfl (x := .ref TI) rfl ?_)
  refine wpAny_bind (wpAny_seqItems hTI rfl ?_)
  show wpAny _ _ (Builtin.SmallTypes.ownedTupleIsFree (.ref z) >>= _) _ _ _
  refine wpAny_bind (wpAny_tupleHeld_zip hz hT fun h₁ hz₁ hs₁ => ?_)
  replace hs₁ : Heap.SameBut z hp h₁ := hs₁
  simp only [Bool.false_eq_true, if_false]
  refine wpAny_bind ?_
  rw [← Array.forIn_toList]
  simp only [List.forIn_cons, List.forIn_nil]
  refine wpAny_bind (wpAny_bind (wpAny_holding ?_))
  show wpAny _ _ (Builtin.SmallTypes.nextOf (.ref i1) >>= _) _ _ ⟨h₁, g, d, tk0, os⟩
  refine wpAny_bind (D1.item i _ _ _ hlt1 (D1.over st1 hs₁ S.zf1) fun x1 p1 tk1 hx1 sn1 hp1 => wpAny_pure ?_)
  replace hp1 : Heap.SameBut i1 h₁ p1 := hp1
  refine wpAny_pure ?_
  refine wpAny_bind (wpAny_bind (wpAny_holding ?_))
  show wpAny _ _ (Builtin.SmallTypes.nextOf (.ref i2) >>= _) _ _ ⟨p1, g, d, tk1, os⟩
  refine wpAny_bind (D2.item i _ _ _ hlt2 (D2.over (D2.over st2 hs₁ S.zf2) hp1 S.sep1_2) fun x2 p2 tk2 hx2 sn2 hp2 => wpAny_pure ?_)
  replace hp2 : Heap.SameBut i2 p1 p2 := hp2
  refine wpAny_pure (wpAny_pure ?_)
  show wpAny _ _ (newTuple [x1, x2] >>= _) _ _ ⟨p2, g, d, tk2, os⟩
  refine wpAny_bind (wpAny_newTuple ?_)
  have hsz : p2.objs.size = hp.objs.size := by rw [hp2.1, hp1.1, hs₁.1]
  have hzz : IsZipHeld p2 z TI TO T true := hp2.extBut _ _ S.zi2 (hp1.extBut _ _ S.zi1 hz₁)
  have hk : ∀ c o, c ≠ z → c ≠ i1 → c ≠ i2 → hp.get? c = some o → p2.get? c = some o := fun c o cz c1 c2 e => hp2.extBut _ _ c2 (hp1.extBut _ _ c1 (hs₁.extBut _ _ cz e))
  have hj1 : St1 (i + 1) p2 := D1.over sn1 hp2 S.sep2_1
  have up : ∀ c o, p2.get? c = some o → (p2.push { cls := .type "tuple", data := .seq #[x1, x2] }).get? c = some o := fun c o e => Heap.get?_push_of_some _ e
  refine wpAny_pure ⟨_, rfl, ?_⟩
  show Q (.ref p2.objs.size) _
  have ht : IsTupOf2 (p2.push { cls := .type "tuple", data := .seq #[x1, x2] }) p2.objs.size x1 x2 := Heap.get?_push_size _ rfl
  have hz4 : (p2.push { cls := .type "tuple", data := .seq #[x1, x2] }).objs.size = p2.objs.size + 1 := Heap.size_push ..
  rw [hsz] at ht hz4 ⊢
  exact hQ x1 x2 _ tk2 hx1 hx2 (up _ _ hzz) (D1.frame _ _ _ hj1 fun b hb o e => up b o e) (D2.frame _ _ _ sn2 fun b hb o e => up b o e) ht hz4 fun c o cz c1 c2 e => up c o (hk c o cz c1 c2 e)
theorem bvz_end_held {Q : Fin → Shared → Prop} (S : ZipSep2 z TI TO i1 i2 fp1 fp2) (D1 : Draws prog w A i1 fp1 n1 P1 St1) (D2 : Draws prog w A i2 fp2 n2 P2 St2)
    (hz : IsZipHeld s.heap z TI TO T f) (hT : s.heap.get? T = some oT) (hTI : IsTupOf2 s.heap TI (.ref i1) (.ref i2)) (st1 : St1 i s.heap) (st2 : St2 i s.heap) (hle1 : i ≤ n1) (hle2 : i ≤ n2) (hend : i = n1 ∨ i = n2)
    (hE : ∀ h' tk e, (∀ c o, c ≠ z → c ≠ i1 → c ≠ i2 → s.heap.get? c = some o → h'.get? c = some o) → (∃ o, h'.get? e = some o ∧ o.cls = .type "StopIteration") → E (.ref e) { s with heap := h', toks := tk }) :
    wpAny (model prog w) A (Builtin.«zip.__next__» ⟨[.ref z], []⟩) Q E s := by
  obtain ⟨hp, g, d, tk0, os⟩ := s
  show wpAny _ _ (field (.ref z) 2 >>= _) _ _ _
  refine wpAny_bind (wpAny_field hz rfl (x := .bool false) rfl ?_)
  show wpAny _ _ (field (.ref z) 3 >>= _) _ _ _
  refine wpAny_bind (wpAny_field hz rfl (x := .ref TI) rfl ?_)
  refine wpAny_bind (wpAny_seqItems hTI rfl ?_)
  show wpAny _ _ (Builtin.SmallTypes.ownedTupleIsFree (.ref z) >>= _) _ _ _
  refine wpAny_bind (wpAny_tupleHeld_zip hz hT fun h₁ hz₁ hs₁ => ?_)
  replace hs₁ : Heap.SameBut z hp h₁ := hs₁
  simp only [Bool.false_eq_true, if_false]
  refine wpAny_bind ?_
  rw [← Array.forIn_toList]
  simp only [List.forIn_cons, List.forIn_nil]
  refine wpAny_bind (wpAny_bind (wpAny_holding ?_))
  show wpAny _ _ (Builtin.SmallTypes.nextOf (.ref i1) >>= _) _ _ ⟨h₁, g, d, tk0, os⟩
  by_cases hlt1 : i < n1
  · refine wpAny_bind (D1.item i _ _ _ hlt1 (D1.over st1 hs₁ S.zf1) fun x1 p1 tk1 hx1 sn1 hp1 => wpAny_pure ?_)
    replace hp1 : Heap.SameBut i1 h₁ p1 := hp1
    refine wpAny_pure ?_
    have hi2 : i = n2 := by omega
    refine wpAny_bind (wpAny_bind (wpAny_holding ?_))
    show wpAny _ _ (Builtin.SmallTypes.nextOf (.ref i2) >>= _) _ _ ⟨p1, g, d, tk1, os⟩
    refine wpAny_bind (D2.done ⟨p1, g, d, tk1, os⟩ _ _ (by rw [← hi2]; exact (D2.over (D2.over st2 hs₁ S.zf2) hp1 S.sep1_2)) fun q e hq he => ?_)
    replace hq : Heap.ExtBut i2 p1 q := hq
    exact hE q tk1 e (fun c o cz c1 c2 x => hq _ _ c2 (hp1.extBut _ _ c1 (hs₁.extBut _ _ cz x))) he
  · have hi1 : i = n1 := by omega
    refine wpAny_bind (D1.done ⟨h₁, g, d, tk0, os⟩ _ _ (by rw [← hi1]; exact (D1.over st1 hs₁ S.zf1)) fun q e hq he => ?_)
    replace hq : Heap.ExtBut i1 h₁ q := hq
    exact hE q tk0 e (fun c o cz c1 c2 x => hq _ _ c1 (hs₁.extBut _ _ cz x)) he

/-- a zip between two turns, S being the list that is filled -/
def BvzSt (St1 St2 : Nat → Heap → Prop) (z TI TO i1 i2 S : Addr) (i : Nat) (h : Heap) : Prop :=
  IsTupOf2 h TI (.ref i1) (.ref i2) ∧ St1 i h ∧ St2 i h ∧ ((IsZip h z TI TO .none ∧ ∃ a b, IsTupOf2 h TO a b) ∨ ∃ T f oT, IsZipHeld h z TI TO T f ∧ h.get? T = some oT ∧ T ≠ z ∧ T ≠ i1 ∧ T ≠ i2 ∧ T ≠ S)
variable {S : Addr}
theorem BvzSt.keep (D1 : Draws prog w A i1 fp1 n1 P1 St1) (D2 : Draws prog w A i2 fp2 n2 P2 St2) {h h' : Heap} (st : BvzSt St1 St2 z TI TO i1 i2 S i h) (n0 : S ≠ z) (nI : S ≠ TI) (nO : S ≠ TO) (nf1 : S ∉ fp1) (nf2 : S ∉ fp2)
    (k : ∀ b o, b ≠ S → h.get? b = some o → h'.get? b = some o) : BvzSt St1 St2 z TI TO i1 i2 S i h' := by
  obtain ⟨hTI, s1, s2, hz⟩ := st
  refine ⟨k _ _ nI.symm hTI, D1.frame _ _ _ s1 fun b hb o e => k b o (fun q => nf1 (q ▸ hb)) e, D2.frame _ _ _ s2 fun b hb o e => k b o (fun q => nf2 (q ▸ hb)) e, ?_⟩
  rcases hz with ⟨hz, a, b, hTO⟩ | ⟨T, f, oT, hz, hT, r1, r2, r3, r4⟩
  · exact .inl ⟨k _ _ n0.symm hz, a, b, k _ _ nO.symm hTO⟩
  · exact .inr ⟨T, f, oT, k _ _ n0.symm hz, k _ _ r4 hT, r1, r2, r3, r4⟩
theorem bvz_next (Sp : ZipSep2 z TI TO i1 i2 fp1 fp2) (D1 : Draws prog w A.in1 i1 fp1 n1 P1 St1) (D2 : Draws prog w A.in1 i2 fp2 n2 P2 St2) {Q : Option Value → Shared → Prop} (hS : S < s.heap.objs.size)
    (st : BvzSt St1 St2 z TI TO i1 i2 S i s.heap) (hlt1 : i < n1) (hlt2 : i < n2)
    (hQ : ∀ x1 x2 h' tk, P1 i x1 → P2 i x2 → BvzSt St1 St2 z TI TO i1 i2 S (i + 1) h' → IsTupOf2 h' s.heap.objs.size x1 x2 → h'.objs.size = s.heap.objs.size + 1 →
      (∀ c o, c ≠ z → c ≠ TO → c ≠ i1 → c ≠ i2 → s.heap.get? c = some o → h'.get? c = some o) → Q (some (.ref s.heap.objs.size)) { s with heap := h', toks := tk }) :
    wpAny (model prog w) A (pyNext (.ref z)) Q E s := by
  obtain ⟨hTI, s1, s2, hz⟩ := st
  have lt : ∀ {c o}, s.heap.get? c = some o → s.heap.objs.size ≠ c := fun e => Nat.ne_of_gt (Heap.lt_size e)
  have l1 : s.heap.objs.size ≠ i1 := by obtain ⟨_, e⟩ := D1.live _ _ s1; exact lt e
  have l2 : s.heap.objs.size ≠ i2 := by obtain ⟨_, e⟩ := D2.live _ _ s2; exact lt e
  rcases hz with ⟨hz, a, b, hTO⟩ | ⟨T, f, oT, hz, hT, r1, r2, r3, r4⟩
  · refine wpAny_pyNext_zipD2_item Sp D1 D2 hz hTI hTO s1 s2 hlt1 hlt2 fun x1 x2 h' tk y1 y2 b1 b2 d1 d2 b5 b6 hk => ?_
    exact hQ x1 x2 h' tk y1 y2 ⟨hk _ _ Sp.TIz Sp.TITO Sp.TIi1 Sp.TIi2 hTI, d1, d2, .inr ⟨_, false, _, b1, b5, lt hz, l1, l2, Nat.ne_of_gt hS⟩⟩ b5 b6 hk
  · have hTy : s.TypeIs (.ref z) "zip" := ⟨_, hz, rfl⟩
    unfold pyNext
    refine wpAny_bind (wpAny_attempt (wpAny_callSpecial?_slot (name := Str.ofString "__next__") hTy F.slot_zip_next
      (wpAny_call_entry F.slot_zip_next hTy F.entry_zip_next
        (bvz_item_held Sp D1 D2 hz hT hTI s1 s2 hlt1 hlt2 fun x1 x2 h' tk y1 y2 b1 d1 d2 b5 b6 hk => wpAny_pure ?_) (F.args_zip_next_1 _))))
    exact hQ x1 x2 h' tk y1 y2 ⟨hk _ _ Sp.TIz Sp.TIi1 Sp.TIi2 hTI, d1, d2, .inr ⟨T, true, oT, b1, hk _ _ r1 r2 r3 hT, r1, r2, r3, r4⟩⟩ b5 b6 fun c o cz _ c1 c2 e => hk c o cz c1 c2 e
theorem bvz_done (Sp : ZipSep2 z TI TO i1 i2 fp1 fp2) (D1 : Draws prog w A.in1 i1 fp1 n1 P1 St1) (D2 : Draws prog w A.in1 i2 fp2 n2 P2 St2) {Q : Option Value → Shared → Prop}
    (st : BvzSt St1 St2 z TI TO i1 i2 S i s.heap) (hle1 : i ≤ n1) (hle2 : i ≤ n2) (hend : i = n1 ∨ i = n2)
    (hQ : ∀ h' tk, (∀ c o, c ≠ z → c ≠ TO → c ≠ i1 → c ≠ i2 → s.heap.get? c = some o → h'.get? c = some o) → Q none { s with heap := h', toks := tk }) :
    wpAny (model prog w) A (pyNext (.ref z)) Q E s := by
  obtain ⟨hTI, s1, s2, hz⟩ := st
  rcases hz with ⟨hz, a, b, hTO⟩ | ⟨T, f, oT, hz, hT, r1, r2, r3, r4⟩
  · exact wpAny_pyNext_zipD2_end Sp D1 D2 hz hTI hTO s1 s2 hle1 hle2 hend hQ
  · have hTy : s.TypeIs (.ref z) "zip" := ⟨_, hz, rfl⟩
    unfold pyNext
    refine wpAny_bind (wpAny_attempt (wpAny_callSpecial?_slot (name := Str.ofString "__next__") hTy F.slot_zip_next
      (wpAny_call_entry F.slot_zip_next hTy F.entry_zip_next (bvz_end_held Sp D1 D2 hz hT hTI s1 s2 hle1 hle2 hend fun h' tk e hk he => ?_) (F.args_zip_next_1 _))))
    obtain ⟨o, ho, hc⟩ := he
    refine wpAny_bind (wpAny_isInstance (T := "StopIteration") (b := true) ⟨o, ho, hc⟩ isSubtype_stop ?_)
    exact wpAny_pure (hQ _ _ fun c o cz _ c1 c2 e => hk c o cz c1 c2 e)
/-- the pairs in a list that list(zip) fills -/
structure BvzG (P1 P2 : Nat → Value → Prop) (lo : Addr) (h : Heap) (as : List Addr) : Prop where
  rise : as.Pairwise (· < ·)
  above : ∀ a ∈ as, lo < a
  pairs : ∀ j a, as[j]? = some a → ∃ x y, P1 j x ∧ P2 j y ∧ IsTupOf2 h a x y
theorem BvzG.there {lo : Addr} {h : Heap} {as : List Addr} (g : BvzG P1 P2 lo h as) {a : Addr} (ha : a ∈ as) : a < h.objs.size := by
  obtain ⟨j, hj⟩ := List.mem_iff_getElem?.mp ha
  obtain ⟨_, _, _, _, e⟩ := g.pairs j a hj
  exact Heap.lt_size e
end
section
variable {prog : Program} {w : World} {A : Around} {s : Shared} {R : Result → Shared → Prop} {z TI TO i1 i2 S : Addr} {fp1 fp2 : List Addr} {n1 n2 n : Nat} {P1 P2 : Nat → Value → Prop} {St1 St2 : Nat → Heap → Prop}
theorem bvz_loop (Sp : ZipSep2 z TI TO i1 i2 fp1 fp2) (D1 : Draws prog w A.in1.in1 i1 fp1 n1 P1 St1) (D2 : Draws prog w A.in1.in1 i2 fp2 n2 P2 St2) (hn : n = min n1 n2)
    (n0 : z < S) (nI : TI < S) (nO : TO < S) (nf1 : ∀ b ∈ fp1, b < S) (nf2 : ∀ b ∈ fp2, b < S) (hsz : n ≤ sizeLine) (res : Value) {h₁ : Heap}
    (hR : ∀ h' tk acc c as, (∀ b o, b ≠ S → b ≠ z → b ≠ TO → b ≠ i1 → b ≠ i2 → h₁.get? b = some o → h'.get? b = some o) → h'.get? S = some { cls := .type "list", dict := none, data := .seq acc c, slots := #[] } → as.length = n → BvzG P1 P2 S h' as →
      acc.toList = as.map Value.ref → R (.ok (.ret res)) { s with heap := h', toks := tk }) :
    ∀ (k i : Nat) (h : Heap) (tk c : Nat) (acc : Array Value) (as : List Addr), n - i = k → i ≤ n → BvzSt St1 St2 z TI TO i1 i2 S i h → (∀ b o, b ≠ S → b ≠ z → b ≠ TO → b ≠ i1 → b ≠ i2 → h₁.get? b = some o → h.get? b = some o) →
      h.get? S = some { cls := .type "list", dict := none, data := .seq acc c, slots := #[] } → acc.toList = as.map Value.ref → as.length = i → BvzG P1 P2 S h as →
      codeAny (model prog w) A (.builtin "list.extend.loop" ⟨[.ref S, .ref z, res], []⟩) R { s with heap := h, toks := tk } := by
  have l1 : i1 < S := nf1 _ Sp.mem1
  have l2 : i2 < S := nf2 _ Sp.mem2
  have up0 : ∀ {h h' : Heap} {b : Addr} {o : Obj}, (∀ c o, c ≠ z → c ≠ TO → c ≠ i1 → c ≠ i2 → h.get? c = some o → h'.get? c = some o) → S ≤ b → h.get? b = some o → h'.get? b = some o := fun k hb e =>
    k _ _ (Nat.ne_of_gt (Nat.lt_of_lt_of_le n0 hb)) (Nat.ne_of_gt (Nat.lt_of_lt_of_le nO hb)) (Nat.ne_of_gt (Nat.lt_of_lt_of_le l1 hb)) (Nat.ne_of_gt (Nat.lt_of_lt_of_le l2 hb)) e
  intro k
  induction k with
  | zero =>
    intro i h tk c acc as hk hi hst hkeep hS hacc hal hG
    have hin : i = n := by omega
    refine codeAny_builtin PySem.F.entry_extend_loop ?_
    rw [Around.under_plainId PySem.F.plain_extend_loop _]
    show wpAny _ A.in1 (pyNext (.ref z) >>= _) _ _ _
    refine wpAny_bind (bvz_done (s := { s with heap := h, toks := tk }) (A := A.in1) (S := S) Sp D1 D2 hst (by omega) (by omega) (by omega) fun h' tk' he => ?_)
    refine wpAny_pure (hR h' tk' acc c as (fun b o h1 h2 h3 h4 h5 e => he b o h2 h3 h4 h5 (hkeep b o h1 h2 h3 h4 h5 e)) (up0 he (Nat.le_refl _) hS) (by omega) ⟨hG.rise, hG.above, fun j a hj => ?_⟩ hacc)
    obtain ⟨x, y, e1, e2, e3⟩ := hG.pairs j a hj
    exact ⟨x, y, e1, e2, up0 he (Nat.le_of_lt (hG.above a (List.mem_of_getElem? hj))) e3⟩
  | succ k ih =>
    intro i h tk c acc as hk hi hst hkeep hS hacc hal hG
    have hlt : i < n := by omega
    have hsa : acc.size = i := by rw [← Array.length_toList, hacc, List.length_map, hal]
    refine codeAny_builtin PySem.F.entry_extend_loop ?_
    rw [Around.under_plainId PySem.F.plain_extend_loop _]
    show wpAny _ A.in1 (pyNext (.ref z) >>= _) _ _ _
    refine wpAny_bind (bvz_next (s := { s with heap := h, toks := tk }) (A := A.in1) (S := S) Sp D1 D2 (Heap.lt_size hS) hst (by omega) (by omega) fun x1 x2 h' tk' y1 y2 hst' ht hz hkp => ?_)
    dsimp only at ht hz hkp ⊢
    have hS' := up0 hkp (Nat.le_refl _) hS
    have up : ∀ b o, b ≠ S → h'.get? b = some o → (h'.update S (Obj.mapSeq (·.push (Value.ref h.objs.size)))).get? b = some o := fun b o hb e => (Heap.get?_update_other _ _ (Ne.symm hb)).trans e
    have hSl : S < h.objs.size := Heap.lt_size hS
    show wpAny _ A.in1 (updateSeq S (·.push (Value.ref h.objs.size)) >>= _) _ _ _
    refine wpAny_bind ?_
    refine wpAny_updateSeq hS' rfl (wpAny_pure ⟨plainId_quiet PySem.F.plain_extend_loop _, ih (i + 1) _ tk' _ (acc.push (Value.ref h.objs.size)) (as ++ [h.objs.size]) (by omega) hlt
      (hst'.keep D1 D2 (Nat.ne_of_gt n0) (Nat.ne_of_gt nI) (Nat.ne_of_gt nO) (fun q => Nat.lt_irrefl _ (nf1 _ q)) (fun q => Nat.lt_irrefl _ (nf2 _ q)) up)
      (fun b o h1 h2 h3 h4 h5 e => up b o h1 (hkp b o h2 h3 h4 h5 (hkeep b o h1 h2 h3 h4 h5 e))) (Heap.get?_update_self _ hS' rfl) (by rw [Array.toList_push, hacc, List.map_append]; rfl) (by rw [List.length_append, hal]; rfl) ⟨?_, ?_, ?_⟩⟩) (by rw [hsa]; omega) (by show (acc.push (Value.ref h.objs.size)).size ≤ sizeLine + 1; rw [Array.size_push, hsa]; omega)
    · refine List.pairwise_append.mpr ⟨hG.rise, List.pairwise_singleton _ _, fun a ha b hb => ?_⟩
      rw [List.mem_singleton.mp hb]
      exact hG.there ha
    · intro a ha
      rcases List.mem_append.mp ha with ha | ha
      · exact hG.above a ha
      · rw [List.mem_singleton.mp ha]; exact hSl
    · intro j b hj
      rcases Nat.lt_trichotomy j as.length with h1 | h1 | h1
      · rw [List.getElem?_append_left h1] at hj
        obtain ⟨x', y', e1, e2, e3⟩ := hG.pairs j b hj
        have hb := hG.above b (List.mem_of_getElem? hj)
        exact ⟨x', y', e1, e2, up b _ (Nat.ne_of_gt hb) (up0 hkp (Nat.le_of_lt hb) e3)⟩
      · subst h1
        have hb : h.objs.size = b := by simpa using hj
        subst hb
        exact ⟨x1, x2, by rw [hal]; exact y1, by rw [hal]; exact y2, up _ _ (Nat.ne_of_gt hSl) ht⟩
      · have hnone : (as ++ [h.objs.size])[j]? = none := List.getElem?_eq_none (by rw [List.length_append, List.length_singleton]; omega)
        rw [hnone] at hj; cases hj
theorem F.zip_no_len : typeLookup (.type "zip") "__len__" = pure none := by rw [typeLookup_type, builtinLookup_eq_fast]; kernel_rfl
theorem F.zip_no_hint : typeLookup (.type "zip") "__length_hint__" = pure none := by rw [typeLookup_type, builtinLookup_eq_fast]; kernel_rfl
end
end PySem

namespace PySem
open Sem (wp)
section
variable {prog : Program} {w : World} {A : Around} {E : Value → Shared → Prop} {s : Shared} {z TI TO i1 i2 : Addr} {fp1 fp2 : List Addr} {n1 n2 n : Nat} {P1 P2 : Nat → Value → Prop} {St1 St2 : Nat → Heap → Prop}
/-- z stands at its beginning over two iterators -/
structure BvzOk (prog : Program) (w : World) (z TI TO i1 i2 : Addr) (fp1 fp2 : List Addr) (n1 n2 : Nat) (P1 P2 : Nat → Value → Prop) (St1 St2 : Nat → Heap → Prop) (h : Heap) : Prop where
  Sp : ZipSep2 z TI TO i1 i2 fp1 fp2
  D1 : ∀ A : Around, A.handled = none → Draws prog w A i1 fp1 n1 P1 St1
  D2 : ∀ A : Around, A.handled = none → Draws prog w A i2 fp2 n2 P2 St2
  hz : IsZip h z TI TO .none
  hTI : IsTupOf2 h TI (.ref i1) (.ref i2)
  hTO : ∃ a b, IsTupOf2 h TO a b
  s1 : St1 0 h
  s2 : St2 0 h
  f1 : ∀ b ∈ fp1, b < h.objs.size
  f2 : ∀ b ∈ fp2, b < h.objs.size
theorem bvz_extend {R : Result → Shared → Prop} (hh : A.handled = none) {h0 : Heap} (ok : BvzOk prog w z TI TO i1 i2 fp1 fp2 n1 n2 P1 P2 St1 St2 h0) (S : Addr) (hSS : S = h0.objs.size) (hk0 : ∀ b o, b ≠ S → h0.get? b = some o → s.heap.get? b = some o) (hn : n = min n1 n2) (hsz : n ≤ sizeLine)
    (res : Value) (c₀ : Nat) (hS : s.heap.get? S = some { cls := .type "list", data := .seq #[] c₀ })
    (hR : ∀ h' tk acc c as, (∀ b o, b ≠ S → b ≠ z → b ≠ TO → b ≠ i1 → b ≠ i2 → s.heap.get? b = some o → h'.get? b = some o) → h'.get? S = some { cls := .type "list", dict := none, data := .seq acc c, slots := #[] } → as.length = n → BvzG P1 P2 S h' as →
      acc.toList = as.map Value.ref → R (.ok (.ret res)) { s with heap := h', toks := tk }) :
    wpAny (model prog w) A.in1 (Builtin.List.listExtendWith (.ref S) (.ref z) res)
      (fun fin s' => match fin with | .done f => R (.ok f) s' | .again c' => c'.quiet = true ∧ codeAny (model prog w) A c' R s') (fun e s' => R (.error e) s') s := by
  have lz : z < S := by rw [hSS]; exact Heap.lt_size ok.hz
  have lI : TI < S := by rw [hSS]; exact Heap.lt_size ok.hTI
  have lO : TO < S := by rw [hSS]; obtain ⟨_, _, q⟩ := ok.hTO; exact Heap.lt_size q
  have nf : ∀ {b}, b < S → b ≠ S := fun h => Nat.ne_of_lt h
  have st0 : ∀ h' : Heap, (∀ b o, b ≠ S → s.heap.get? b = some o → h'.get? b = some o) → BvzSt St1 St2 z TI TO i1 i2 S 0 h' := fun h' k => by
    have k' : ∀ b o, b < S → h0.get? b = some o → h'.get? b = some o := fun b o hb e => k b o (nf hb) (hk0 b o (nf hb) e)
    obtain ⟨a, b, hTO⟩ := ok.hTO
    exact ⟨k' _ _ lI ok.hTI, (ok.D1 A hh).frame _ _ _ ok.s1 fun b hb o e => k' b o (by rw [hSS]; exact ok.f1 b hb) e, (ok.D2 A hh).frame _ _ _ ok.s2 fun b hb o e => k' b o (by rw [hSS]; exact ok.f2 b hb) e, .inl ⟨k' _ _ lz ok.hz, a, b, k' _ _ lO hTO⟩⟩
  have hzz : IsZip s.heap z TI TO .none := hk0 _ _ (nf lz) ok.hz
  have hT : s.TypeIs (.ref z) "zip" := ⟨_, hzz, rfl⟩
  have key : ∀ (h : Heap) (c₁ tk : Nat), (∀ b o, b ≠ S → s.heap.get? b = some o → h.get? b = some o) → h.get? S = some { cls := .type "list", data := .seq #[] c₁ } → codeAny (model prog w) A (.builtin "list.extend.loop" ⟨[.ref S, .ref z, res], []⟩) R { s with heap := h, toks := tk } := by
    intro h c₁ tk hk hS₁
    exact bvz_loop (s := s) (h₁ := s.heap) ok.Sp (ok.D1 _ hh) (ok.D2 _ hh) hn lz lI lO (fun b hb => by rw [hSS]; exact ok.f1 b hb) (fun b hb => by rw [hSS]; exact ok.f2 b hb) hsz res hR n 0 h tk c₁ #[] [] (Nat.sub_zero _) (Nat.zero_le _) (st0 h hk) (fun b o h1 _ _ _ _ e => hk b o h1 e) hS₁ rfl rfl
      ⟨List.Pairwise.nil, (fun _ ha => nomatch ha), (fun j a hj => by simp at hj)⟩
  unfold Builtin.List.listExtendWith
  refine wpAny_bind (wpAny_typeOf hT ?_)
  have h1 : Builtin.List.listSameRef (.ref S) (.ref z) = false := by
    have : S ≠ z := Nat.ne_of_gt lz
    simp [Builtin.List.listSameRef, this]
  have h2 : (Value.type "zip" == Value.type "list") = false := by decide
  have h3 : (Value.type "zip" == Value.type "tuple") = false := by decide
  simp only [h1, h2, h3, Bool.or_false, Bool.false_eq_true, if_false]
  refine wpAny_bind (wpAny_pyIter_zip hzz ?_)
  refine wpAny_bind (wpAny_holding ?_)
  unfold Builtin.List.listLengthHint
  refine wpAny_bind (wpAny_specialOf hT F.zip_no_len ?_)
  show wpAny _ A.in1 (specialOf (Value.ref z) (Str.ofString "__length_hint__") >>= _) _ _ _
  refine wpAny_bind (wpAny_specialOf hT F.zip_no_hint ?_)
  refine wpAny_pure ?_
  show wpAny _ A.in1 (rule "list.extend.makes-room" >>= fun _ => Builtin.List.listTouch (.ref S) >>= fun _ => again (.builtin "list.extend.loop" ⟨[.ref S, .ref z, res], []⟩)) _ _ _
  refine wpAny_bind (wpAny_rule ?_)
  refine wpAny_bind ?_
  show wpAny _ A.in1 (updateSeq S (·.push .none) >>= fun _ => updateSeq S (·.pop)) _ _ _
  refine wpAny_bind (wpAny_updateSeq hS rfl ?_)
  have hS₂ := Heap.get?_update_self (Obj.mapSeq (·.push Value.none)) hS rfl
  refine wpAny_updateSeq (hz := by seq_fits) hS₂ rfl ?_
  have hS₃ := Heap.get?_update_self (Obj.mapSeq (·.pop)) hS₂ rfl
  exact wpAny_pure ⟨plainId_quiet F.plain_extend_loop _, key _ _ _ (fun b o hb e => (Heap.get?_update_other _ _ (Ne.symm hb)).trans ((Heap.get?_update_other _ _ (Ne.symm hb)).trans e)) hS₃⟩
theorem bvz_init {R : Result → Shared → Prop} (hh : A.handled = none) {h0 : Heap} (ok : BvzOk prog w z TI TO i1 i2 fp1 fp2 n1 n2 P1 P2 St1 St2 h0) (S : Addr) (hSS : S = h0.objs.size) (hk0 : ∀ b o, b ≠ S → h0.get? b = some o → s.heap.get? b = some o) (hn : n = min n1 n2) (hsz : n ≤ sizeLine)
    (hS : s.heap.get? S = some { cls := .type "list", data := .seq #[] })
    (hR : ∀ h' tk acc c as, (∀ b o, b ≠ S → b ≠ z → b ≠ TO → b ≠ i1 → b ≠ i2 → s.heap.get? b = some o → h'.get? b = some o) → h'.get? S = some { cls := .type "list", dict := none, data := .seq acc c, slots := #[] } → as.length = n → BvzG P1 P2 S h' as →
      acc.toList = as.map Value.ref → R (.ok (.ret .none)) { s with heap := h', toks := tk }) :
    wpAny (model prog w) A.in1 (Builtin.«list.__init__» ⟨[.ref S, .ref z], []⟩)
      (fun fin s' => match fin with | .done f => R (.ok f) s' | .again c' => c'.quiet = true ∧ codeAny (model prog w) A c' R s') (fun e s' => R (.error e) s') s := by
  show wpAny _ _ (do let old ← Builtin.List.listItems (.ref S); Builtin.List.listUpdate (.ref S) (fun _ => #[]); letGo old.toList.reverse; Builtin.List.listExtendWith (.ref S) (.ref z) .none) _ _ s
  refine wpAny_bind ?_
  unfold Builtin.List.listItems
  refine wpAny_bind (wpAny_seqItems hS rfl (wpAny_pure ?_))
  show wpAny _ _ (updateSeq S (fun _ => #[]) >>= fun _ => letGo (#[] : Array Value).toList.reverse >>= fun _ => Builtin.List.listExtendWith (.ref S) (.ref z) .none) _ _ s
  refine wpAny_bind (wpAny_updateSeq hS rfl ?_)
  have hS₂ := Heap.get?_update_self (Obj.mapSeq (fun _ => (#[] : Array Value))) hS rfl
  have oth : ∀ b o, b ≠ S → s.heap.get? b = some o → (s.heap.update S (Obj.mapSeq (fun _ => (#[] : Array Value)))).get? b = some o :=
    fun b o hb e => (Heap.get?_update_other _ _ (Ne.symm hb)).trans e
  refine wpAny_bind (wpAny_letGo ?_)
  refine bvz_extend hh ok S hSS (fun b o hb e => oth b o hb (hk0 b o hb e)) hn hsz .none _ hS₂ fun h' tk acc c as hk hS' hl hG hacc => ?_
  exact hR h' tk acc c as (fun b o hb h2 h3 h4 h5 e => hk b o hb h2 h3 h4 h5 (oth b o hb e)) hS' hl hG hacc
theorem bvz_call {Q : Value → Shared → Prop} (hh : A.handled = none) (ok : BvzOk prog w z TI TO i1 i2 fp1 fp2 n1 n2 P1 P2 St1 St2 s.heap) (hn : n = min n1 n2) (hsz : n ≤ sizeLine)
    (hQ : ∀ h' tk acc c as, (∀ b o, b ≠ z → b ≠ TO → b ≠ i1 → b ≠ i2 → s.heap.get? b = some o → h'.get? b = some o) → h'.get? s.heap.objs.size = some { cls := .type "list", dict := none, data := .seq acc c, slots := #[] } → as.length = n → BvzG P1 P2 s.heap.objs.size h' as →
      acc.toList = as.map Value.ref → Q (.ref s.heap.objs.size) { s with heap := h', toks := tk }) :
    wpAny (model prog w) A (call (.type "list") [.ref z]) Q E s := by
  refine callType_codes (Q₁ := fun obj s₁ => obj = .ref s.heap.objs.size ∧ s₁ = { s with heap := s.heap.push { cls := .type "list", data := .seq #[] } }) PySem.F.called_list (PySem.F.typeCall_list_1 _) PySem.F.entry_list_init
    (code_list_new _ ⟨rfl, rfl⟩) fun obj s₁ h₁ => ?_
  obtain ⟨rfl, rfl⟩ := h₁
  have hS : (s.heap.push { cls := .type "list", data := .seq #[] }).get? s.heap.objs.size = some { cls := .type "list", data := .seq #[] } := Heap.get?_push_size _ rfl
  refine ⟨⟨_, hS, rfl⟩, PySem.F.args_list_init_2 _ _, bvz_init (A := A.in1) hh ok _ rfl (fun b o hb e => Heap.get?_push_of_some _ e) hn hsz hS fun h' tk acc c as hk hS' hl hG hacc => ?_⟩
  exact ⟨rfl, hQ h' tk acc c as (fun b o h2 h3 h4 h5 e => hk b o (Nat.ne_of_lt (Heap.lt_size e)) h2 h3 h4 h5 (Heap.get?_push_of_some _ e)) hS' hl hG hacc⟩
/-- what zip may walk: a list or a tuple -/
theorem bvz_src {h : Heap} {a : Addr} {xs : Array Value} (ha : h.IsList a xs ∨ h.IsTuple a xs) : ∃ o H, Begins (.ref a) o H ∧ H h ∧ ∀ it, a ≠ it → ∃ St, (∀ A : Around, A.handled = none → Draws prog w A it [it, a] xs.size (fun i v => xs[i]? = some v) St) ∧
    ∀ h' : Heap, h'.get? it = some o → (∀ c o, h.get? c = some o → h'.get? c = some o) → St 0 h' := by
  rcases ha with ha | ha
  · exact ⟨_, _, begins_list a xs, ha, fun it hne => ⟨_, fun A hh => Draws.list hh it a hne xs, fun h' e k => ⟨⟨_, e, rfl, rfl⟩, ha.at fun o x => k a o x⟩⟩⟩
  · exact ⟨_, _, begins_tuple a xs, ha, fun it hne => ⟨_, fun A hh => Draws.tuple hh it a hne xs, fun h' e k => ⟨⟨_, e, rfl, rfl⟩, ha.at fun o x => k a o x⟩⟩⟩
/-- zip(a, b) -/
theorem bvz_zip {a b : Addr} {xs ys : Array Value} {Q : Value → Shared → Prop} (ha : s.heap.IsList a xs ∨ s.heap.IsTuple a xs) (hb : s.heap.IsList b ys ∨ s.heap.IsTuple b ys) (la : a < s.heap.objs.size) (lb : b < s.heap.objs.size)
    (hQ : ∀ h' z TI TO i1 i2 fp1 fp2 St1 St2, BvzOk prog w z TI TO i1 i2 fp1 fp2 xs.size ys.size (fun i v => xs[i]? = some v) (fun i v => ys[i]? = some v) St1 St2 h' → (∀ c o, s.heap.get? c = some o → h'.get? c = some o) →
      s.heap.objs.size ≤ z → s.heap.objs.size ≤ TO → s.heap.objs.size ≤ i1 → s.heap.objs.size ≤ i2 → Q (.ref z) { s with heap := h' }) :
    wpAny (model prog w) A (call (.type "zip") [.ref a, .ref b]) Q E s := by
  obtain ⟨o1, H1, B1, h1, f1⟩ := bvz_src (prog := prog) (w := w) ha
  obtain ⟨o2, H2, B2, h2, f2⟩ := bvz_src (prog := prog) (w := w) hb
  refine zip_begins2 B1 B2 h1 h2 fun h' hz hTI hTO e1 e2 hsz hk => ?_
  obtain ⟨St1, D1, g1⟩ := f1 s.heap.objs.size (Nat.ne_of_lt la)
  obtain ⟨St2, D2, g2⟩ := f2 (s.heap.objs.size + 1) (Nat.ne_of_lt (Nat.lt_succ_of_lt lb))
  refine hQ h' _ _ _ _ _ _ _ St1 St2 ⟨zip_sep2 (N := s.heap.objs.size) (fp1 := [a]) (fp2 := [b]) (fun c hc => ?_) (fun c hc => ?_), D1, D2, hz, hTI, ⟨_, _, hTO⟩, g1 h' e1 hk, g2 h' e2 hk, fun c hc => ?_, fun c hc => ?_⟩ hk ?_ ?_ ?_ ?_
  · rw [List.mem_singleton.mp hc]; exact la
  · rw [List.mem_singleton.mp hc]; exact lb
  · rw [hsz]
    rcases List.mem_cons.mp hc with e | hc
    · rw [e]; exact Nat.lt_add_of_pos_right (by decide)
    · rw [List.mem_singleton.mp hc]; exact Nat.lt_of_lt_of_le la (Nat.le_add_right _ _)
  · rw [hsz]
    rcases List.mem_cons.mp hc with e | hc
    · rw [e]; exact Nat.add_lt_add_left (by decide) _
    · rw [List.mem_singleton.mp hc]; exact Nat.lt_of_lt_of_le lb (Nat.le_add_right _ _)
  · exact Nat.le_add_right _ _
  · exact Nat.le_add_right _ _
  · exact Nat.le_refl _
  · exact Nat.le_add_right _ _
end
end PySem
namespace BV
open PySem L2 PyProof.Rows
/-- the tuples tracked at their addresses -/
def putP : Hp → List Addr → List (V × V) → Hp
  | H, a :: as, p :: ps => putP (upd H a (.tup [p.1, p.2])) as ps
  | H, _, _ => H
theorem putP_off {b : Addr} : ∀ (as : List Addr) (ps : List (V × V)) (H : Hp), b ∉ as → putP H as ps b = H b
  | [], _, _, _ => rfl
  | _ :: _, [], _, _ => rfl
  | a :: as, p :: ps, H, h => by
    show putP (upd H a (.tup [p.1, p.2])) as ps b = H b
    rw [putP_off as ps _ (fun z => h (List.mem_cons_of_mem _ z)), upd_ne (fun z => h (by rw [z]; exact List.mem_cons_self))]
theorem putP_at : ∀ (as : List Addr) (ps : List (V × V)) (H : Hp), as.length = ps.length → as.Nodup → Paired (fun (t : Addr) (p : V × V) => putP H as ps t = some (.tup [p.1, p.2])) as ps
  | [], [], _, _, _ => .nil
  | [], _ :: _, _, h, _ => by cases h
  | _ :: _, [], _, h, _ => by cases h
  | a :: as, p :: ps, H, h, hn => by
    have hn' := List.nodup_cons.mp hn
    have ih := putP_at as ps (upd H a (.tup [p.1, p.2])) (Nat.succ.inj h) hn'.2
    refine .cons ?_ ih
    show putP (upd H a (.tup [p.1, p.2])) as ps a = some (.tup [p.1, p.2])
    rw [putP_off as ps _ hn'.1, upd_same]
section
variable {X : Cx} {p p2 pos pos2 : Pos}
/-- a list or a tuple -/
def SqA (K : PySem.W.Frag) (H : Hp) (a : Addr) (xs : List V) : Prop := SqL K H a xs ∨ SqT K H a xs
theorem SqA.at {pins : List (Addr × Obj)} {σ : L2.St} {H : Hp} {s : Shared} {a : Addr} {xs : List V} (I : Inv X pins σ H s) (h : SqA X.K H a xs) : ∃ its : List Value, Vals xs its ∧ (s.heap.IsList a its.toArray ∨ s.heap.IsTuple a its.toArray) ∧ a < s.heap.objs.size ∧ xs.length ≤ sizeLine := by
  rcases h with h | h
  · obtain ⟨its, rv, q, hz⟩ := I.list h
    exact ⟨its, rv, .inl q.isList, q.lt, hz⟩
  · obtain ⟨its, rv, q, hz⟩ := I.tuple h
    refine ⟨its, rv, .inr q, ?_, hz⟩
    obtain ⟨o, ho, _⟩ := id (show s.heap.IsTuple a its.toArray from q)
    exact Heap.lt_size ho
/-- list(zip(a, b)) -/
def rZipL (K : PySem.W.Frag) : List V → Hp → VK → Prop := fun vs H Q => ∃ a b xs ys, vs = [.ref a, .ref b] ∧ SqA K H a xs ∧ SqA K H b ys ∧
  ∀ (q : Addr) (ts : List Addr), H q = none → (∀ t ∈ ts, H t = none) → q ∉ ts → ts.Nodup → ts.length = (xs.zip ys).length → Q (.ref q) (upd (putP H ts (xs.zip ys)) q (.lst (ts.map V.ref)))
theorem bvz_laid {pins : List (Addr × Obj)} {σ : L2.St} {H : Hp} {s s1 : Shared} {xs ys : List V} {its its2 : List Value} {acc : Array Value} {c : Nat} {as : List Addr} (I : Inv X pins σ H s) (hz : (xs.zip ys).length ≤ sizeLine) (r1 : Vals xs its) (r2 : Vals ys its2)
    (hk : ∀ b o, s.heap.get? b = some o → s1.heap.get? b = some o) (hg : s1.gens = s.gens) (hd : s1.drawn = s.drawn) (hos : s1.os = s.os) {q : Addr} (hqn : s.heap.objs.size ≤ q)
    (hS : s1.heap.get? q = some { cls := .type "list", dict := none, data := .seq acc c, slots := #[] }) (hl : as.length = (xs.zip ys).length)
    (hG : PySem.BvzG (fun i v => its.toArray[i]? = some v) (fun i v => its2.toArray[i]? = some v) q s1.heap as) (hacc : acc.toList = as.map Value.ref) :
    H q = none ∧ (∀ t ∈ as, H t = none) ∧ q ∉ as ∧ as.Nodup ∧ Inv X pins σ (upd (putP H as (xs.zip ys)) q (.lst (as.map V.ref))) s1 := by
  have hSn : q ∉ as := fun z => Nat.lt_irrefl _ (hG.above _ z)
  have nd : as.Nodup := List.Pairwise.imp (fun {a b} (h : a < b) => Nat.ne_of_lt h) hG.rise
  have new : ∀ t ∈ as, H t = none := fun t ht => I.hok.fresh (Nat.le_trans hqn (Nat.le_of_lt (hG.above t ht)))
  have newS : H q = none := I.hok.fresh hqn
  have atP := putP_at as (xs.zip ys) H hl nd
  have off : ∀ b, b ∉ as → b ≠ q → upd (putP H as (xs.zip ys)) q (.lst (as.map V.ref)) b = H b := fun b h1 h2 => by rw [upd_ne h2, putP_off as _ _ h1]
  have low : ∀ b o, s.heap.get? b = some o → b ∉ as ∧ b ≠ q := fun b o e => ⟨fun z => absurd (Heap.lt_size e) (Nat.not_lt.mpr (Nat.le_trans hqn (Nat.le_of_lt (hG.above b z)))), Nat.ne_of_lt (Nat.lt_of_lt_of_le (Heap.lt_size e) hqn)⟩
  have kp : ∀ b u, H b = some u → upd (putP H as (xs.zip ys)) q (.lst (as.map V.ref)) b = some u := fun b u e => by
    rw [off b (fun z => by rw [new b z] at e; cases e) (fun z => by rw [z, newS] at e; cases e)]
    exact e
  refine ⟨newS, new, hSn, nd, ?_⟩
  obtain ⟨hp, g, d, tk, os⟩ := s
  obtain ⟨hp1, g1, d1, tk1, os1⟩ := s1
  cases hg; cases hd; cases hos
  refine I.call' (ch := []) rfl ⟨fun b o e _ _ _ => hk b o e, fun b o e _ _ _ => ⟨o.slots, hk b o e⟩, fun b o e n _ => ?_, fun b o e _ => ⟨o, hk b o e⟩, fun b xs e => kp b _ e, fun b o u e => kp b _ e, fun b ps e => ⟨#[], by rw [kp b _ e]; simp⟩⟩ (fun b u e => ?_) I.bare fun b z => by simp at z
  · obtain ⟨z1, z2⟩ := low b o e
    rw [off b z1 z2]
    exact n
  · by_cases hb2 : b = q
    · rw [hb2, upd_same] at e
      cases e
      rw [hb2]
      refine ⟨by rw [List.length_map]; omega, acc.toList, c, by rw [hacc]; exact LiI.vals_refs as, ?_⟩
      rw [Array.toArray_toList]
      exact hS
    · by_cases hb : b ∈ as
      · rw [upd_ne hb2] at e
        obtain ⟨j, pk, e1, e2, e3⟩ := LiI.paired_ix atP hb
        rw [e3] at e
        cases e
        obtain ⟨x, y, f1, f2, f3⟩ := hG.pairs j b e1
        obtain ⟨h1, h2⟩ := List.getElem?_zip_eq_some.mp e2
        obtain ⟨u1, g1, k1⟩ := r1.get h1
        obtain ⟨u2, g2, k2⟩ := r2.get h2
        have f1' : its[j]? = some x := by simpa using f1
        have f2' : its2[j]? = some y := by simpa using f2
        rw [f1'] at g1; cases g1
        rw [f2'] at g2; cases g2
        exact ⟨by show 2 ≤ sizeLine; decide, [x, y], .cons k1 (.cons k2 .nil), ⟨_, f3, rfl, _, rfl⟩⟩
      · rw [off b hb hb2] at e
        exact (I.hok b u e).stay (fun d v _ y => hk d v y) (fun d y => kp d _ y) fun d xs y => kp d _ y
theorem pe_listzip {e e2 : Expr} {ta : TA} (hc : X.calm = true) (ha : PA X [e, e2] ta) (hg : Gl X "list") (hm : X.mg "list" = none) (hg2 : Gl X "zip") (hm2 : X.mg "zip" = none)
    (hs2 : starEach [e, e2] X.env = (false, eval e X.env) :: starEach [e2] X.env := by rfl) (hpl : (backTo pos2 (starEach [e2] X.env)).any (·.1) = false := by rfl)
    (hs : starEach [.Call (.Name "zip" p2) [e, e2] [] pos2] X.env = (false, eval (.Call (.Name "zip" p2) [e, e2] [] pos2) X.env) :: starEach [] X.env := by rfl) :
    PE X (.Call (.Name "list" p) [.Call (.Name "zip" p2) [e, e2] [] pos2] [] pos) (fun σ H Q => ta σ H (fun vs H' => rZipL X.K vs H' Q)) := by
  refine ⟨fun pins s σ H Q I hq => ?_⟩
  refine wpAny_Call_Name_kw (ld_blt I hg hm (show bootBuiltins "list" = some (.type "list") by decide +kernel) ?_)
  refine PyProof.Rows.callWith_type1 ?_ hs rfl
  rw [hs]
  show wpAny _ _ (spliced ((false, eval (.Call (.Name "zip" p2) [e, e2] [] pos2) X.env) :: backTo pos (starEach [] X.env))) _ _ s
  refine Calls.spliced_cons ?_
  refine Call_ (ld_blt I hg2 hm2 PyProof.Rows.boot_zip (PyProof.Rows.callWith_type1 (thn (ha.run pos2 pins s σ H _ I hq) fun us s1 ⟨vs, H1, I1, r1, q1⟩ => ?_) hs2 hpl))
  obtain ⟨a, b, xs, ys, ex, hqx, hqy, q⟩ := q1
  subst ex
  cases r1 with
  | cons r rr =>
    cases rr with
    | cons r' rr =>
      cases rr
      cases r
      cases r'
      obtain ⟨its, rv1, p1, la, z1⟩ := hqx.at I1
      obtain ⟨its2, rv2, p2', lb, z2⟩ := hqy.at I1
      refine PySem.bvz_zip p1 p2' la lb fun h' z TI TO i1 i2 fp1 fp2 St1 St2 ok hk lz lO l1 l2 => ?_
      refine Calls.spliced_nil ?_
      have I2 : Inv X pins σ H1 { s1 with heap := h' } := I1.kept (t' := s1.toks) hk
      have e1 := rv1.length
      have e2 := rv2.length
      have hlen : (xs.zip ys).length = min its.toArray.size its2.toArray.size := by rw [List.length_zip]; simp [e1, e2]
      refine PySem.bvz_call (s := { s1 with heap := h' }) (I1.ok.hd hc) ok hlen (by rw [List.length_zip]; omega) fun h'' tk acc c as hk2 hS hl hG hacc => ?_
      have low : ∀ b o, s1.heap.get? b = some o → h''.get? b = some o := fun b o e => hk2 b o (Nat.ne_of_lt (Nat.lt_of_lt_of_le (Heap.lt_size e) lz)) (Nat.ne_of_lt (Nat.lt_of_lt_of_le (Heap.lt_size e) lO)) (Nat.ne_of_lt (Nat.lt_of_lt_of_le (Heap.lt_size e) l1)) (Nat.ne_of_lt (Nat.lt_of_lt_of_le (Heap.lt_size e) l2)) (hk b o e)
      have hle : s1.heap.objs.size ≤ h'.objs.size := by
        have := Heap.lt_size ok.hz
        exact Nat.le_trans lz (Nat.le_of_lt this)
      obtain ⟨n1, n2, n3, n4, J⟩ := bvz_laid (s1 := { s1 with heap := h'', toks := tk }) I1 (by rw [List.length_zip]; omega) rv1 rv2 low rfl rfl rfl hle hS hl hG hacc
      exact ⟨.ref _, _, J, rfl, q _ as n1 n2 n3 n4 hl⟩
end
end BV

namespace BV
open PySem L2 PyProof.Rows
def zipD (xs ys : List D) : List D := (xs.zip ys).map fun p => .tup [p.1, p.2]
@[simp] theorem zipD_nil {ys : List D} : zipD [] ys = [] := rfl
@[simp] theorem zipD_nil2 {xs : List D} : zipD xs [] = [] := by cases xs <;> rfl
@[simp] theorem zipD_cons {x y : D} {xs ys : List D} : zipD (x :: xs) (y :: ys) = .tup [x, y] :: zipD xs ys := rfl
theorem Op.putP {K : PySem.W.Frag} : ∀ {xs ys : List V} {ds es : List D} {ts : List Addr} {F H : Hp} {L : List Ent} {A : List Addr}, Op K F H L A → RpA K F xs ds → RpA K F ys es → (∀ t ∈ ts, H t = none) → ts.Nodup → ts.length = (xs.zip ys).length →
    ∃ F', Op K F' (BV.putP H ts (xs.zip ys)) L A ∧ Sub F F' ∧ RpA K F' (ts.map V.ref) (zipD ds es)
  | [], ys, ds, es, ts, F, H, L, A, o, r1, r2, hn, nd, hl => by
    cases r1
    have : ts = [] := List.length_eq_zero_iff.mp (by simpa using hl)
    subst this
    exact ⟨F, o, Sub.refl _, .nil⟩
  | _ :: _, [], ds, es, ts, F, H, L, A, o, r1, r2, hn, nd, hl => by
    cases r2
    have : ts = [] := List.length_eq_zero_iff.mp (by simpa using hl)
    subst this
    cases r1
    exact ⟨F, o, Sub.refl _, .nil⟩
  | x :: xs, y :: ys, ds, es, ts, F, H, L, A, o, r1, r2, hn, nd, hl => by
    cases ts with
    | nil => simp at hl
    | cons t ts =>
      cases r1 with
      | cons a1 b1 =>
        cases r2 with
        | cons a2 b2 =>
          have ht : H t = none := hn t List.mem_cons_self
          have nd' := List.nodup_cons.mp nd
          have sF : Sub F (upd F t (.tup [x, y])) := Sub.new (o.sub.nn ht)
          obtain ⟨F', o', s', r'⟩ := Op.putP (o.extF (u := .tup [x, y]) ht) (b1.mono sF) (b2.mono sF) (ts := ts) (fun u hu => by
            rw [upd_ne (fun e => nd'.1 (by rw [← e]; exact hu))]; exact hn u (List.mem_cons_of_mem _ hu)) nd'.2 (by simpa using hl)
          exact ⟨F', o', sF.trans s', .cons (.tup (.inl (.inl (s' _ _ upd_same))) ((RpA.cons a1 (RpA.cons a2 .nil)).mono (sF.trans s'))) r'⟩
def gZip : List M → Option (List D)
  | [m1, m2] => match m1.seq, m2.seq with
    | some xs, some ys => some (zipD xs ys)
    | _, _ => none
  | _ => none
def wZipL (was : WA) : BV.WE := fun e C X => was e (fun os e1 => match (msOf e1 os).bind gZip with | some ds => C (.l ds) e1 | none => False) X
section
variable {X : Cx} {W : WX} {p p2 pos pos2 : Pos}
theorem be_listzip {e e2 : Expr} {was : WA} (hc : X.calm = true) (hg : Gl X "list") (hm : X.mg "list" = none) (hg2 : Gl X "zip") (hm2 : X.mg "zip" = none) (ha : PA X [e, e2] (tA X.K W was))
    (hs2 : starEach [e, e2] X.env = (false, eval e X.env) :: starEach [e2] X.env := by rfl) (hpl : (backTo pos2 (starEach [e2] X.env)).any (·.1) = false := by rfl)
    (hs : starEach [.Call (.Name "zip" p2) [e, e2] [] pos2] X.env = (false, eval (.Call (.Name "zip" p2) [e, e2] [] pos2) X.env) :: starEach [] X.env := by rfl) :
    PE X (.Call (.Name "list" p) [.Call (.Name "zip" p2) [e, e2] [] pos2] [] pos) (tE X.K W (wZipL was)) :=
  (pe_listzip hc ha hg hm hg2 hm2 hs2 hpl hs).wk fun σ H Q h => by
    obtain ⟨env, R, C, CX, ok, h, hQ, hX⟩ := h
    refine ⟨env, R, _, CX, ok, h, fun vs H' os env' r q c => ?_, hX⟩
    cases e : (msOf env' os).bind gZip with
    | none => rw [e] at c; exact c.elim
    | some res =>
      rw [e] at c
      obtain ⟨ms, e1, e2⟩ := Option.bind_eq_some_iff.mp e
      obtain ⟨hl, F, A, o⟩ := q
      have vw : VwA X.K F H' vs ms := views o r e1 (fun e he => List.mem_append_left _ he) fun e he => List.mem_append_right _ (List.mem_append_left _ he)
      unfold gZip at e2
      split at e2
      · rename_i m1 m2
        split at e2
        · rename_i ds es z1 z2
          cases e2
          cases vw with
          | cons r1 vw =>
            cases vw with
            | cons r2 vw =>
              cases vw
              obtain ⟨a, xs, rfl, ha, ra⟩ := seq_view o.sub r1 z1
              obtain ⟨b, ys, rfl, hb, rb⟩ := seq_view o.sub r2 z2
              refine ⟨a, b, xs, ys, rfl, ha, hb, fun q ts n1 n2 n3 n4 n5 => ?_⟩
              obtain ⟨F', o', s', r'⟩ := o.putP ra rb n2 n4 n5
              have hq : BV.putP H' ts (xs.zip ys) q = none := by rw [putP_off _ _ _ n3]; exact n1
              exact hQ _ _ _ env' (OkS.popRs (OkS.permR (OkS.ofTop hl ⟨F', _, o'.newL r' hq⟩) (perm_mid _ R _).symm)) c
        · cases e2
      · cases e2
end
end BV

namespace BV
open PySem L2 PyProof.Rows
/-- enumerate over a text -/
def Ites (x : Str) : It :=
  ⟨fun i _ => i < x.cps.size, fun i H v H' => ∃ T c, v = .ref T ∧ H T = none ∧ H' = upd H T (.tup [.int (i : Nat), .str ⟨#[c]⟩]) ∧ x.cps[i]? = some c, fun i _ => x.cps.size ≤ i⟩
theorem turn_enumS {P : Program} {w : World} {K : PySem.W.Frag} {elts : List Expr} {kk : Nat} {tpos : Pos} (x : Str) (t : Tok) (e it : Addr) :
    Turn P w K (.Tuple elts kk tpos) (Ites x) [e, it] e (fun i h => (i ≤ x.cps.size ∧ ∃ old, IsEnum h e it ((i : Nat) : Int) old) ∧ h.IsStrIter it (strIterType x) x t i ∧ e ≠ it) where
  mem := by simp
  obj := fun i h st b hb => by
    obtain ⟨⟨_, old, he⟩, ⟨o, ho, hc, hd⟩, _⟩ := st
    have e' : b = e ∨ b = it := by simpa using hb
    rcases e' with z | z
    · rw [z]; exact ⟨_, he, fun v q => nomatch q⟩
    · rw [z]; exact ⟨o, ho, fun v q => by rw [hd] at q; cases q⟩
  keep := fun i h h' st k => let ⟨⟨n0, old, he⟩, ⟨o, ho, r⟩, hne⟩ := st; ⟨⟨n0, old, k e (by simp) _ he⟩, ⟨o, k it (by simp) o ho, r⟩, hne⟩
  item := by
    intro X hP hw hK hc i pins s σ H E I hf st hg
    subst hP hw hK
    obtain ⟨⟨_, old, he⟩, hit, hne⟩ := st
    have hel : e < s.heap.objs.size := Heap.lt_size he
    have hil : it < s.heap.objs.size := by obtain ⟨_, q, _⟩ := hit; exact Heap.lt_size q
    have hg' : i < x.cps.size := hg
    refine wpAny_pyNext_enum_itemD (Draws.text (A := X.A.in1) (I.ok.hd hc) it x t) he hit hg hne (by simpa using hne) fun u h' tk hP ho hit' hT hsz hk => ?_
    obtain ⟨c, uu, hx, rfl⟩ := hP
    refine ⟨_, rfl, wpAny_letOwnedTupleGo_enum (s := { s with heap := h', toks := tk + 1 }) ho fun h'' he' sb => ?_⟩
    have hT2 : h''.get? s.heap.objs.size = some { cls := .type "tuple", data := .seq #[.int i tk, .str ⟨#[c]⟩ uu] } := (sb.2 _ (Nat.ne_of_gt hel)).trans hT
    have new : ObjOk X.prog X.w (upd H s.heap.objs.size (.tup [.int (i : Nat), .str ⟨#[c]⟩])) h'' s.heap.objs.size (.tup [.int (i : Nat), .str ⟨#[c]⟩]) :=
      ⟨by show 2 ≤ sizeLine; decide, [.int i tk, .str ⟨#[c]⟩ uu], .cons ⟨_, rfl⟩ (.cons ⟨_, rfl⟩ .nil), ⟨_, hT2, rfl, _, rfl⟩⟩
    have I1 : Inv X pins σ (upd H s.heap.objs.size (.tup [.int (i : Nat), .str ⟨#[c]⟩])) { s with heap := h'', toks := tk + 1 } :=
      I.turnedNew (ch := [e, it]) (fun b ob hb q => (sb.2 b (fun z => hb (by simp [z]))).trans (hk b ob (fun z => hb (by simp [z])) (fun z => hb (by simp [z])) q)) hf (Nat.le_refl _) new
    refine ⟨.ref s.heap.objs.size, _, I1, rfl, ⟨_, c, rfl, I.hok.fresh (Nat.le_refl _), rfl, hx⟩, ⟨⟨hg', .str ⟨#[c]⟩ uu, ?_⟩, ?_, hne⟩, fun b hb => ?_⟩
    · have e1 : ((i + 1 : Nat) : Int) = (i : Int) + 1 := by omega
      rw [e1]; exact he'
    · obtain ⟨o, ho2, r⟩ := hit'
      exact ⟨o, (sb.2 it (Ne.symm hne)).trans ho2, r⟩
    · have hb' : b < s.heap.objs.size := by
        have e' : b = e ∨ b = it := by simpa using hb
        rcases e' with z | z
        · rw [z]; exact hel
        · rw [z]; exact hil
      rw [upd_ne (Nat.ne_of_lt hb')]
      exact (hf b hb).1
  done := by
    intro X hP hw hK hc i pins s σ H E I hf st hg
    subst hP hw hK
    obtain ⟨⟨hi, old, he⟩, hit, hne⟩ := st
    obtain ⟨f0, f1, f2, f3, f4, f5⟩ := hf it (by simp)
    have hn : i = x.cps.size := Nat.le_antisymm hi hg
    subst hn
    exact wpAny_pyNext_enum_endD (Draws.text (A := X.A.in1) (I.ok.hd hc) it x t) he hit fun h' eb => ⟨rfl, I.turned (t' := s.toks) (fun b o hb q => eb b o hb q) f0 f1 f3 f4 f5⟩
  self := fun A i s Q E st h => let ⟨⟨_, _, he⟩, _⟩ := st; wpAny_pyIter_enum he h
section
variable {X : Cx} {W : WX}
def iEnumS (ta : TA) : TI := fun σ H R => ta σ H fun vs H1 => ∃ x, vs = [.str x] ∧ R (Ites x) H1
theorem pi_enumS {e : Expr} {ta : TA} {p pos tpos : Pos} {elts : List Expr} {kk : Nat} (hg : Gl X "enumerate") (hm : X.mg "enumerate" = none) (ha : PA X [e] ta) (hs : starEach [e] X.env = [(false, eval e X.env)] := by rfl) :
    PI X (.Tuple elts kk tpos) (.Call (.Name "enumerate" p) [e] [] pos) (iEnumS ta) := by
  refine ⟨fun pins s σ H R I h => ?_⟩
  refine Call_ (ld_blt I hg hm boot_enumerate (PyProof.Rows.callWith_type1 (thn (ha.run pos pins s σ H _ I h) fun us s1 ⟨vs, H1, I1, r1, q1⟩ => ?_) hs rfl))
  obtain ⟨x, ex, q⟩ := q1
  subst ex
  cases r1 with
  | cons r rr =>
    cases rr
    obtain ⟨t, rfl⟩ := r
    refine call_enumerate_str fun h' he hit hsz hk => wpAny_pyIter_enum he ?_
    have I2 : Inv X pins σ H1 { s1 with heap := h' } := I1.kept (t' := s1.toks) hk
    refine ⟨s1.heap.objs.size + 1, [s1.heap.objs.size + 1, s1.heap.objs.size], _, _, H1, rfl, I2, turn_enumS x t (s1.heap.objs.size + 1) s1.heap.objs.size, ⟨⟨Nat.zero_le _, .none, he⟩, hit, Nat.succ_ne_self _⟩, fun b hb => ?_, q⟩
    have e' : b = s1.heap.objs.size + 1 ∨ b = s1.heap.objs.size := by simpa using hb
    have hle : s1.heap.objs.size ≤ b := by
      rcases e' with z | z
      · rw [z]; exact Nat.le_add_right _ _
      · rw [z]; exact Nat.le_refl _
    exact I1.fpOk hle (I1.hok.fresh hle)
theorem ites_ok {K : PySem.W.Frag} {x : Str} : ItOk K (Ites x) [] (enumD (signsD x)) := by
  have e : (signsD x).length = x.cps.size := by simp [signsD]
  refine ⟨fun i H L hi o => by rw [enumD_len, e] at hi; exact hi, fun H L o => by rw [enumD_len, e]; exact Nat.le_refl _, fun i H v H' L hi o y => ?_⟩
  rw [enumD_len] at hi
  obtain ⟨T, c, rfl, hT, rfl, hc⟩ := y
  refine ⟨_, enumD_get hi, ?_⟩
  have hd : (signsD x)[i] = .str ⟨#[c]⟩ := by
    have : (signsD x)[i]? = some (.str ⟨#[c]⟩) := by simp [signsD, hc]
    rw [List.getElem?_eq_getElem hi] at this
    exact Option.some.inj this
  rw [hd]
  obtain ⟨F, A, o⟩ := o
  exact ⟨_, _, o.newT (.cons (.int _) (.cons (.str _) .nil)) hT⟩
def wiEnumS (we : BV.WE) : WI := fun e C X => we e (fun m e1 => match m with | .p (.str x) => C (enumD (signsD x)) e1 | _ => False) X
theorem bi_enumS {e : Expr} {we : BV.WE} {p tpos pos : Pos} {elts : List Expr} {kk : Nat} (hg : Gl X "enumerate") (hm : X.mg "enumerate" = none) (ha : PE X e (tE X.K W we)) (hs : starEach [e] X.env = [(false, eval e X.env)] := by rfl) (hs2 : starEach [e] X.env = (false, eval e X.env) :: starEach [] X.env := by rfl) :
    PI X (.Tuple elts kk tpos) (.Call (.Name "enumerate" p) [e] [] pos) (tI X.K W (wiEnumS we)) :=
  (pi_enumS hg hm (pa_cons ha pa_nil hs2) hs).wk fun σ H R' ⟨env, R, C, CX, ok, h, hQ, hX⟩ => by
    refine ⟨env, R, _, CX, ok, h, fun v H' m env' q z => ?_, hX⟩
    split at z
    · rename_i x
      obtain ⟨F, A, o⟩ := q.topR
      obtain ⟨_, _, _, r, _, _⟩ := o.head
      cases r with
      | p r =>
        cases r
        have q2 : OkS X.K H' σ env' ([] ++ R) := q.popR
        exact ⟨x, rfl, hQ _ [] _ H' env' ites_ok q2 z⟩
    · exact z.elim
end
end BV

namespace BV
open PySem L2 PyProof.Rows
section
variable {X : Cx} {W : WX} {pr : Nat → Bool}
def wPar (i j : Nat) (wv : WV) : WS := fun e C X => wv e (fun ds e1 => match ds with
  | [d1, d2] => (i < e1.length ∧ j < e1.length) ∧ C.nx ((e1.set i (some (.p d1))).set j (some (.p d2)))
  | _ => False) X
theorem bs_par {i j : Nat} {x y : Str} {a b : Expr} {wv : WV} {px py pt pos : Pos} {kt k2 pt2} (hc : X.calm = true) (hN : X.N.Nodup) (hi : X.N[i]? = some x) (hj : X.N[j]? = some y) (hij : i ≠ j)
    (hx : X.env.scope.names.lookup x = some .local) (hy : X.env.scope.names.lookup y = some .local) (ha : PA X [a, b] (tV X.K W wv))
    (hw : swappedStores [.Tuple [.Name x px, .Name y py] kt pt] (.Tuple [a, b] k2 pt2) X.env = pure (some [x, y])) (h1 : pr i = false := by rfl) (h2 : pr j = false := by rfl)
    (hs : swapsWithSole [.Tuple [.Name x px, .Name y py] kt pt] (.Tuple [a, b] k2 pt2) pos.line X.env = pure false := by rfl) :
    PS X (.Assign [.Tuple [.Name x px, .Name y py] kt pt] (.Tuple [a, b] k2 pt2) pos) (tS X.K W pr (wPar i j wv)) :=
  (ps_par hc hN hi hj hij hx hy ha hw hs).wk fun D σ H ⟨env, R, C, CX, ok, h, E⟩ => by
    refine ⟨env, R, _, CX, ok, h, fun vs H' ds env' el q z => ?_, fun x env' cls d H' => E.ex σ x env' cls d H' (Pr.refl pr σ)⟩
    split at z
    · rename_i d1 d2
      obtain ⟨⟨l1, l2⟩, z⟩ := z
      match vs, el with
      | [v, w], _ =>
        refine ⟨v, w, rfl, E.nx _ H' _ ((Pr.set h1).trans (Pr.set h2)) ?_ z⟩
        have q1 : OkS X.K H' (σ.set i (some v)) (env'.set i (some (.p d1))) ((some w, some (.p d2)) :: R) := OkS.assign q l1
        exact OkS.assign q1 (by rw [List.length_set]; exact l2)
    · exact z.elim
end
end BV

namespace BV
open PySem L2 PyProof.Rows
/-- a def as it stands at the top -/
def Std (K : PySem.W.Frag) (mg : Str → Option Value) (x : Str) (st : Stmt) (ps : List Str) : Prop := ∃ (f : Addr) (fd : FuncData), Fun K x x st f fd ∧ mg x = some (.ref f) ∧ Binds K fd ps []
section
variable {P : Program} {w : World} {K : PySem.W.Frag} {mg : Str → Option Value} {base : Heap} {x : Str} {st : Stmt} {ps N : List Str} {k n : Nat} {sp : WF} {wb : WS} {pr : Nat → Bool}
theorem Std.ok (T : Std K mg x st ps) (S : FnScope N ps (defScope st)) (hn : ps.length = n) (hN : n ≤ N.length)
    (hb : ∀ (f : Addr) (cdv : Value) (A : Around) (outer : List PySem.Env) (s : Shared) (H : Hp) (E : XK), Room k (A.deeper (envOfC x (defScope st) s.heap.objs.size f cdv)) →
      PSs (cxOf (L2.CX P w) P w K mg base N x (defScope st) f cdv A outer s H E) (defBody st) (tS K (fun c d _ H => E c d H) pr wb))
    (hw : ∀ ms C CX, ms.length = n → sp ms C CX → wb (env0 N ms) (bodyK pr n C) (fun x e => CX x (outs pr n e))) : Fn P w K mg base x (k + 1) n sp := by
  obtain ⟨f, fd, F, m, b⟩ := T
  exact ⟨f, fd, ps, fn_ok F S hn hN (hb f) hw, m, F.kp, b, hn⟩
theorem Std.no (T : Std K mg x st ps) (hn : ps.length = n) (hs : ∀ ms C CX, ¬ sp ms C CX) : Fn P w K mg base x 0 n sp := by
  obtain ⟨f, fd, F, m, b⟩ := T
  have no : ∀ vs H Q E, ¬ spF K n sp vs H Q E := fun vs H Q E ⟨_, ms, R, C, CX, _, _, h, _⟩ => hs ms C CX h
  exact ⟨f, fd, ps, ⟨fun vs H Q E h => absurd h (no vs H Q E), fun A outer s H args us vs Q E _ _ _ _ h => absurd h (no vs H Q E)⟩, m, F.kp, b, hn⟩
/-- what is asked of law: True, of every script -/
def spTrue : WF := fun ms C CX => ∃ is : List Int, ms = [.p (.fl (is.map .int))] ∧ is.length ≤ 63 ∧ ∀ o1, C (.p (.bl true)) [o1]
theorem ints_rp {F : Hp} : ∀ ns : List Int, RpA K F (ns.map V.int) (ns.map D.int)
  | [] => .nil
  | n :: ns => .cons (.int n) (ints_rp ns)
theorem script_in {H : Hp} {a : Addr} {ns : List Int} (hl : ns.length ≤ 63) (hS : SqL K H a (ns.map V.int)) : spF K 1 spTrue [.ref a] H (fun v _ => v = .bl true) fun _ _ _ => False := by
  refine ⟨rfl, [.p (.fl (ns.map .int))], [], fun r _ => r = .p (.bl true), fun _ _ => False, rfl, ⟨H, [], Sub.refl H, ?_, List.nodup_nil, fun _ h => by cases h⟩, ⟨ns, rfl, hl, fun _ => rfl⟩, fun v H' r os ho o e => ?_, fun _ _ _ _ _ _ _ z => z⟩
  · exact .so (A := []) (.p (.fl hS (ints_rp ns))) .nil
  · subst e
    obtain ⟨F, A, o⟩ := o
    obtain ⟨_, _, _, r, _, _⟩ := o.head
    cases r with
    | p r => cases r; rfl
theorem walkB {l : PySem.W.OpenLaw} {k : Nat} {q : Program} {loose : List Str} {XP : (Str → Option Value) → Heap → Prop} {YP : World → Heap → Prop} {d : DefRec} {K : Params → PySem.W.Frag} {x : Str} (hn : l.most = some 63) (hdf : d.params.defaults = []) (hr : Room k callerA)
    (hY : ∀ (w : World) (h : Heap), YP w h → (K w.params).In h)
    (F : ∀ (w : World) (mg : Str → Option Value) (fa : Addr) (h : Heap), (K w.params).In h → h.Ns mainGlobals mg → mg d.name = some (.ref fa) →
      ∃ fd : FuncData, (∀ (s : Shared) (u : Value), BindsTo s fd ⟨[u], []⟩ [(x, u)]) ∧ ∀ base : Heap, (K w.params).In base → base.Ns mainGlobals mg → FnOk l.prog w (K w.params) mg base (L2.CX l.prog w) k fa fd [x] (spF (K w.params) 1 spTrue)) :
    PySem.W.WalkO q loose XP YP l.row.toRowW d [] (fun f vs => PySem.call f vs) :=
  L2.walk_of (n := 63) (k := k) (x := x) (CX := fun w => L2.CX l.prog w) (sp := fun w => spF (K w.params) 1 spTrue) hn (by decide) hdf hr hY F (fun _ _ a ns hl _ hS => script_in hl hS) fun _ _ _ _ _ ⟨_, _, _, _, _, _, _, _, _, _, _, _, z⟩ => z
end
end BV

namespace BV
open PySem L2 PyProof.Rows
section
variable {X : Cx} {W : WX} {K : PySem.W.Frag} {σ : L2.St} {H : Hp} {pos : Pos}
/-! ### xs[::-1] -/
def gRevSl : List M → Option Res
  | [m] => m.lseq.map fun ds => .newl ds.reverse
  | _ => none
def rRevL (K : PySem.W.Frag) : V → Hp → VK → Prop := fun x H Q => ∃ a xs, x = .ref a ∧ SqL K H a xs ∧ ∀ p, H p = none → Q (.ref p) (upd H p (.lst xs.reverse))
theorem RpA.rev {F : Hp} : ∀ {vs : List V} {ds : List D}, RpA K F vs ds → RpA K F vs.reverse ds.reverse
  | _, _, .nil => .nil
  | _, _, .cons h r => by
    rw [List.reverse_cons, List.reverse_cons]
    exact (RpA.rev r).append (.cons h .nil)
theorem rd_revl : RdOk K (fun vs H Q => ∃ x, vs = [x] ∧ rRevL K x H Q) gRevSl := by
  intro F H vs ms res s vw g
  unfold gRevSl at g
  split at g
  · obtain ⟨u, A, rfl, r1⟩ := vw1 vw
    obtain ⟨ds, e, rfl⟩ := Option.map_eq_some_iff.mp g
    obtain ⟨a, xs, rfl, hs, ra⟩ := lseq_view s r1 e
    exact ⟨xs.reverse, ra.rev, fun Q q => ⟨_, rfl, a, xs, rfl, hs, q⟩⟩
  · cases g
theorem be_revsl {e : Expr} {a : WO} {k : Nat} {p1 p2 p3 : Pos} (h : PE X e (tO X.K W a)) : PE X (.Subscript e (.Slice none none (some (.UnaryOp .USub (.Constant (.int 1) k p1) p2)) p3) pos) (tE X.K W (wRd gRevSl (wCons a wNil))) :=
  be_rd1 rd_revl (pe_revL h)
/-! ### a, b = a list -/
def wgU (r : WGs) : WG := fun m e C => match m.lseq with
  | some ds => r ds e C
  | _ => False
/-! ### a call of a local that holds a def -/
/-- a def by its address -/
def FnAt (P : Program) (w : World) (K : PySem.W.Frag) (mg : Str → Option Value) (base : Heap) (f : Addr) (k n : Nat) (sp : WF) : Prop :=
  ∃ (fd : FuncData) (ps : List Str), FnOk P w K mg base (L2.CX P w) k f fd ps (spF K n sp) ∧ PySem.W.keepIn K (.ref f) = true ∧ Binds K fd ps [] ∧ ps.length = n
theorem Fn.at {P : Program} {w : World} {K : PySem.W.Frag} {mg : Str → Option Value} {base : Heap} {x : Str} {f : Addr} {k n : Nat} {sp : WF} (h : Fn P w K mg base x k n sp) (hf : mg x = some (.ref f)) : FnAt P w K mg base f k n sp := by
  obtain ⟨f', fd, ps, F, hm, r⟩ := h
  rw [hf] at hm
  cases hm
  exact ⟨fd, ps, F, r⟩
def wCallV (i : Nat) (S : Addr → Option WF) (n : Nat) (was : WA) : BV.WE := fun e C X => ∃ f sp, e[i]? = some (some (.p (.fn f))) ∧ S f = some sp ∧ wCall n sp was e C X
theorem slot_fn {env : Env} {R : List Ent} {i : Nat} {f : Addr} (o : OkS K H σ env R) (h : env[i]? = some (some (.p (.fn f)))) : σ[i]? = some (some (.ref f)) := by
  obtain ⟨F, A, o2⟩ := o.2
  have hi : i < env.length := (List.getElem?_eq_some_iff.mp h).1
  have hs : i < σ.length := by rw [o.1]; exact hi
  have hz := zip_get (List.getElem?_eq_getElem hs) h
  have o3 := o2.rp
  cases hv : σ[i] with
  | none =>
    rw [hv] at hz
    obtain ⟨A', o4⟩ := o2.perm ((perm_get hz).append_right R)
    obtain ⟨v, e⟩ := Ok.head_some (K := K) ⟨F, A', o4⟩
    cases e
  | some v =>
    rw [hv] at hz
    obtain ⟨A', o4⟩ := o2.perm ((perm_get hz).append_right R)
    obtain ⟨_, _, _, r, _, _⟩ := o4.head
    cases r with
    | p r =>
      cases r
      rw [List.getElem?_eq_getElem hs, hv]
theorem be_callv {x : Str} {k j n i : Nat} {S : Addr → Option WF} {was : WA} {p : Pos} {e : Expr} {es : List Expr} (hS : ∀ f sp, S f = some sp → FnAt X.prog X.w X.K X.mg X.base f k n sp) (hr : Room j X.A) (hk : k ≤ j) (tk : Takes X W) (hN : X.N[i]? = some x) (hv : Vis X.env.scope x) (ha : PA X (e :: es) (tA X.K W was))
    (hdb : (x == ("__debug__" : Str)) = false := by decide) (hcd : (x == ("__classdict__" : Str)) = false := by decide)
    (he : starEach (e :: es) X.env = (false, eval e X.env) :: starEach es X.env := by rfl) (hpl : (backTo pos (starEach es X.env)).any (·.1) = false := by rfl) :
    PE X (.Call (.Name x p) (e :: es) [] pos) (tE X.K W (wCallV i S n was)) := by
  refine ⟨fun pins s σ H Q I h => ?_⟩
  obtain ⟨env, R, C, CX, ok, ⟨f, sp, hf, hs, hw⟩, hQ, hX⟩ := h
  obtain ⟨fd, ps, F, hkp, hb, _⟩ := hS f sp hs
  have hsl := slot_fn ok hf
  have ht := tA_call (⟨env, R, C, CX, ok, hw, hQ, hX⟩ : tE X.K W (wCall n sp was) σ H Q)
  refine wpAny_Call_Name_kw (thn ((pe_var (pos := p) hN hv hdb hcd).run pins s σ H (fun v H1 => v = .ref f ∧ H1 = H) I ⟨.ref f, hsl, rfl, rfl⟩) fun u s1 ⟨v, H1, I1, r1, q1⟩ => ?_)
  obtain ⟨rfl, rfl⟩ := q1
  cases r1
  refine PySem.W.callWith_K (h₀ := X.base) I.ok.mod.kin hkp (thn (ha.run pos pins s1 σ _ _ I1 ht) fun us s2 ⟨vs, H2, I2, r, q⟩ => ⟨I2.kIn, ?_⟩) he hpl
  exact run_fnS F (hr.mono hk) hb (passAt tk σ) I2 r q
/-! ### {k: v, ..} -/
abbrev WP := Env → (List (D × D) → Env → Prop) → KX → Prop
def wpNil : WP := fun e C _ => C [] e
def wpCons (a b : BV.WE) (r : WP) : WP := fun e C X => a e (fun m e1 => match m.fz with
  | some k => b e1 (fun m2 e2 => match m2.fz with
    | some v => r e2 (fun ps e3 => C ((k, v) :: ps) e3) X
    | none => False) X
  | none => False) X
def entsQ : List (V × V) → List (D × D) → List Ent
  | p :: ps, q :: qs => (some p.1, some (.p q.1)) :: (some p.2, some (.p q.2)) :: entsQ ps qs
  | _, _ => []
structure PPd (K : PySem.W.Frag) (W : WX) (trs : List (TE × TE)) (wp : WP) : Prop where
  run : ∀ {σ : L2.St} {H : Hp} {Q : List (V × V) → Hp → Prop} {env : Env} {R : List Ent} {C : List (D × D) → Env → Prop} {CX : KX}, OkS K H σ env R → wp env C CX →
    (∀ ps H' ds env', ps.length = ds.length → OkS K H' σ env' (entsQ ps ds ++ R) → C ds env' → Q ps H') → (∀ x env' cls d H', OkX K H' σ env' R x cls d → CX x env' → W cls d σ H') → tPairs trs σ H Q
theorem OkX.less {K : PySem.W.Frag} {W : WX} {σ : L2.St} {env' : Env} {R : List Ent} {e1 : Ent} {x : Exn} {cls : Value} {d : Option Addr} {H' : Hp} (o : OkX K H' σ env' (e1 :: R) x cls d) : OkX K H' σ env' R x cls d :=
  o.map fun T q => by
    have := (q.permR (List.perm_middle (l₁ := T) (a := e1) (l₂ := R))).popR
    exact this
theorem bp_nil : PPd K W [] wpNil := ⟨fun ok h hQ hX => hQ [] _ [] _ rfl ok h⟩
theorem bp_cons {tk tv : TE} {trs : List (TE × TE)} {a b : BV.WE} {r : WP} (hk : ∀ σ H Q, tE K W a σ H Q → tk σ H Q) (hv : ∀ σ H Q, tE K W b σ H Q → tv σ H Q) (hr : PPd K W trs r) : PPd K W ((tk, tv) :: trs) (wpCons a b r) := by
  refine ⟨fun {σ H Q env R C CX} ok h hQ hX => ?_⟩
  refine hk σ H _ ⟨env, R, _, CX, ok, h, fun v H1 m env1 q z => ?_, hX⟩
  split at z
  · rename_i kd hz
    refine hv σ H1 _ ⟨env1, _, _, CX, q.freezeR hz, z, fun w2 H2 m2 env2 q2 z2 => ?_, fun x env' cls d H' o c => hX x env' cls d H' (OkX.less (W := W) o) c⟩
    split at z2
    · rename_i vd hz2
      refine hr.run (q2.freezeR hz2) z2 (fun ps H' ds env' hl o c => ?_) fun x env' cls d H' o c => hX x env' cls d H' (OkX.less (W := W) (OkX.less (W := W) o)) c
      refine hQ ((v, w2) :: ps) H' ((kd, vd) :: ds) env' (by simp [hl]) (o.permR ?_) c
      have : (entsQ ps ds ++ ((some w2, some (M.p vd)) :: (some v, some (M.p kd)) :: R)).Perm ((some w2, some (M.p vd)) :: (some v, some (M.p kd)) :: (entsQ ps ds ++ R)) := List.perm_middle.trans (List.Perm.cons _ List.perm_middle)
      exact this.trans (List.Perm.swap _ _ _)
    · exact z2.elim
  · exact z.elim
def keysOf : List (D × D) → Option (List Key)
  | [] => some []
  | p :: ps => match p.1.key, keysOf ps with
    | some k, some ks => some (k :: ks)
    | _, _ => none
def mergeD (ks : List Key) (vs : List D) : List (Key × D) → List Key × List D
  | [] => (ks, vs)
  | p :: ps => mergeD (putD ks vs p.1 p.2).1 (putD ks vs p.1 p.2).2 ps
def wDisp (wp : WP) : BV.WE := fun e C X => wp e (fun ps e1 => match keysOf ps with
  | some ks => ps.length ≤ 15 ∧ C (.k (mergeD [] [] (ks.zip (ps.map (·.2)))).1 (mergeD [] [] (ks.zip (ps.map (·.2)))).2) e1
  | none => False) X
theorem disp_view {F : Hp} : ∀ {ps : List (V × V)} {ds : List (D × D)} {ks : List Key} {L : List Ent} {A : List Addr}, ps.length = ds.length → keysOf ds = some ks → RpE K F H (entsQ ps ds ++ L) A → ∃ kvs : List (Key × V), ps = kvs.map (fun kv => (kV kv.1, kv.2)) ∧ kvs.map (·.1) = ks ∧ RpA K F (kvs.map (·.2)) (ds.map (·.2)) ∧ RpE K F H L A
  | [], [], ks, L, A, _, e, r => by cases e; exact ⟨[], rfl, rfl, .nil, r⟩
  | [], _ :: _, _, _, _, hl, _, _ => by cases hl
  | _ :: _, [], _, _, _, hl, _, _ => by cases hl
  | (pv, pw) :: ps, (qd, qe) :: ds, ks, L, A, hl, e, r => by
    unfold keysOf at e
    split at e
    · rename_i k ks' e1 e2
      cases e
      cases r with
      | so r1 r =>
        cases r with
        | so r2 r =>
          cases r1 with
          | p r1 =>
            cases r2 with
            | p r2 =>
              obtain ⟨kvs, h1, h2, h3, h4⟩ := disp_view (by simpa using hl) e2 r
              have ek := key_view r1 e1
              refine ⟨(k, pw) :: kvs, by rw [List.map_cons, ← h1, ← ek], by simp [h2], .cons r2 h3, h4⟩
    · cases e
theorem merge_view {F : Hp} : ∀ {more : List (Key × V)} {es : List D} {kvs : List (Key × V)} {ds : List D}, RpA K F (more.map (·.2)) es → RpA K F (kvs.map (·.2)) ds →
    (mergeK kvs more).map (·.1) = (mergeD (kvs.map (·.1)) ds ((more.map (·.1)).zip es)).1 ∧ RpA K F ((mergeK kvs more).map (·.2)) (mergeD (kvs.map (·.1)) ds ((more.map (·.1)).zip es)).2
  | [], es, kvs, ds, r1, r2 => ⟨rfl, r2⟩
  | p :: more, es, kvs, ds, r1, r2 => by
    cases r1 with
    | @cons _ _ e es h r1 =>
      obtain ⟨z1, z2⟩ := putD_view (k := p.1) r2 h
      have := merge_view (more := more) r1 z2
      rw [z1] at this
      exact this
theorem rpm_k {F : Hp} {v : V} {ks : List Key} {ds : List D} {A : List Addr} (r : RpM K F H v (.k ks ds) A) : ∃ a kvs, v = .ref a ∧ H a = some (.dK kvs) ∧ kvs.map (·.1) = ks ∧ RpA K F (kvs.map (·.2)) ds ∧ A = [a] := by
  cases r with
  | k h r => exact ⟨_, _, rfl, h, rfl, r, rfl⟩
theorem be_disp {keys : List (Option Expr)} {values : List Expr} {trs : List (TE × TE)} {wp : WP} (h : PPs X pos keys values trs) (hd : PPd X.K W trs wp) (hall : keys.all (·.isSome) = true) (hl : keys.length = values.length) (h0 : keys ≠ []) (h15 : keys.length ≤ 15) :
    PE X (.Dict keys values pos) (tE X.K W (wDisp wp)) :=
  (pe_disp h hall hl h0 h15).wk fun σ H Q ⟨env, R, C, CX, ok, hw, hQ, hX⟩ => fun p hp => by
    have q0 : OkS X.K (upd H p (.dK [])) σ env ((some (.ref p), some (.k [] [])) :: R) := by
      obtain ⟨F, A, o⟩ := ok.2
      exact OkS.ofTop ok.1 ⟨F, _, o.newK (kvs := []) .nil hp⟩
    refine hd.run q0 hw (fun ps H' ds env' hlen o z => ?_) fun x env' cls d H' o c => hX x env' cls d H' (OkX.less (W := W) o) c
    split at z
    · rename_i ks hk
      obtain ⟨h15, z⟩ := z
      obtain ⟨l1, F, A, o⟩ := o
      obtain ⟨A', o'⟩ := o.perm (show (σ.zip env' ++ (entsQ ps ds ++ ((some (V.ref p), some (M.k [] [])) :: R))).Perm (entsQ ps ds ++ ((some (V.ref p), some (M.k [] [])) :: (σ.zip env' ++ R))) from by
        rw [← List.append_assoc]
        refine (List.perm_append_comm.append_right _).trans ?_
        rw [List.append_assoc]
        exact List.Perm.append_left _ (List.perm_middle))
      obtain ⟨kvs, e1, e2, e3, e4⟩ := disp_view hlen hk o'.rp
      have o2 : Op X.K F H' ((some (V.ref p), some (M.k [] [])) :: (σ.zip env' ++ R)) A' := ⟨o'.sub, e4, o'.nd, o'.fr⟩
      obtain ⟨A1, A2, rfl, r, o3, dj⟩ := o2.head
      obtain ⟨a, kvs0, ea, hh, hk0, _, eA⟩ := rpm_k r
      cases ea
      have : kvs0 = [] := List.map_eq_nil_iff.mp hk0
      subst this
      have hF : F p = none := o'.fr p (by rw [eA]; simp)
      refine ⟨hh, kvs, e1, by have q := congrArg List.length e1; rw [List.length_map, hlen] at q; rw [← q]; exact h15, ?_⟩
      obtain ⟨z1, z2⟩ := merge_view (kvs := []) (ds := []) e3 .nil
      have o4 := Op.write (A1 := []) (m := .k [] []) (u := .dK (mergeK [] kvs)) o3.sub o3 (by rw [eA] at dj; exact dj) (by simp) (fun x hx => by
        have : x = p := by simpa using hx
        rw [this]; exact hF) (.k upd_same z2)
      rw [z1, e2] at o4
      exact hQ _ _ _ env' (OkS.ofTop l1 ⟨F, _, o4⟩) z
    · exact z.elim
end
end BV

namespace BV
open PySem L2 PyProof.Rows
section
variable {X : Cx} {W : WX} {K : PySem.W.Frag} {σ : L2.St} {H : Hp} {pos : Pos} {pr : Nat → Bool}
theorem bg_U {es : List Expr} {j : Nat} {r : WGs} {n : Nat} (hc : X.calm = true) (h : PGs X es (tGs X.K pr r)) (hw : ∀ ds e C, r ds e C → ds.length = n)
    (hn : (assignEach es X.env).length = n := by rfl) (hst : (assignEach es X.env).findIdx? (·.1) = none := by rfl) : PG X (.Tuple es j pos) (tG X.K pr (wgU r)) :=
  (pg_unl hc h hn hst).wk fun v σ H Q ⟨env, R, m, C, ok, h, k⟩ => by
    unfold wgU at h
    split at h
    · rename_i ds' e2
      obtain ⟨a, d, xs, rfl, hd, hs, q⟩ := lseq_ok ok e2
      obtain ⟨F, A, o⟩ := q.topR
      obtain ⟨A1, A2, _, rr, o2, _⟩ := o.head
      have fin : ∀ {ys : List V}, SqL X.K H a ys → RpA X.K F ys ds' → gUnl X.K n (tGs X.K pr r) (.ref a) σ H Q := fun {ys} hy ra => by
        have el : ys.length = ds'.length := ra.length
        refine ⟨a, ys, rfl, hy, el.trans (hw _ _ _ h), env, R, ds', C, el, ⟨q.1, ?_⟩, h, k⟩
        have go : ∀ {xs : List V} {ds : List D} {L : List Ent}, RpA X.K F xs ds → Op X.K F H L A2 → Op X.K F H (entsP xs ds ++ L) A2 := by
          intro xs ds L ra o2
          induction xs generalizing ds with
          | nil => cases ra; exact o2
          | cons x xs ih =>
            cases ra with
            | cons r1 r2 => exact (ih r2).pushP r1
        refine Ok.perm ⟨F, A2, go ra o2⟩ ?_
        rw [← List.append_assoc, ← List.append_assoc]
        exact List.perm_append_comm.append_right R
      cases rr with
      | p rr =>
        rcases hd with rfl | rfl
        · cases rr with
          | lst hh ra => exact fin (SqL.of (o2.sub _ _ hh)) ra
        · cases rr with
          | fl hh ra => exact fin (sqL_sub o2.sub hh) ra
    · exact h.elim
/-! ### a list made of the keys of a dict of one's own -/
def wLcP (P : Env → Prop) (own : List Nat) (g : WG) (t : WT) (we : BV.WE) (C : List D → Env → Prop) : List D → List D → Env → Prop
  | [], acc, e => P e ∧ C acc e
  | d :: ds, acc, e => P e ∧ g (.p d) e (fun e2 => t e2 (fun b e3 => if b = true then we e3 (fun m e4 => match m.fz with
      | some z => acc.length < 100000 ∧ wLcP P own g t we C ds (acc ++ [z]) (wipeE e4 own)
      | none => False) (fun _ _ => False) else wLcP P own g t we C ds acc (wipeE e3 own)) (fun _ _ => False))
def wLcK (i : Nat) (own : List Nat) (g : WG) (t : WT) (we : BV.WE) : BV.WE := fun e C _ => match e[i]? with
  | some (some (.k ks vs)) => own.contains i = false ∧ ∀ (o : Obj) (kvs : List (Key × V)), kvs.map (·.1) = ks →
      wLcP (fun e2 => e2[i]? = some (some (.z o kvs vs))) own g t we (fun acc e2 => C (.l acc) ((backE (e.set i (some (.z o kvs vs))) own e2).set i (some (.k ks vs)))) (ks.map keyD) [] (wipeE (e.set i (some (.z o kvs vs))) own)
  | _ => False
theorem slot_at {env : Env} {R : List Ent} {i : Nat} {m : M} (o : OkS K H σ env R) (h : env[i]? = some (some m)) : ∃ v L A, σ[i]? = some (some v) ∧ Ok K H ((some v, some m) :: L) ∧ (σ.zip env ++ R).Perm ((some v, some m) :: L) ∧ A = () := by
  have hi : i < env.length := (List.getElem?_eq_some_iff.mp h).1
  have hs : i < σ.length := by rw [o.1]; exact hi
  have hz := zip_get (List.getElem?_eq_getElem hs) h
  have p := (perm_get hz).append_right R
  obtain ⟨v, e⟩ := Ok.head_some (o.2.perm p)
  refine ⟨v, ((σ.zip env).eraseIdx i) ++ R, (), by rw [List.getElem?_eq_getElem hs, e], ?_, ?_, rfl⟩
  · rw [← e]; exact o.2.perm p
  · rw [← e]; exact p
/-- what a slot owns is written -/
theorem OkS.writeAt {env : Env} {R : List Ent} {i : Nat} {m m' : M} {a : Addr} {u : HO} (o : OkS K H σ env R) (h : env[i]? = some (some m)) (hv : σ[i]? = some (some (.ref a)))
    (hm : ∀ F A, RpM K F H (.ref a) m A → A = [a] ∧ RpM K F (upd H a u) (.ref a) m' [a]) : OkS K (upd H a u) σ (env.set i (some m')) R := by
  have hi : i < env.length := (List.getElem?_eq_some_iff.mp h).1
  have hs : i < σ.length := by rw [o.1]; exact hi
  have q := o.takeOut i
  have e1 : σ.getD i none = some (.ref a) := by rw [List.getD_eq_getElem?_getD, hv]; rfl
  have e2 : env.getD i none = some m := by rw [List.getD_eq_getElem?_getD, h]; rfl
  rw [e1, e2] at q
  obtain ⟨F, A, o2⟩ := q.topR
  obtain ⟨A1, A2, rfl, r, o3, dj⟩ := o2.head
  obtain ⟨rfl, r'⟩ := hm F A1 r
  have hF : F a = none := o2.fr a (by simp)
  have o4 := Op.write (A1 := []) (m := m) o3.sub o3 dj (by simp) (fun x hx => by
    have : x = a := by simpa using hx
    rw [this]; exact hF) r'
  have q2 : OkS K (upd H a u) (σ.set i none) (env.set i none) ((some (.ref a), some m') :: R) := OkS.ofTop q.1 ⟨F, _, o4⟩
  have q3 := q2.assignE (i := i) (by simpa using hi)
  rw [List.set_set, List.set_set] at q3
  have e3 : σ.set i (some (.ref a)) = σ := by
    have : σ[i] = some (.ref a) := by rw [List.getElem?_eq_getElem hs] at hv; exact Option.some.inj hv
    rw [← this]; exact List.set_getElem_self hs
  rw [e3] at q3
  exact q3
theorem rpm_z {F : Hp} {v : V} {o : Obj} {kvs : List (Key × V)} {ds : List D} {A : List Addr} (r : RpM K F H v (.z o kvs ds) A) : ∃ a, v = .ref a ∧ H a = some (.frz o (.dK kvs)) ∧ RpA K F (kvs.map (·.2)) ds ∧ A = [a] := by
  cases r with
  | z h r => exact ⟨_, rfl, h, r, rfl⟩
theorem backE_out {env0 : Env} : ∀ {vs : List Nat} {env : Env} {i : Nat}, i ∉ vs → (backE env0 vs env)[i]? = env[i]?
  | [], _, _, _ => rfl
  | v :: vs, env, i, h => by
    have h1 : i ≠ v := fun e => h (by simp [e])
    show ((backE env0 vs env).set v _)[i]? = _
    rw [List.getElem?_set_ne h1.symm, backE_out fun q => h (List.mem_cons_of_mem _ q)]
theorem tE_lcK {i : Nat} {own : List Nat} {g : WG} {t : WT} {we : BV.WE} {Q : VK} (nd : own.Nodup) (h : tE K W (wLcK i own g t we) σ H Q) :
    tLockE (tLc (iKeys (tVar i)) (tG K (prO own) g) (tT K W0 t) (tE K W0 we) own) σ H Q := by
  obtain ⟨env, R, C, CX, ok, h, hQ, hX⟩ := h
  unfold wLcK at h
  split at h
  · rename_i ks vs ei
    obtain ⟨ho, h⟩ := h
    have ho' : i ∉ own := fun q => by rw [List.contains_iff_mem.mpr q] at ho; cases ho
    obtain ⟨v, L, _, hsv, okv, _, _⟩ := slot_at ok ei
    obtain ⟨F, A, o⟩ := okv
    obtain ⟨A1, A2, _, r, _, _⟩ := o.head
    obtain ⟨a, kvs, rfl, hH, hks, _, _⟩ := rpm_k r
    refine ⟨a, .dK kvs, hH, trivial, fun od => ?_⟩
    have h := h od kvs hks
    let env0 : Env := env.set i (some (.z od kvs vs))
    have hi : i < env.length := (List.getElem?_eq_some_iff.mp ei).1
    have q : OkS K (upd H a (.frz od (.dK kvs))) σ env0 R := ok.writeAt ei hsv (fun F A r => by
      obtain ⟨a', kvs', e1, e2, e3, e4, e5⟩ := rpm_k r
      cases e1
      rw [hH] at e2
      cases e2
      exact ⟨e5, .z upd_same e4⟩)
    refine ⟨.ref a, hsv, a, od, rfl, .inl ⟨kvs, upd_same, fun D hD => ?_⟩⟩
    let sv := saved σ env0 own
    let Dp : List BV.D → Ent := fun acc => (some (.ref D), some (.l acc))
    let P : Env → Prop := fun e2 => e2[i]? = some (some (.z od kvs vs))
    let C' : List BV.D → Env → Prop := fun acc e2 => C (.l acc) ((backE env0 own e2).set i (some (.k ks vs)))
    let ds : List BV.D := ks.map keyD
    have hdl : ds.length = kvs.length := by show (ks.map keyD).length = _; rw [List.length_map, ← hks, List.length_map]
    have q0 : OkS K (upd (upd H a (.frz od (.dK kvs))) D (.lst [])) (wipe σ own) (wipeE env0 own) (Dp [] :: (sv ++ R)) := by
      have q1 : OkS K (upd H a (.frz od (.dK kvs))) (wipe σ own) (wipeE env0 own) (sv ++ R) := wipe_ok q nd
      obtain ⟨hl, F, A, o⟩ := q1
      exact OkS.ofTop hl ⟨F, _, o.newL .nil hD⟩
    have hw : (wipe σ own)[i]? = some (some (.ref a)) := by rw [wipe_outS ho', hsv]
    -- the dict is locked all the while
    have lk : ∀ {H2 : Hp} {e2 : Env} {R2 : List Ent}, OkS K H2 (wipe σ own) e2 R2 → P e2 → H2 a = some (.frz od (.dK kvs)) := fun {H2 e2 R2} o hp => by
      obtain ⟨v', L', _, hsv', ⟨F', A', o'⟩, _, _⟩ := slot_at o hp
      rw [hw] at hsv'
      cases hsv'
      obtain ⟨_, _, _, r', _, _⟩ := o'.head
      obtain ⟨a', e1, e2, _, _⟩ := rpm_z r'
      cases e1
      exact e2
    have len1 : ∀ {H' : Hp} {e' : Env} {R' : List Ent}, OkS K H' (wipe σ own) e' R' → e'.length = env0.length := fun {H' e' R'} o => by
      rw [← o.1, wipe_length, q.1]
    refine ⟨fun j m H' => m = ds.length - j ∧ j ≤ ds.length ∧ ∃ acc env', OkS K H' (wipe σ own) env' (Dp acc :: (sv ++ R)) ∧ wLcP P own g t we C' (ds.drop j) acc env', ⟨ds.length, by simp, Nat.zero_le _, [], _, q0, h⟩, ?_⟩
    rintro j m H2 ⟨rfl, hj, acc, env2, o2, w2⟩
    by_cases hlt : j < ds.length
    · have ed : ds[j]? = some ds[j] := List.getElem?_eq_getElem hlt
      rw [drop_cons ed] at w2
      obtain ⟨hp, w2⟩ := w2
      refine .inr ⟨⟨lk o2 hp, by rw [← hdl]; exact hlt⟩, fun H' => j + 1 ≤ ds.length ∧ ∃ acc env', OkS K H' (wipe σ own) env' (Dp acc :: (sv ++ R)) ∧ wLcP P own g t we C' (ds.drop (j + 1)) acc env', fun H' ⟨l, w⟩ => ⟨ds.length - (j + 1), by omega, rfl, l, w⟩, fun x H3 y => ?_⟩
      obtain ⟨rfl, k, kv, hk, rfl⟩ := y
      have ek : ds[j] = keyD k := by
        have : ds[j]? = some (keyD k) := by
          show (ks.map keyD)[j]? = _
          rw [← hks, List.getElem?_map, List.getElem?_map, hk]; rfl
        rw [List.getElem?_eq_getElem hlt] at this
        exact Option.some.inj this
      rw [ek] at w2
      have o3 : OkS K H3 (wipe σ own) env2 ((some (kV k), some (.p (keyD k))) :: (Dp acc :: (sv ++ R))) := o2.pushR fun q => by
        obtain ⟨F, A, o⟩ := q
        refine ⟨F, A, o.pushP ?_⟩
        cases k with
        | inl z => exact .int z
        | inr z => exact .str z
      refine ⟨env2, _, _, _, o3, w2, fun s4 H4 e4 p4 o4 z4 => ⟨pr_wipe p4, e4, _, _, _, o4, z4, fun b H5 e5 o5 z5 => ?_, fun _ _ _ _ _ _ h => h⟩⟩
      cases b with
      | false =>
        refine iteF ?_
        have o6 := wipe_drop o5 nd
        rw [pr_wipe p4] at o6
        exact ⟨hlt, acc, _, o6, z5⟩
      | true =>
        refine iteT ?_
        refine ⟨e5, _, _, _, o5, z5, fun v H6 m e6 o6 z6 => ?_, fun _ _ _ _ _ _ h => h⟩
        split at z6
        · rename_i zd hz
          obtain ⟨z6, z7⟩ := z6
          have o7 := o6.freezeR hz
          obtain ⟨l8, o8⟩ := o7
          have p9 : (s4.zip e6 ++ ((some v, some (M.p zd)) :: Dp acc :: (sv ++ R))).Perm ((some v, some (M.p zd)) :: Dp acc :: (s4.zip e6 ++ (sv ++ R))) :=
            List.perm_middle.trans (List.Perm.cons _ List.perm_middle)
          obtain ⟨F, A, o9⟩ := o8.perm p9
          obtain ⟨xs, hx, hxl, A', o10⟩ := appD (acc := fun _ => True) o9
          refine ⟨xs, hx, by rw [hxl]; exact Nat.lt_of_lt_of_le z6 (by decide), hlt, acc ++ [zd], wipeE e6 own, ?_, z7⟩
          have o11 : OkS K (upd H6 D (.lst (xs ++ [v]))) s4 e6 (Dp (acc ++ [zd]) :: (sv ++ R)) := OkS.ofTop l8 ⟨F, A', o10⟩
          have o12 := wipe_drop o11 nd
          rw [pr_wipe p4] at o12
          exact o12
        · exact z6.elim
    · have e : j = ds.length := by omega
      subst e
      rw [List.drop_length] at w2
      obtain ⟨hp, w2⟩ := w2
      have hla := lk o2 hp
      refine .inl ⟨⟨hla, by rw [hdl]; exact Nat.le_refl _⟩, hla, ?_⟩
      have o4 : OkS K H2 (wipe σ own) env2 (sv ++ (Dp acc :: R)) := o2.permR List.perm_middle.symm
      have o5 := back_ok nd (len1 o2).symm o4
      have hp5 : (backE env0 own env2)[i]? = some (some (.z od kvs vs)) := by rw [backE_out ho']; exact hp
      have o6 : OkS K (upd H2 a (.dK kvs)) σ ((backE env0 own env2).set i (some (.k ks vs))) (Dp acc :: R) := o5.writeAt hp5 hsv (fun F A r => by
        obtain ⟨a', e1, e2, e4, e5⟩ := rpm_z r
        cases e1
        refine ⟨e5, ?_⟩
        rw [← hks]
        exact .k upd_same e4)
      exact hQ _ _ _ _ o6 w2
  · exact h.elim
theorem be_lcK {elt tg : Expr} {ifs : List Expr} {scope : Scope} {own : List (Str × Nat)} {vs : List Nat} {g : WG} {t : WT} {we : BV.WE} {i : Nat} {iter : Expr} (hc : X.calm = true) (hN : X.N.Nodup) (hi : PE X iter (tVar i)) (ok : BlkOk X.N X.env.scope scope own) (hv : own.map (·.2) = vs) (nd : vs.Nodup)
    (hg : ∀ (s : Shared) (H : Hp) (C : Addr) (cl : List (Str × Addr)) (fp : List Addr), PG (X.blk s H scope (compEnvC scope cl C X.env) fp) tg (tG X.K (prO vs) g)) (ht : ∀ (s : Shared) (H : Hp) (C : Addr) (cl : List (Str × Addr)) (fp : List Addr), PTs (X.blk s H scope (compEnvC scope cl C X.env) fp) ifs (tT X.K W0 t))
    (he : ∀ (s : Shared) (H : Hp) (C : Addr) (cl : List (Str × Addr)) (fp : List Addr), PE (X.blk s H scope (compEnvC scope cl C X.env) fp) elt (tE X.K W0 we)) (hs : ∀ x, foldedSetIterable iter X.env x = pure x := by intro _; rfl) :
    PE X (.ListComp elt [⟨tg, iter, ifs, 0⟩] scope pos) (tE X.K W (wLcK i vs g t we)) := by
  subst hv
  exact (pe_lock (pe_lc hc hN (pi_keys hi) ok hg ht he hs)).wk fun σ H Q q => tE_lcK nd q
theorem bs_setLcK {i j : Nat} {y : Str} {py : Pos} {elt tg iter : Expr} {ifs : List Expr} {scope : Scope} {own : List (Str × Nat)} {vs : List Nat} {spos : Pos} {g : WG} {t : WT} {we : BV.WE} (hc : X.calm = true) (hN : X.N.Nodup) (hy : X.N[j]? = some y) (hyl : X.env.scope.names.lookup y = some .local)
    (hsw : swapsWith (.ListComp elt [⟨tg, iter, ifs, 0⟩] scope pos) (some (.Name y py)) spos.line X.env = pure true) (hi : PE X iter (tVar i)) (ok : BlkOk X.N X.env.scope scope own) (hv : own.map (·.2) = vs) (nd : vs.Nodup)
    (hg : ∀ (s : Shared) (H : Hp) (C : Addr) (cl : List (Str × Addr)) (fp : List Addr), PG (X.blk s H scope (compEnvC scope cl C X.env) fp) tg (tG X.K (prO vs) g)) (ht : ∀ (s : Shared) (H : Hp) (C : Addr) (cl : List (Str × Addr)) (fp : List Addr), PTs (X.blk s H scope (compEnvC scope cl C X.env) fp) ifs (tT X.K W0 t))
    (he : ∀ (s : Shared) (H : Hp) (C : Addr) (cl : List (Str × Addr)) (fp : List Addr), PE (X.blk s H scope (compEnvC scope cl C X.env) fp) elt (tE X.K W0 we)) (hs : ∀ x, foldedSetIterable iter X.env x = pure x := by intro _; rfl) (hp : pr j = false := by rfl) :
    PS X (.Assign [.Name y py] (.ListComp elt [⟨tg, iter, ifs, 0⟩] scope pos) spos) (tS X.K W pr (wAsg (wLcK i vs g t we) (wgN j))) := by
  subst hv
  exact (ps_lock (ps_setLc hc hN hy hyl hsw (pi_keys hi) ok hg ht he hs)).wk fun D σ H ⟨env, R, C, CX, ok, h, E⟩ =>
    tE_lcK (Q := fun v H' => gName j v σ H' D.nx) nd ⟨env, R, _, CX, ok, h, fun v H' m env' q z => tG_N hp ⟨env', R, m, _, q, z, fun σ' H2 env2 p q2 z2 => E.nx σ' H2 env2 p q2 z2⟩, fun x env' cls d H' => E.ex σ x env' cls d H' (Pr.refl pr σ)⟩
end
end BV

namespace BV
open PySem L2 PyProof.Rows
theorem ofS_inj {a b : String} : (Str.ofString a = Str.ofString b) = (a = b) := by
  apply propext
  constructor
  · intro h
    rw [Str.ofString_eq_toList, Str.ofString_eq_toList] at h
    have h2 : (a.toList.map Char.toNat) = (b.toList.map Char.toNat) := by
      have := congrArg Str.cps h
      simpa using this
    have h3 : a.toList = b.toList := List.map_inj_right (f := Char.toNat) (fun x y e => Char.toNat_inj.mp e) |>.mp h2
    exact String.toList_inj.mp h3
  · intro h; rw [h]
theorem eqD_ss (x y : Str) : eqD (.str x) (.str y) = some (decide (x = y)) := by simp [eqD]
theorem eqD_ii (x y : Int) : eqD (.int x) (.int y) = some (decide (x = y)) := by simp [eqD]
theorem eqD_bb (x y : Bool) : eqD (.bl x) (.bl y) = some (decide (x = y)) := by simp [eqD]
theorem ofS_beq {a b : String} : (Str.ofString a == Str.ofString b) = decide (a = b) := by
  rw [Bool.eq_iff_iff]; simp [ofS_inj]
theorem strOk_lit (s : String) (h : s.toList.all (fun c => c.toNat < 0x110000) = true) : PyData.strOk (Str.ofString s) = true := by
  rw [Str.ofString_eq_toList]
  simp only [PyData.strOk]
  simpa using h
theorem str_beq (s t : Str) : (s == t) = decide (s = t) := by rw [Bool.eq_iff_iff]; simp
theorem ev_tt (xs ys : List PyData) : PyData.eqv (.tuple xs) (.tuple ys) = PyData.eqvAll xs ys := by rw [PyData.eqv]
theorem ev_ss (x y : Str) : PyData.eqv (.str x) (.str y) = (x == y) := by rw [PyData.eqv]
theorem ea_nn : PyData.eqvAll [] [] = true := by rw [PyData.eqvAll]
theorem ea_cc (x y : PyData) (xs ys : List PyData) : PyData.eqvAll (x :: xs) (y :: ys) = (PyData.eqv x y && PyData.eqvAll xs ys) := by rw [PyData.eqvAll]
theorem ea_nc (y : PyData) (ys : List PyData) : PyData.eqvAll [] (y :: ys) = false := by rw [PyData.eqvAll]
theorem ea_cn (y : PyData) (ys : List PyData) : PyData.eqvAll (y :: ys) [] = false := by rw [PyData.eqvAll]
theorem ev_ii (i j : Int) : PyData.eqv (.int i) (.int j) = (i == j) := by rw [PyData.eqv]
theorem ev_si (s : Str) (j : Int) : PyData.eqv (.str s) (.int j) = false := by rw [PyData.eqv]
theorem ev_is (s : Str) (j : Int) : PyData.eqv (.int j) (.str s) = false := by rw [PyData.eqv]
theorem eqD_py {x y : D} {p q : PyData} (h1 : x.py = some p) (h2 : y.py = some q) (s1 : shape2 p q = true) {r : Bool} (hr : PyData.eqv p q = r) : eqD x y = some r := by
  subst hr
  unfold eqD
  split
  all_goals first
    | (rw [h1, h2]; simp [s1]; done)
    | (simp only [D.py, Option.some.injEq] at h1 h2; subst h1; subst h2; rw [PyData.eqv] <;> first | (congr 1; done) | (congr 1; rw [Bool.eq_iff_iff]; simp; done))
/-- data -/
def Pyd (d : D) : Prop := ∃ p, d.py = some p ∧ p.canLay0 = true
theorem pyA_all : ∀ {xs : List D}, (∀ x ∈ xs, Pyd x) → ∃ ps, D.pyA xs = some ps ∧ PyData.canLayAll0 ps = true ∧ ps.length = xs.length
  | [], _ => ⟨[], rfl, rfl, rfl⟩
  | x :: xs, h => by
    obtain ⟨p, h1, h2⟩ := h x (by simp)
    obtain ⟨ps, h3, h4, h5⟩ := pyA_all (fun y hy => h y (List.mem_cons_of_mem _ hy))
    exact ⟨p :: ps, by simp [D.pyA, h1, h3], by simp [PyData.canLayAll0, h2, h4], by simp [h5]⟩
theorem pyd_tup {xs : List D} (h : ∀ x ∈ xs, Pyd x) : Pyd (.tup xs) := by
  obtain ⟨ps, h1, h2, _⟩ := pyA_all h
  exact ⟨.tuple ps, by simp [D.py, h1], by simpa [PyData.canLay0] using h2⟩
theorem eqD_nil {xs : List D} (h : ∀ x ∈ xs, Pyd x) : eqD (.lst xs) (.lst []) = some xs.isEmpty := by
  obtain ⟨ps, h1, h2, h3⟩ := pyA_all h
  refine eqD_py (p := .list ps) (q := .list []) (by simp [D.py, h1]) (by simp [D.py, D.pyA]) (by simp [shape2, PyData.canLay0, h2, PyData.canLayAll0, PyData.depth, PyData.depthAll]) ?_
  cases ps with
  | nil => cases xs with
    | nil => rw [PyData.eqv, PyData.eqvAll]; rfl
    | cons => simp at h3
  | cons p ps => cases xs with
    | nil => simp at h3
    | cons => rw [PyData.eqv, PyData.eqvAll]; rfl
theorem eqD_app {xs : List D} {d : D} (h : ∀ x ∈ xs, Pyd x) (hd : Pyd d) : eqD (.lst (xs ++ [d])) (.lst []) = some false := by
  rw [eqD_nil]
  · simp
  · intro x hx
    rcases List.mem_append.mp hx with hx | hx
    · exact h x hx
    · rw [List.mem_singleton.mp hx]; exact hd
theorem isi_bl (b : Bool) : gIsi [.p (.bl b), .p (.ty "bool")] = some (.val (.bl true)) := by
  have : L2.kitB "bool" "bool" = some true := by decide
  simp [gIsi, tyName, this]
mutual
/-- data are alike themselves -/
theorem eqv_self : ∀ p : PyData, p.canLay0 = true → PyData.eqv p p = true
  | .none, _ => by rw [PyData.eqv]
  | .bool b, _ => by rw [PyData.eqv]; simp
  | .int i, _ => by rw [PyData.eqv]; simp
  | .str s, _ => by rw [PyData.eqv]; simp
  | .list xs, h => by rw [PyData.eqv]; exact eqvAll_self xs (by simpa [PyData.canLay0] using h)
  | .tuple xs, h => by rw [PyData.eqv]; exact eqvAll_self xs (by simpa [PyData.canLay0] using h)
  | .dict _, h => by simp [PyData.canLay0] at h
theorem eqvAll_self : ∀ ps : List PyData, PyData.canLayAll0 ps = true → PyData.eqvAll ps ps = true
  | [], _ => by rw [PyData.eqvAll]
  | p :: ps, h => by
    simp [PyData.canLayAll0] at h
    rw [PyData.eqvAll, eqv_self p h.1, eqvAll_self ps h.2]
    rfl
end
/-- data of a depth -/
def Pyn (n : Nat) (d : D) : Prop := ∃ p, d.py = some p ∧ p.canLay0 = true ∧ p.depth ≤ n
theorem Pyn.pyd {n : Nat} {d : D} (h : Pyn n d) : Pyd d := let ⟨p, h1, h2, _⟩ := h; ⟨p, h1, h2⟩
theorem Pyn.mono {n m : Nat} {d : D} (h : Pyn n d) (l : n ≤ m) : Pyn m d := let ⟨p, h1, h2, h3⟩ := h; ⟨p, h1, h2, Nat.le_trans h3 l⟩
theorem pyn_all {n : Nat} : ∀ {xs : List D}, (∀ x ∈ xs, Pyn n x) → ∃ ps, D.pyA xs = some ps ∧ PyData.canLayAll0 ps = true ∧ PyData.depthAll ps ≤ n
  | [], _ => ⟨[], rfl, rfl, by simp [PyData.depthAll]⟩
  | x :: xs, h => by
    obtain ⟨p, h1, h2, h3⟩ := h x (by simp)
    obtain ⟨ps, h4, h5, h6⟩ := pyn_all (fun y hy => h y (List.mem_cons_of_mem _ hy))
    exact ⟨p :: ps, by simp [D.pyA, h1, h4], by simp [PyData.canLayAll0, h2, h5], by simp [PyData.depthAll]; omega⟩
theorem pyn_tup {n : Nat} {xs : List D} (h : ∀ x ∈ xs, Pyn n x) : Pyn (n + 1) (.tup xs) := by
  obtain ⟨ps, h1, h2, h3⟩ := pyn_all h
  exact ⟨.tuple ps, by simp [D.py, h1], by simpa [PyData.canLay0] using h2, by simp [PyData.depth]; omega⟩
theorem pyn_lst {n : Nat} {xs : List D} (h : ∀ x ∈ xs, Pyn n x) : Pyn (n + 1) (.lst xs) := by
  obtain ⟨ps, h1, h2, h3⟩ := pyn_all h
  exact ⟨.list ps, by simp [D.py, h1], by simpa [PyData.canLay0] using h2, by simp [PyData.depth]; omega⟩
theorem eqD_self {n : Nat} {d : D} (h : Pyn n d) (hn : n ≤ 64) : eqD d d = some true := by
  obtain ⟨p, h1, h2, h3⟩ := h
  exact eqD_py h1 h1 (by simp [shape2, h2]; omega) (eqv_self p h2)
end BV

namespace BV
open PySem L2 PyProof.Rows
def topS (i : Nat) : Stmt := PySem.Challenge.pw_kindsmith_k02_parts.main.body.getD i (.Pass ⟨0, 0, 0, 0⟩)
structure Blt (mg : Str → Option Value) : Prop where
  all_ : mg "all" = none
  bool_ : mg "bool" = none
  enumerate_ : mg "enumerate" = none
  isinstance_ : mg "isinstance" = none
  len_ : mg "len" = none
  list_ : mg "list" = none
  min_ : mg "min" = none
  range_ : mg "range" = none
  str_ : mg "str" = none
  tuple_ : mg "tuple" = none
abbrev s_terms_in : Stmt := topS 1
def N_terms_in : List Str := ["term", "sort", "branch"]
theorem sc_terms_in : FnScope N_terms_in ["term"] (defScope s_terms_in) := ⟨rfl, rfl, rfl, by decide +kernel, rfl, by decide +kernel, by decide +kernel⟩
def pr_terms_in : Nat → Bool := fun i => [true].getD i false
theorem e_terms_in (a0 : M) : env0 N_terms_in [a0] = [some a0, none, none] := rfl
theorem o_terms_in (x0 x1 x2 : Option M) : outs pr_terms_in 1 [x0, x1, x2] = [x0] := rfl
def w_terms_in_s1 : WS :=
    wAsg (wRd gIx (wCons (woVar 0) (wCons (woE (wC (.int 0))) wNil))) (wgN 1)
def w_terms_in_s2 : WS :=
    wIf (wTV (wRd (gIn) (wCons (woVar 1) (wCons (woE (wTup (wvCons (wC (.str ("number" : Str))) (wvCons (wC (.str ("truth" : Str))) (wvCons (wC (.str ("name" : Str))) (wvCons (wC (.str ("head" : Str))) (wvNil))))))) wNil)))) (wRet (wLst (wvNil))) (wNext)
def w_terms_in_s3 : WS :=
    wRet (wRd gList (wCons (woE (wRd gIx (wCons (woVar 0) (wCons (woE (wC (.int 1))) wNil)))) (wNil)))
def w_terms_in_s4 : WS :=
    wIf (wTV (wRd (gEq) (wCons (woVar 1) (wCons (woE (wC (.str ("list" : Str)))) wNil)))) (w_terms_in_s3) (wNext)
def w_terms_in_s5 : WS :=
    wRet (wRd gList (wCons (woE (wRd (sliceF true false) (wCons (woVar 0) (wCons (woE (wC (.int 2))) wNil)))) (wNil)))
def w_terms_in_s6 : WS :=
    wIf (wTV (wRd (gIn) (wCons (woVar 1) (wCons (woE (wTup (wvCons (wC (.str ("two" : Str))) (wvCons (wC (.str ("let" : Str))) (wvCons (wC (.str ("fn" : Str))) (wvNil)))))) wNil)))) (w_terms_in_s5) (wNext)
def w_terms_in_e1 : BV.WE :=
    wRd gIx (wCons (woVar 2) (wCons (woE (wC (.int 1))) wNil))
def w_terms_in_g1 : WG :=
    wgN 2
def w_terms_in_s7 : WS :=
    wRet (wRd (gAdd) (wCons (woE (wLst (wvCons (wRd gIx (wCons (woVar 0) (wCons (woE (wC (.int 1))) wNil))) (wvNil)))) (wCons (woE (wLc [2] (wiSeq (wRd gIx (wCons (woVar 0) (wCons (woE (wC (.int 2))) wNil)))) (w_terms_in_g1) (wYes) (w_terms_in_e1))) wNil)))
def w_terms_in_s8 : WS :=
    wIf (wTV (wRd (gEq) (wCons (woVar 1) (wCons (woE (wC (.str ("case" : Str)))) wNil)))) (w_terms_in_s7) (wNext)
def w_terms_in_s9 : WS :=
    wRet (wRd gList (wCons (woE (wRd (sliceF true false) (wCons (woVar 0) (wCons (woE (wC (.int 1))) wNil)))) (wNil)))
def w_terms_in : WS :=
    wSeq (w_terms_in_s1)
    (wSeq (w_terms_in_s2)
    (wSeq (w_terms_in_s4)
    (wSeq (w_terms_in_s6)
    (wSeq (w_terms_in_s8)
    (w_terms_in_s9)))))
theorem d_terms_in {P : Program} {w : World} {K : PySem.W.Frag} {mg : Str → Option Value} {base : Heap} (B : Blt mg) {k : Nat} (f : Addr) :
    ∀ (cdv : Value) (A : Around) (outer : List PySem.Env) (s : Shared) (H : Hp) (E : XK), Room k (A.deeper (envOfC "terms_in" (defScope s_terms_in) s.heap.objs.size f cdv)) →
    PSs (cxOf (L2.CX P w) P w K mg base N_terms_in "terms_in" (defScope s_terms_in) f cdv A outer s H E) (defBody s_terms_in) (tS K (fun c d _ H => E c d H) pr_terms_in (w_terms_in)) := by
  intro cdv A outer s H E hr
  have hu := hu_of hr
  have hu64 := hr.units
  have tk := takes_of (X := cxOf (L2.CX P w) P w K mg base N_terms_in "terms_in" (defScope s_terms_in) f cdv A outer s H E) (E := E) rfl rfl rfl rfl
  have po := passes_of (X := cxOf (L2.CX P w) P w K mg base N_terms_in "terms_in" (defScope s_terms_in) f cdv A outer s H E) rfl
  exact (bss_cons (bs_set (i := 1) sc_terms_in.nd rfl (.inl rfl) (be_ix hu (bo_var (pv 0 rfl (.inl rfl))) (bo_e (be_c (fun _ => .int _) pe_int))))
    (bss_cons (bs_if (bt_in hu (bo_var (pv 1 rfl (.inl rfl))) (bo_e (be_tup (bv_cons (be_c (fun _ => .str _) pe_str) (bv_cons (be_c (fun _ => .str _) pe_str) (bv_cons (be_c (fun _ => .str _) pe_str) (bv_cons (be_c (fun _ => .str _) pe_str) bv_nil))))))) (bss_one (bs_ret (be_lst bv_nil))) bss_nil)
    (bss_cons (bs_if (bt_eq hu64 (bo_var (pv 1 rfl (.inl rfl))) (bo_e (be_c (fun _ => .str _) pe_str))) (bss_one (bs_ret (be_list rfl rfl B.list_ (ba_cons (bo_e (be_ix hu (bo_var (pv 0 rfl (.inl rfl))) (bo_e (be_c (fun _ => .int _) pe_int)))) ba_nil)))) bss_nil)
    (bss_cons (bs_if (bt_in hu (bo_var (pv 1 rfl (.inl rfl))) (bo_e (be_tup (bv_cons (be_c (fun _ => .str _) pe_str) (bv_cons (be_c (fun _ => .str _) pe_str) (bv_cons (be_c (fun _ => .str _) pe_str) bv_nil)))))) (bss_one (bs_ret (be_list rfl rfl B.list_ (ba_cons (bo_e (be_slL (bo_var (pv 0 rfl (.inl rfl))) (bo_e (be_c (fun _ => .int _) pe_int)))) ba_nil)))) bss_nil)
    (bss_cons (bs_if (bt_eq hu64 (bo_var (pv 1 rfl (.inl rfl))) (bo_e (be_c (fun _ => .str _) pe_str))) (bss_one (bs_ret (be_add (bo_e (be_lst (bv_cons (be_ix hu (bo_var (pv 0 rfl (.inl rfl))) (bo_e (be_c (fun _ => .int _) pe_int))) bv_nil))) (bo_e (be_lc rfl sc_terms_in.nd (bi_seq (be_ix hu (bo_var (pv 0 rfl (.inl rfl))) (bo_e (be_c (fun _ => .int _) pe_int)))) (blkOk_by (own := [(("branch" : Str), 2)]) (N := N_terms_in) (sc := defScope s_terms_in) (by decide +kernel)) rfl (by decide) (fun _ _ _ _ _ => (bg_N (pg_name (i := 2) sc_terms_in.nd rfl (.inl rfl)))) (fun _ _ _ _ _ => bts_nil) (fun _ _ _ _ _ => (be_ix hu (bo_var (pv 2 rfl (.inl rfl))) (bo_e (be_c (fun _ => .int _) pe_int))))))))) bss_nil)
    (bss_one (bs_ret (be_list rfl rfl B.list_ (ba_cons (bo_e (be_slL (bo_var (pv 0 rfl (.inl rfl))) (bo_e (be_c (fun _ => .int _) pe_int)))) ba_nil)))))))))
abbrev s_kinds_in : Stmt := topS 2
def N_kinds_in : List Str := ["kind"]
theorem sc_kinds_in : FnScope N_kinds_in ["kind"] (defScope s_kinds_in) := ⟨rfl, rfl, rfl, by decide +kernel, rfl, by decide +kernel, by decide +kernel⟩
def pr_kinds_in : Nat → Bool := fun i => [true].getD i false
theorem e_kinds_in (a0 : M) : env0 N_kinds_in [a0] = [some a0] := rfl
theorem o_kinds_in (x0 : Option M) : outs pr_kinds_in 1 [x0] = [x0] := rfl
def w_kinds_in_s1 : WS :=
    wIf (wTV (wRd (gIn) (wCons (woE (wRd gIx (wCons (woVar 0) (wCons (woE (wC (.int 0))) wNil)))) (wCons (woE (wTup (wvCons (wC (.str ("number" : Str))) (wvCons (wC (.str ("truth" : Str))) (wvCons (wC (.str ("letter" : Str))) (wvNil)))))) wNil)))) (wRet (wLst (wvNil))) (wNext)
def w_kinds_in_s2 : WS :=
    wRet (wIfE (wTV (wRd (gEq) (wCons (woE (wRd gIx (wCons (woVar 0) (wCons (woE (wC (.int 0))) wNil)))) (wCons (woE (wC (.str ("named" : Str)))) wNil)))) (wRd gList (wCons (woE (wRd gIx (wCons (woVar 0) (wCons (woE (wC (.int 2))) wNil)))) (wNil))) (wRd gList (wCons (woE (wRd (sliceF true false) (wCons (woVar 0) (wCons (woE (wC (.int 1))) wNil)))) (wNil))))
def w_kinds_in : WS :=
    wSeq (w_kinds_in_s1)
    (w_kinds_in_s2)
theorem d_kinds_in {P : Program} {w : World} {K : PySem.W.Frag} {mg : Str → Option Value} {base : Heap} (B : Blt mg) {k : Nat} (f : Addr) :
    ∀ (cdv : Value) (A : Around) (outer : List PySem.Env) (s : Shared) (H : Hp) (E : XK), Room k (A.deeper (envOfC "kinds_in" (defScope s_kinds_in) s.heap.objs.size f cdv)) →
    PSs (cxOf (L2.CX P w) P w K mg base N_kinds_in "kinds_in" (defScope s_kinds_in) f cdv A outer s H E) (defBody s_kinds_in) (tS K (fun c d _ H => E c d H) pr_kinds_in (w_kinds_in)) := by
  intro cdv A outer s H E hr
  have hu := hu_of hr
  have hu64 := hr.units
  have tk := takes_of (X := cxOf (L2.CX P w) P w K mg base N_kinds_in "kinds_in" (defScope s_kinds_in) f cdv A outer s H E) (E := E) rfl rfl rfl rfl
  have po := passes_of (X := cxOf (L2.CX P w) P w K mg base N_kinds_in "kinds_in" (defScope s_kinds_in) f cdv A outer s H E) rfl
  exact (bss_cons (bs_if (bt_in hu (bo_e (be_ix hu (bo_var (pv 0 rfl (.inl rfl))) (bo_e (be_c (fun _ => .int _) pe_int)))) (bo_e (be_tup (bv_cons (be_c (fun _ => .str _) pe_str) (bv_cons (be_c (fun _ => .str _) pe_str) (bv_cons (be_c (fun _ => .str _) pe_str) bv_nil)))))) (bss_one (bs_ret (be_lst bv_nil))) bss_nil)
    (bss_one (bs_ret (be_ifE (bt_eq hu64 (bo_e (be_ix hu (bo_var (pv 0 rfl (.inl rfl))) (bo_e (be_c (fun _ => .int _) pe_int)))) (bo_e (be_c (fun _ => .str _) pe_str))) (be_list rfl rfl B.list_ (ba_cons (bo_e (be_ix hu (bo_var (pv 0 rfl (.inl rfl))) (bo_e (be_c (fun _ => .int _) pe_int)))) ba_nil)) (be_list rfl rfl B.list_ (ba_cons (bo_e (be_slL (bo_var (pv 0 rfl (.inl rfl))) (bo_e (be_c (fun _ => .int _) pe_int)))) ba_nil))))))
abbrev s_parts_of : Stmt := topS 3
def N_parts_of : List Str := ["term", "found", "waiting", "part"]
theorem sc_parts_of : FnScope N_parts_of ["term"] (defScope s_parts_of) := ⟨rfl, rfl, rfl, by decide +kernel, rfl, by decide +kernel, by decide +kernel⟩
def pr_parts_of : Nat → Bool := fun i => [true].getD i false
theorem e_parts_of (a0 : M) : env0 N_parts_of [a0] = [some a0, none, none, none] := rfl
theorem o_parts_of (x0 x1 x2 x3 : Option M) : outs pr_parts_of 1 [x0, x1, x2, x3] = [x0] := rfl
def w_parts_of_s1 (sp_terms_in : WF) : WS :=
    wDrop (wMeth isL 2 gExtend (wvCons (wRd gRevSl (wCons (woE (wCall 1 sp_terms_in (wCons (woVar 3) (wNil)))) wNil)) (wvNil)))
def w_parts_of_t1 : WT :=
    wTV (wRd (gNe) (wCons (woVar 2) (wCons (woE (wLst (wvNil))) wNil)))
def w_parts_of_b1 (sp_terms_in : WF) : WS :=
    wSeq (wAsg (wMeth isL 2 gPop wvNil) (wgN 3))
    (wSeq (wDrop (wMeth isL 1 gAppend (wvCons (wVar 3) (wvNil))))
    (w_parts_of_s1 sp_terms_in))
def w_parts_of (sp_terms_in : WF) : WS :=
    wSeq (wAsg (wLst (wvNil)) (wgN 1))
    (wSeq (wAsg (wLst (wvCons (wVar 0) (wvNil))) (wgN 2))
    (wSeq (wWhile (w_parts_of_t1) (w_parts_of_b1 sp_terms_in))
    (wRet (wMove 1))))
theorem d_parts_of {P : Program} {w : World} {K : PySem.W.Frag} {mg : Str → Option Value} {base : Heap} (B : Blt mg) {sp_terms_in : WF} {k_terms_in : Nat} (h_terms_in : Fn P w K mg base "terms_in" k_terms_in 1 sp_terms_in) {k : Nat} (l_terms_in : k_terms_in ≤ k) (f : Addr) :
    ∀ (cdv : Value) (A : Around) (outer : List PySem.Env) (s : Shared) (H : Hp) (E : XK), Room k (A.deeper (envOfC "parts_of" (defScope s_parts_of) s.heap.objs.size f cdv)) →
    PSs (cxOf (L2.CX P w) P w K mg base N_parts_of "parts_of" (defScope s_parts_of) f cdv A outer s H E) (defBody s_parts_of) (tS K (fun c d _ H => E c d H) pr_parts_of (w_parts_of sp_terms_in)) := by
  intro cdv A outer s H E hr
  have hu := hu_of hr
  have hu64 := hr.units
  have tk := takes_of (X := cxOf (L2.CX P w) P w K mg base N_parts_of "parts_of" (defScope s_parts_of) f cdv A outer s H E) (E := E) rfl rfl rfl rfl
  have po := passes_of (X := cxOf (L2.CX P w) P w K mg base N_parts_of "parts_of" (defScope s_parts_of) f cdv A outer s H E) rfl
  exact (bss_cons (bs_set (i := 1) sc_parts_of.nd rfl (.inl rfl) (be_lst bv_nil))
    (bss_cons (bs_set (i := 2) sc_parts_of.nd rfl (.inl rfl) (be_lst (bv_cons (be_var (pv 0 rfl (.inl rfl))) bv_nil)))
    (bss_cons (bs_while po (bt_ne hu64 (bo_var (pv 2 rfl (.inl rfl))) (bo_e (be_lst bv_nil))) (bss_cons (bs_set (i := 3) sc_parts_of.nd rfl (.inl rfl) (be_bm0 me_pop (pe_bm0 PySem.F.plainAttrs_list PySem.F.slot_list_pop PySem.F.type_list_pop mt_pop (pv 2 rfl (.inl rfl)))))
    (bss_cons (bs_drop (be_append (pv 1 rfl (.inl rfl)) (bv_cons (be_var (pv 3 rfl (.inl rfl))) bv_nil)))
    (bss_one (bs_drop (be_extend (pv 2 rfl (.inl rfl)) (bv_cons (be_revsl (bo_e (be_call h_terms_in hr (by omega) tk rfl (ba_cons (bo_var (pv 3 rfl (.inl rfl))) ba_nil)))) bv_nil)))))))
    (bss_one (bs_ret (be_move (pv 1 rfl (.inl rfl))))))))
abbrev s_kind_parts : Stmt := topS 4
def N_kind_parts : List Str := ["kind", "found", "waiting", "part"]
theorem sc_kind_parts : FnScope N_kind_parts ["kind"] (defScope s_kind_parts) := ⟨rfl, rfl, rfl, by decide +kernel, rfl, by decide +kernel, by decide +kernel⟩
def pr_kind_parts : Nat → Bool := fun i => [true].getD i false
theorem e_kind_parts (a0 : M) : env0 N_kind_parts [a0] = [some a0, none, none, none] := rfl
theorem o_kind_parts (x0 x1 x2 x3 : Option M) : outs pr_kind_parts 1 [x0, x1, x2, x3] = [x0] := rfl
def w_kind_parts_s1 (sp_kinds_in : WF) : WS :=
    wDrop (wMeth isL 2 gExtend (wvCons (wRd gRevSl (wCons (woE (wCall 1 sp_kinds_in (wCons (woVar 3) (wNil)))) wNil)) (wvNil)))
def w_kind_parts_t1 : WT :=
    wTV (wRd (gNe) (wCons (woVar 2) (wCons (woE (wLst (wvNil))) wNil)))
def w_kind_parts_b1 (sp_kinds_in : WF) : WS :=
    wSeq (wAsg (wMeth isL 2 gPop wvNil) (wgN 3))
    (wSeq (wDrop (wMeth isL 1 gAppend (wvCons (wVar 3) (wvNil))))
    (w_kind_parts_s1 sp_kinds_in))
def w_kind_parts (sp_kinds_in : WF) : WS :=
    wSeq (wAsg (wLst (wvNil)) (wgN 1))
    (wSeq (wAsg (wLst (wvCons (wVar 0) (wvNil))) (wgN 2))
    (wSeq (wWhile (w_kind_parts_t1) (w_kind_parts_b1 sp_kinds_in))
    (wRet (wMove 1))))
theorem d_kind_parts {P : Program} {w : World} {K : PySem.W.Frag} {mg : Str → Option Value} {base : Heap} (B : Blt mg) {sp_kinds_in : WF} {k_kinds_in : Nat} (h_kinds_in : Fn P w K mg base "kinds_in" k_kinds_in 1 sp_kinds_in) {k : Nat} (l_kinds_in : k_kinds_in ≤ k) (f : Addr) :
    ∀ (cdv : Value) (A : Around) (outer : List PySem.Env) (s : Shared) (H : Hp) (E : XK), Room k (A.deeper (envOfC "kind_parts" (defScope s_kind_parts) s.heap.objs.size f cdv)) →
    PSs (cxOf (L2.CX P w) P w K mg base N_kind_parts "kind_parts" (defScope s_kind_parts) f cdv A outer s H E) (defBody s_kind_parts) (tS K (fun c d _ H => E c d H) pr_kind_parts (w_kind_parts sp_kinds_in)) := by
  intro cdv A outer s H E hr
  have hu := hu_of hr
  have hu64 := hr.units
  have tk := takes_of (X := cxOf (L2.CX P w) P w K mg base N_kind_parts "kind_parts" (defScope s_kind_parts) f cdv A outer s H E) (E := E) rfl rfl rfl rfl
  have po := passes_of (X := cxOf (L2.CX P w) P w K mg base N_kind_parts "kind_parts" (defScope s_kind_parts) f cdv A outer s H E) rfl
  exact (bss_cons (bs_set (i := 1) sc_kind_parts.nd rfl (.inl rfl) (be_lst bv_nil))
    (bss_cons (bs_set (i := 2) sc_kind_parts.nd rfl (.inl rfl) (be_lst (bv_cons (be_var (pv 0 rfl (.inl rfl))) bv_nil)))
    (bss_cons (bs_while po (bt_ne hu64 (bo_var (pv 2 rfl (.inl rfl))) (bo_e (be_lst bv_nil))) (bss_cons (bs_set (i := 3) sc_kind_parts.nd rfl (.inl rfl) (be_bm0 me_pop (pe_bm0 PySem.F.plainAttrs_list PySem.F.slot_list_pop PySem.F.type_list_pop mt_pop (pv 2 rfl (.inl rfl)))))
    (bss_cons (bs_drop (be_append (pv 1 rfl (.inl rfl)) (bv_cons (be_var (pv 3 rfl (.inl rfl))) bv_nil)))
    (bss_one (bs_drop (be_extend (pv 2 rfl (.inl rfl)) (bv_cons (be_revsl (bo_e (be_call h_kinds_in hr (by omega) tk rfl (ba_cons (bo_var (pv 3 rfl (.inl rfl))) ba_nil)))) bv_nil)))))))
    (bss_one (bs_ret (be_move (pv 1 rfl (.inl rfl))))))))
abbrev s_letters_in : Stmt := topS 5
def N_letters_in : List Str := ["kind", "found", "part"]
theorem sc_letters_in : FnScope N_letters_in ["kind"] (defScope s_letters_in) := ⟨rfl, rfl, rfl, by decide +kernel, rfl, by decide +kernel, by decide +kernel⟩
def pr_letters_in : Nat → Bool := fun i => [true].getD i false
theorem e_letters_in (a0 : M) : env0 N_letters_in [a0] = [some a0, none, none] := rfl
theorem o_letters_in (x0 x1 x2 : Option M) : outs pr_letters_in 1 [x0, x1, x2] = [x0] := rfl
def w_letters_in_s1 : WS :=
    wAsg (wC (.bl true)) (wgSub 1 (wRd gIx (wCons (woVar 2) (wCons (woE (wC (.int 1))) wNil))))
def w_letters_in_s2 : WS :=
    wIf (wTV (wRd (gEq) (wCons (woE (wRd gIx (wCons (woVar 2) (wCons (woE (wC (.int 0))) wNil)))) (wCons (woE (wC (.str ("letter" : Str)))) wNil)))) (w_letters_in_s1) (wNext)
def w_letters_in_b1 : WS :=
    w_letters_in_s2
def w_letters_in_g1 : WG :=
    wgN 2
def w_letters_in_s3 (sp_kind_parts : WF) : WS :=
    wFor (wiSeq (wCall 1 sp_kind_parts (wCons (woVar 0) (wNil)))) (w_letters_in_g1) (w_letters_in_b1)
def w_letters_in (sp_kind_parts : WF) : WS :=
    wSeq (wAsg (wDictNew) (wgN 1))
    (wSeq (w_letters_in_s3 sp_kind_parts)
    (wRet (wRd gList (wCons (woVar 1) (wNil)))))
theorem d_letters_in {P : Program} {w : World} {K : PySem.W.Frag} {mg : Str → Option Value} {base : Heap} (B : Blt mg) {sp_kind_parts : WF} {k_kind_parts : Nat} (h_kind_parts : Fn P w K mg base "kind_parts" k_kind_parts 1 sp_kind_parts) {k : Nat} (l_kind_parts : k_kind_parts ≤ k) (f : Addr) :
    ∀ (cdv : Value) (A : Around) (outer : List PySem.Env) (s : Shared) (H : Hp) (E : XK), Room k (A.deeper (envOfC "letters_in" (defScope s_letters_in) s.heap.objs.size f cdv)) →
    PSs (cxOf (L2.CX P w) P w K mg base N_letters_in "letters_in" (defScope s_letters_in) f cdv A outer s H E) (defBody s_letters_in) (tS K (fun c d _ H => E c d H) pr_letters_in (w_letters_in sp_kind_parts)) := by
  intro cdv A outer s H E hr
  have hu := hu_of hr
  have hu64 := hr.units
  have tk := takes_of (X := cxOf (L2.CX P w) P w K mg base N_letters_in "letters_in" (defScope s_letters_in) f cdv A outer s H E) (E := E) rfl rfl rfl rfl
  have po := passes_of (X := cxOf (L2.CX P w) P w K mg base N_letters_in "letters_in" (defScope s_letters_in) f cdv A outer s H E) rfl
  exact (bss_cons (bs_set (i := 1) sc_letters_in.nd rfl (.inl rfl) be_dnew)
    (bss_cons (bs_for po rfl (bi_seq (be_call h_kind_parts hr (by omega) tk rfl (ba_cons (bo_var (pv 0 rfl (.inl rfl))) ba_nil))) (bg_N (pg_name (i := 2) sc_letters_in.nd rfl (.inl rfl))) (bss_one (bs_if (bt_eq hu64 (bo_e (be_ix hu (bo_var (pv 2 rfl (.inl rfl))) (bo_e (be_c (fun _ => .int _) pe_int)))) (bo_e (be_c (fun _ => .str _) pe_str))) (bss_one (bs_asg (be_c (fun _ => .bl _) pe_bl) (bg_sub (W := W0) hu (pv 1 rfl (.inl rfl)) (be_ix hu (bo_var (pv 2 rfl (.inl rfl))) (bo_e (be_c (fun _ => .int _) pe_int)))))) bss_nil)))
    (bss_one (bs_ret (be_list rfl rfl B.list_ (ba_cons (bo_var (pv 1 rfl (.inl rfl))) ba_nil))))))
abbrev s_size_of : Stmt := topS 6
def N_size_of : List Str := ["kind"]
theorem sc_size_of : FnScope N_size_of ["kind"] (defScope s_size_of) := ⟨rfl, rfl, rfl, by decide +kernel, rfl, by decide +kernel, by decide +kernel⟩
def pr_size_of : Nat → Bool := fun i => [true].getD i false
theorem e_size_of (a0 : M) : env0 N_size_of [a0] = [some a0] := rfl
theorem o_size_of (x0 : Option M) : outs pr_size_of 1 [x0] = [x0] := rfl
def w_size_of_s1 (sp_kind_parts : WF) : WS :=
    wRet (wRd gLen (wCons (woE (wCall 1 sp_kind_parts (wCons (woVar 0) (wNil)))) (wNil)))
def w_size_of (sp_kind_parts : WF) : WS :=
    w_size_of_s1 sp_kind_parts
theorem d_size_of {P : Program} {w : World} {K : PySem.W.Frag} {mg : Str → Option Value} {base : Heap} (B : Blt mg) {sp_kind_parts : WF} {k_kind_parts : Nat} (h_kind_parts : Fn P w K mg base "kind_parts" k_kind_parts 1 sp_kind_parts) {k : Nat} (l_kind_parts : k_kind_parts ≤ k) (f : Addr) :
    ∀ (cdv : Value) (A : Around) (outer : List PySem.Env) (s : Shared) (H : Hp) (E : XK), Room k (A.deeper (envOfC "size_of" (defScope s_size_of) s.heap.objs.size f cdv)) →
    PSs (cxOf (L2.CX P w) P w K mg base N_size_of "size_of" (defScope s_size_of) f cdv A outer s H E) (defBody s_size_of) (tS K (fun c d _ H => E c d H) pr_size_of (w_size_of sp_kind_parts)) := by
  intro cdv A outer s H E hr
  have hu := hu_of hr
  have hu64 := hr.units
  have tk := takes_of (X := cxOf (L2.CX P w) P w K mg base N_size_of "size_of" (defScope s_size_of) f cdv A outer s H E) (E := E) rfl rfl rfl rfl
  have po := passes_of (X := cxOf (L2.CX P w) P w K mg base N_size_of "size_of" (defScope s_size_of) f cdv A outer s H E) rfl
  exact (bss_one (bs_ret (be_len rfl B.len_ (ba_cons (bo_e (be_call h_kind_parts hr (by omega) tk rfl (ba_cons (bo_var (pv 0 rfl (.inl rfl))) ba_nil))) ba_nil))))
abbrev s_L_next : Stmt := topS 8
def N_L_next : List Str := ["_law_state", "_law_many", "_law_k", "_law_cells", "_law_cell", "_law_number"]
theorem sc_L_next : FnScope N_L_next ["_law_state", "_law_many"] (defScope s_L_next) := ⟨rfl, rfl, rfl, by decide +kernel, rfl, by decide +kernel, by decide +kernel⟩
def pr_L_next : Nat → Bool := fun i => [true, true].getD i false
theorem e_L_next (a0 a1 : M) : env0 N_L_next [a0, a1] = [some a0, some a1, none, none, none, none] := rfl
theorem o_L_next (x0 x1 x2 x3 x4 x5 : Option M) : outs pr_L_next 2 [x0, x1, x2, x3, x4, x5] = [x0, x1] := rfl
def w_L_next_s1 : WS :=
    wAsg (wRd (gAdd) (wCons (woE (wRd gIx (wCons (woVar 0) (wCons (woE (wC (.str ("at" : Str)))) wNil)))) (wCons (woE (wC (.int 1))) wNil))) (wgSub 0 (wC (.str ("at" : Str))))
def w_L_next_s2 : WS :=
    wAsg (wRd gIx (wCons (woVar 0) (wCons (woE (wC (.str ("at" : Str)))) wNil))) (wgN 2)
def w_L_next_s3 : WS :=
    wAsg (wRd gIx (wCons (woVar 0) (wCons (woE (wC (.str ("cells" : Str)))) wNil))) (wgN 3)
def w_L_next_s4 : WS :=
    wAsg (wIfE (wTV (wRd (gNe) (wCons (woVar 3) (wCons (woE (wLst (wvNil))) wNil)))) (wRd gIx (wCons (woVar 3) (wCons (woE (wRd (gInt cPos (fun i j => i % j)) (wCons (woVar 2) (wCons (woE (wRd gLen (wCons (woVar 3) (wNil)))) wNil)))) wNil))) (wC (.int 0))) (wgN 4)
def w_L_next_s5 : WS :=
    wAsg (wRd (gInt cPos (fun i j => i % j)) (wCons (woE (wRd (gAdd) (wCons (woE (wRd (gAdd) (wCons (woE (wRd (gMul) (wCons (woE (wRd (gInt cPos (fun i j => i % j)) (wCons (woVar 4) (wCons (woE (wC (.int 2147483629))) wNil)))) (wCons (woE (wC (.int 48271))) wNil)))) (wCons (woE (wRd (gMul) (wCons (woE (wRd (gMul) (wCons (woE (wC (.int 69621))) (wCons (woVar 2) wNil)))) (wCons (woVar 2) wNil)))) wNil)))) (wCons (woE (wC (.int 104729))) wNil)))) (wCons (woE (wC (.int 2147483647))) wNil))) (wgN 5)
def w_L_next_s6 : WS :=
    wRet (wRd (gInt cPos (fun i j => i % j)) (wCons (woE (wRd (gInt cDiv (fun i j => i / j)) (wCons (woE (wRd (gInt cPos (fun i j => i % j)) (wCons (woE (wRd (gMul) (wCons (woVar 5) (wCons (woE (wRd (gAdd) (wCons (woE (wC (.int 16807))) (wCons (woE (wRd (gMul) (wCons (woE (wC (.int 2))) (wCons (woVar 2) wNil)))) wNil)))) wNil)))) (wCons (woE (wC (.int 2147483629))) wNil)))) (wCons (woE (wC (.int 7))) wNil)))) (wCons (woVar 1) wNil)))
def w_L_next : WS :=
    wSeq (w_L_next_s1)
    (wSeq (w_L_next_s2)
    (wSeq (w_L_next_s3)
    (wSeq (w_L_next_s4)
    (wSeq (w_L_next_s5)
    (w_L_next_s6)))))
theorem d_L_next {P : Program} {w : World} {K : PySem.W.Frag} {mg : Str → Option Value} {base : Heap} (B : Blt mg) {k : Nat} (f : Addr) :
    ∀ (cdv : Value) (A : Around) (outer : List PySem.Env) (s : Shared) (H : Hp) (E : XK), Room k (A.deeper (envOfC "_law_next" (defScope s_L_next) s.heap.objs.size f cdv)) →
    PSs (cxOf (L2.CX P w) P w K mg base N_L_next "_law_next" (defScope s_L_next) f cdv A outer s H E) (defBody s_L_next) (tS K (fun c d _ H => E c d H) pr_L_next (w_L_next)) := by
  intro cdv A outer s H E hr
  have hu := hu_of hr
  have hu64 := hr.units
  have tk := takes_of (X := cxOf (L2.CX P w) P w K mg base N_L_next "_law_next" (defScope s_L_next) f cdv A outer s H E) (E := E) rfl rfl rfl rfl
  have po := passes_of (X := cxOf (L2.CX P w) P w K mg base N_L_next "_law_next" (defScope s_L_next) f cdv A outer s H E) rfl
  exact (bss_cons (bs_asg (be_add (bo_e (be_ix hu (bo_var (pv 0 rfl (.inl rfl))) (bo_e (be_c (fun _ => .str _) pe_str)))) (bo_e (be_c (fun _ => .int _) pe_int))) (bg_sub (W := W0) hu (pv 0 rfl (.inl rfl)) (be_c (fun _ => .str _) pe_str)))
    (bss_cons (bs_set (i := 2) sc_L_next.nd rfl (.inl rfl) (be_ix hu (bo_var (pv 0 rfl (.inl rfl))) (bo_e (be_c (fun _ => .str _) pe_str))))
    (bss_cons (bs_set (i := 3) sc_L_next.nd rfl (.inl rfl) (be_ix hu (bo_var (pv 0 rfl (.inl rfl))) (bo_e (be_c (fun _ => .str _) pe_str))))
    (bss_cons (bs_set (i := 4) sc_L_next.nd rfl (.inl rfl) (be_ifE (bt_ne hu64 (bo_var (pv 3 rfl (.inl rfl))) (bo_e (be_lst bv_nil))) (be_ix hu (bo_var (pv 3 rfl (.inl rfl))) (bo_e (be_mod (bo_var (pv 2 rfl (.inl rfl))) (bo_e (be_len rfl B.len_ (ba_cons (bo_var (pv 3 rfl (.inl rfl))) ba_nil)))))) (be_c (fun _ => .int _) pe_int)))
    (bss_cons (bs_set (i := 5) sc_L_next.nd rfl (.inl rfl) (be_mod (bo_e (be_add (bo_e (be_add (bo_e (be_mul (bo_e (be_mod (bo_var (pv 4 rfl (.inl rfl))) (bo_e (be_c (fun _ => .int _) pe_int)))) (bo_e (be_c (fun _ => .int _) pe_int)))) (bo_e (be_mul (bo_e (be_mul (bo_e (be_c (fun _ => .int _) pe_int)) (bo_var (pv 2 rfl (.inl rfl))))) (bo_var (pv 2 rfl (.inl rfl))))))) (bo_e (be_c (fun _ => .int _) pe_int)))) (bo_e (be_c (fun _ => .int _) pe_int))))
    (bss_one (bs_ret (be_mod (bo_e (be_div (bo_e (be_mod (bo_e (be_mul (bo_var (pv 5 rfl (.inl rfl))) (bo_e (be_add (bo_e (be_c (fun _ => .int _) pe_int)) (bo_e (be_mul (bo_e (be_c (fun _ => .int _) pe_int)) (bo_var (pv 2 rfl (.inl rfl))))))))) (bo_e (be_c (fun _ => .int _) pe_int)))) (bo_e (be_c (fun _ => .int _) pe_int)))) (bo_var (pv 1 rfl (.inl rfl)))))))))))
abbrev s_L_name : Stmt := topS 9
def N_L_name : List Str := ["_law_state", "_law_k", "_law_size", "_law_at", "_law_rest"]
theorem sc_L_name : FnScope N_L_name ["_law_state", "_law_k"] (defScope s_L_name) := ⟨rfl, rfl, rfl, by decide +kernel, rfl, by decide +kernel, by decide +kernel⟩
def pr_L_name : Nat → Bool := fun i => [true, true].getD i false
theorem e_L_name (a0 a1 : M) : env0 N_L_name [a0, a1] = [some a0, some a1, none, none, none] := rfl
theorem o_L_name (x0 x1 x2 x3 x4 : Option M) : outs pr_L_name 2 [x0, x1, x2, x3, x4] = [x0, x1] := rfl
def w_L_name_s1 : WS :=
    wAsg (wIfE (wTV (wRd (gNe) (wCons (woE (wRd gIx (wCons (woVar 0) (wCons (woE (wC (.str ("cells" : Str)))) wNil)))) (wCons (woE (wLst (wvNil))) wNil)))) (wRd (gAdd) (wCons (woE (wC (.int 2))) (wCons (woE (wRd (gInt cPos (fun i j => i % j)) (wCons (woE (wRd gIx (wCons (woE (wRd gIx (wCons (woVar 0) (wCons (woE (wC (.str ("cells" : Str)))) wNil)))) (wCons (woE (wC (.int 0))) wNil)))) (wCons (woE (wC (.int 7))) wNil)))) wNil))) (wC (.int 3))) (wgN 2)
def w_L_name_s2 : WS :=
    wAsg (wIfE (wTV (wRd (gNe) (wCons (woE (wRd gIx (wCons (woVar 0) (wCons (woE (wC (.str ("cells" : Str)))) wNil)))) (wCons (woE (wLst (wvNil))) wNil)))) (wRd (gInt cPos (fun i j => i % j)) (wCons (woE (wRd gIx (wCons (woE (wRd gIx (wCons (woVar 0) (wCons (woE (wC (.str ("cells" : Str)))) wNil)))) (wCons (woE (wRd gNeg (wCons (woE (wC (.int 1))) wNil))) wNil)))) (wCons (woVar 2) wNil))) (wC (.int 0))) (wgN 3)
def w_L_name_s3 : WS :=
    wAsg (wRd (sliceF false true) (wCons (woE (wC (.str ("qzjvqzjv" : Str)))) (wCons (woVar 2) wNil))) (wgN 4)
def w_L_name_s4 : WS :=
    wRet (wRd (gAdd) (wCons (woE (wRd (gAdd) (wCons (woE (wRd (sliceF false true) (wCons (woVar 4) (wCons (woVar 3) wNil)))) (wCons (woE (wRd gIx (wCons (woE (wC (.str ("abcdefghijklmnopqrstuvwxyz" : Str)))) (wCons (woE (wRd (gInt cPos (fun i j => i % j)) (wCons (woE (wRd (gAdd) (wCons (woE (wRd (gMul) (wCons (woE (wC (.int 7))) (wCons (woVar 1) wNil)))) (wCons (woVar 2) wNil)))) (wCons (woE (wC (.int 26))) wNil)))) wNil)))) wNil)))) (wCons (woE (wRd (sliceF true false) (wCons (woVar 4) (wCons (woE (wRd (gAdd) (wCons (woVar 3) (wCons (woE (wC (.int 1))) wNil)))) wNil)))) wNil)))
def w_L_name : WS :=
    wSeq (w_L_name_s1)
    (wSeq (w_L_name_s2)
    (wSeq (w_L_name_s3)
    (w_L_name_s4)))
theorem d_L_name {P : Program} {w : World} {K : PySem.W.Frag} {mg : Str → Option Value} {base : Heap} (B : Blt mg) {k : Nat} (f : Addr) :
    ∀ (cdv : Value) (A : Around) (outer : List PySem.Env) (s : Shared) (H : Hp) (E : XK), Room k (A.deeper (envOfC "_law_name" (defScope s_L_name) s.heap.objs.size f cdv)) →
    PSs (cxOf (L2.CX P w) P w K mg base N_L_name "_law_name" (defScope s_L_name) f cdv A outer s H E) (defBody s_L_name) (tS K (fun c d _ H => E c d H) pr_L_name (w_L_name)) := by
  intro cdv A outer s H E hr
  have hu := hu_of hr
  have hu64 := hr.units
  have tk := takes_of (X := cxOf (L2.CX P w) P w K mg base N_L_name "_law_name" (defScope s_L_name) f cdv A outer s H E) (E := E) rfl rfl rfl rfl
  have po := passes_of (X := cxOf (L2.CX P w) P w K mg base N_L_name "_law_name" (defScope s_L_name) f cdv A outer s H E) rfl
  exact (bss_cons (bs_set (i := 2) sc_L_name.nd rfl (.inl rfl) (be_ifE (bt_ne hu64 (bo_e (be_ix hu (bo_var (pv 0 rfl (.inl rfl))) (bo_e (be_c (fun _ => .str _) pe_str)))) (bo_e (be_lst bv_nil))) (be_add (bo_e (be_c (fun _ => .int _) pe_int)) (bo_e (be_mod (bo_e (be_ix hu (bo_e (be_ix hu (bo_var (pv 0 rfl (.inl rfl))) (bo_e (be_c (fun _ => .str _) pe_str)))) (bo_e (be_c (fun _ => .int _) pe_int)))) (bo_e (be_c (fun _ => .int _) pe_int))))) (be_c (fun _ => .int _) pe_int)))
    (bss_cons (bs_set (i := 3) sc_L_name.nd rfl (.inl rfl) (be_ifE (bt_ne hu64 (bo_e (be_ix hu (bo_var (pv 0 rfl (.inl rfl))) (bo_e (be_c (fun _ => .str _) pe_str)))) (bo_e (be_lst bv_nil))) (be_mod (bo_e (be_ix hu (bo_e (be_ix hu (bo_var (pv 0 rfl (.inl rfl))) (bo_e (be_c (fun _ => .str _) pe_str)))) (bo_e (be_neg (bo_e (be_c (fun _ => .int _) pe_int)))))) (bo_var (pv 2 rfl (.inl rfl)))) (be_c (fun _ => .int _) pe_int)))
    (bss_cons (bs_set (i := 4) sc_L_name.nd rfl (.inl rfl) (be_slH (bo_e (be_c (fun _ => .str _) pe_str)) (bo_var (pv 2 rfl (.inl rfl)))))
    (bss_one (bs_ret (be_add (bo_e (be_add (bo_e (be_slH (bo_var (pv 4 rfl (.inl rfl))) (bo_var (pv 3 rfl (.inl rfl))))) (bo_e (be_ix hu (bo_e (be_c (fun _ => .str _) pe_str)) (bo_e (be_mod (bo_e (be_add (bo_e (be_mul (bo_e (be_c (fun _ => .int _) pe_int)) (bo_var (pv 1 rfl (.inl rfl))))) (bo_var (pv 2 rfl (.inl rfl))))) (bo_e (be_c (fun _ => .int _) pe_int)))))))) (bo_e (be_slL (bo_var (pv 4 rfl (.inl rfl))) (bo_e (be_add (bo_var (pv 3 rfl (.inl rfl))) (bo_e (be_c (fun _ => .int _) pe_int))))))))))))
abbrev s_L_head : Stmt := topS 10
def N_L_head : List Str := ["_law_state", "_law_k"]
theorem sc_L_head : FnScope N_L_head ["_law_state", "_law_k"] (defScope s_L_head) := ⟨rfl, rfl, rfl, by decide +kernel, rfl, by decide +kernel, by decide +kernel⟩
def pr_L_head : Nat → Bool := fun i => [true, true].getD i false
theorem e_L_head (a0 a1 : M) : env0 N_L_head [a0, a1] = [some a0, some a1] := rfl
theorem o_L_head (x0 x1 : Option M) : outs pr_L_head 2 [x0, x1] = [x0, x1] := rfl
def w_L_head_s1 (sp__law_name : WF) : WS :=
    wRet (wRd (gAdd) (wCons (woE (wRd gIx (wCons (woE (wC (.str ("ABCDEFGHIJKLMNOPQRSTUVWXYZ" : Str)))) (wCons (woE (wRd (gInt cPos (fun i j => i % j)) (wCons (woE (wRd (gAdd) (wCons (woE (wRd (gMul) (wCons (woE (wC (.int 5))) (wCons (woVar 1) wNil)))) (wCons (woE (wC (.int 2))) wNil)))) (wCons (woE (wC (.int 26))) wNil)))) wNil)))) (wCons (woE (wRd (sliceF false true) (wCons (woE (wCall 2 sp__law_name (wCons (woVar 0) (wCons (woVar 1) (wNil))))) (wCons (woE (wC (.int 7))) wNil)))) wNil)))
def w_L_head (sp__law_name : WF) : WS :=
    w_L_head_s1 sp__law_name
theorem d_L_head {P : Program} {w : World} {K : PySem.W.Frag} {mg : Str → Option Value} {base : Heap} (B : Blt mg) {sp__law_name : WF} {k__law_name : Nat} (h__law_name : Fn P w K mg base "_law_name" k__law_name 2 sp__law_name) {k : Nat} (l__law_name : k__law_name ≤ k) (f : Addr) :
    ∀ (cdv : Value) (A : Around) (outer : List PySem.Env) (s : Shared) (H : Hp) (E : XK), Room k (A.deeper (envOfC "_law_head" (defScope s_L_head) s.heap.objs.size f cdv)) →
    PSs (cxOf (L2.CX P w) P w K mg base N_L_head "_law_head" (defScope s_L_head) f cdv A outer s H E) (defBody s_L_head) (tS K (fun c d _ H => E c d H) pr_L_head (w_L_head sp__law_name)) := by
  intro cdv A outer s H E hr
  have hu := hu_of hr
  have hu64 := hr.units
  have tk := takes_of (X := cxOf (L2.CX P w) P w K mg base N_L_head "_law_head" (defScope s_L_head) f cdv A outer s H E) (E := E) rfl rfl rfl rfl
  have po := passes_of (X := cxOf (L2.CX P w) P w K mg base N_L_head "_law_head" (defScope s_L_head) f cdv A outer s H E) rfl
  exact (bss_one (bs_ret (be_add (bo_e (be_ix hu (bo_e (be_c (fun _ => .str _) pe_str)) (bo_e (be_mod (bo_e (be_add (bo_e (be_mul (bo_e (be_c (fun _ => .int _) pe_int)) (bo_var (pv 1 rfl (.inl rfl))))) (bo_e (be_c (fun _ => .int _) pe_int)))) (bo_e (be_c (fun _ => .int _) pe_int)))))) (bo_e (be_slH (bo_e (be_call h__law_name hr (by omega) tk rfl (ba_cons (bo_var (pv 0 rfl (.inl rfl))) (ba_cons (bo_var (pv 1 rfl (.inl rfl))) ba_nil)))) (bo_e (be_c (fun _ => .int _) pe_int)))))))
abbrev s_L_kind : Stmt := topS 11
def N_L_kind : List Str := ["_law_state", "_law_known", "_law_room", "_law_deep", "_law_n", "_law_names", "_law_one", "_law_choices", "_law_plain", "_law_name_here", "_law_some", "_law_k"]
theorem sc_L_kind : FnScope N_L_kind ["_law_state", "_law_known", "_law_room", "_law_deep"] (defScope s_L_kind) := ⟨rfl, rfl, rfl, by decide +kernel, rfl, by decide +kernel, by decide +kernel⟩
def pr_L_kind : Nat → Bool := fun i => [true, true, true, true].getD i false
theorem e_L_kind (a0 a1 a2 a3 : M) : env0 N_L_kind [a0, a1, a2, a3] = [some a0, some a1, some a2, some a3, none, none, none, none, none, none, none, none] := rfl
theorem o_L_kind (x0 x1 x2 x3 x4 x5 x6 x7 x8 x9 x10 x11 : Option M) : outs pr_L_kind 4 [x0, x1, x2, x3, x4, x5, x6, x7, x8, x9, x10, x11] = [x0, x1, x2, x3] := rfl
def w_L_kind_s1 (sp__law_next : WF) : WS :=
    wAsg (wCall 2 sp__law_next (wCons (woVar 0) (wCons (woE (wC (.int 8))) (wNil)))) (wgN 4)
def w_L_kind_e1 : BV.WE :=
    wVar 9
def w_L_kind_g1 : WG :=
    wgN 9
def w_L_kind_t1 : WT :=
    wTV (wRd (gEq) (wCons (woE (wRd gIx (wCons (woVar 1) (wCons (woVar 9) wNil)))) (wCons (woE (wC (.int 0))) wNil)))
def w_L_kind_s2 : WS :=
    wAsg (wLcK 1 [9] (w_L_kind_g1) (w_L_kind_t1) (w_L_kind_e1)) (wgN 7)
def w_L_kind_s3 (sp__law_name : WF) (sp__law_next : WF) : WS :=
    wAsg (wLst (wvCons (wTup (wvCons (wC (.str ("number" : Str))) (wvNil))) (wvCons (wTup (wvCons (wC (.str ("truth" : Str))) (wvNil))) (wvCons (wTup (wvCons (wC (.str ("letter" : Str))) (wvCons (wCall 2 sp__law_name (wCons (woVar 0) (wCons (woE (wRd (gAdd) (wCons (woE (wC (.int 20))) (wCons (woE (wCall 2 sp__law_next (wCons (woVar 0) (wCons (woE (wC (.int 4))) (wNil))))) wNil)))) (wNil)))) (wvNil)))) (wvNil))))) (wgN 8)
def w_L_kind_e2 : BV.WE :=
    wTup (wvCons (wC (.str ("named" : Str))) (wvCons (wVar 9) (wvCons (wTup (wvNil)) (wvNil))))
def w_L_kind_g2 : WG :=
    wgN 9
def w_L_kind_s4 : WS :=
    wAsg (wRd (gAdd) (wCons (woVar 8) (wCons (woE (wLc [9] (wiSeq (wVar 7)) (w_L_kind_g2) (wYes) (w_L_kind_e2))) wNil))) (wgN 8)
def w_L_kind_s5 (sp__law_next : WF) : WS :=
    wRet (wRd gIx (wCons (woVar 8) (wCons (woE (wCall 2 sp__law_next (wCons (woVar 0) (wCons (woE (wRd gLen (wCons (woVar 8) (wNil)))) (wNil))))) wNil)))
def w_L_kind_s6 (sp__law_name : WF) (sp__law_next : WF) : WS :=
    wIf (wOr (wTV (wRd (gCmp pLt) (wCons (woVar 2) (wCons (woE (wC (.int 3))) wNil)))) (wOr (wTV (wRd (gCmp pLt) (wCons (woVar 3) (wCons (woE (wC (.int 2))) wNil)))) (wTV (wRd (gCmp pLt) (wCons (woVar 4) (wCons (woE (wC (.int 2))) wNil)))))) (wSeq (w_L_kind_s2)
    (wSeq (w_L_kind_s3 sp__law_name sp__law_next)
    (wSeq (w_L_kind_s4)
    (w_L_kind_s5 sp__law_next)))) (wNext)
def w_L_kind_s7 (sp__law_kind : WF) : WS :=
    wRet (wTup (wvCons (wC (.str ("list" : Str))) (wvCons (wCall 4 sp__law_kind (wCons (woVar 0) (wCons (woVar 1) (wCons (woE (wRd (gInt (fun _ _ => true) (fun i j => i - j)) (wCons (woVar 2) (wCons (woE (wC (.int 1))) wNil)))) (wCons (woE (wRd (gInt (fun _ _ => true) (fun i j => i - j)) (wCons (woVar 3) (wCons (woE (wC (.int 1))) wNil)))) (wNil)))))) (wvNil))))
def w_L_kind_s8 (sp__law_kind : WF) : WS :=
    wIf (wTV (wRd (gEq) (wCons (woVar 4) (wCons (woE (wC (.int 2))) wNil)))) (w_L_kind_s7 sp__law_kind) (wNext)
def w_L_kind_e3 : BV.WE :=
    wVar 9
def w_L_kind_g3 : WG :=
    wgN 9
def w_L_kind_t3 : WT :=
    wAnd (wTV (wRd (gCmp pGt) (wCons (woE (wRd gIx (wCons (woVar 1) (wCons (woVar 9) wNil)))) (wCons (woE (wC (.int 0))) wNil)))) (wTV (wRd (gCmp pLt) (wCons (woE (wRd (gMul) (wCons (woE (wC (.int 2))) (wCons (woE (wRd gIx (wCons (woVar 1) (wCons (woVar 9) wNil)))) wNil)))) (wCons (woVar 2) wNil))))
def w_L_kind_s9 : WS :=
    wAsg (wLcK 1 [9] (w_L_kind_g3) (w_L_kind_t3) (w_L_kind_e3)) (wgN 5)
def w_L_kind_s10 (sp__law_next : WF) : WS :=
    wAsg (wRd gIx (wCons (woVar 5) (wCons (woE (wCall 2 sp__law_next (wCons (woVar 0) (wCons (woE (wRd gLen (wCons (woVar 5) (wNil)))) (wNil))))) wNil))) (wgN 9)
def w_L_kind_e4 (sp__law_kind : WF) : BV.WE :=
    wCall 4 sp__law_kind (wCons (woVar 0) (wCons (woVar 1) (wCons (woE (wRd (gInt cDiv (fun i j => i / j)) (wCons (woVar 2) (wCons (woE (wC (.int 4))) wNil)))) (wCons (woE (wRd (gInt (fun _ _ => true) (fun i j => i - j)) (wCons (woVar 3) (wCons (woE (wC (.int 1))) wNil)))) (wNil)))))
def w_L_kind_g4 : WG :=
    wgN 11
def w_L_kind_s11 (sp__law_kind : WF) : WS :=
    wAsg (wLc [11] (wiR1 (wvCons (wRd gIx (wCons (woVar 1) (wCons (woVar 9) wNil))) (wvNil))) (w_L_kind_g4) (wYes) (w_L_kind_e4 sp__law_kind)) (wgN 10)
def w_L_kind_s12 : WS :=
    wRet (wTup (wvCons (wC (.str ("named" : Str))) (wvCons (wVar 9) (wvCons (wRd gTuple (wCons (woVar 10) (wNil))) (wvNil)))))
def w_L_kind_s13 (sp__law_next : WF) (sp__law_kind : WF) : WS :=
    wIf (wAnd (wTV (wRd (gEq) (wCons (woVar 4) (wCons (woE (wC (.int 3))) wNil)))) (wTV (wRd (gNe) (wCons (woVar 5) (wCons (woE (wLst (wvNil))) wNil))))) (wSeq (w_L_kind_s10 sp__law_next)
    (wSeq (w_L_kind_s11 sp__law_kind)
    (w_L_kind_s12))) (wNext)
def w_L_kind_s14 (sp__law_kind : WF) : WS :=
    wAsg (wCall 4 sp__law_kind (wCons (woVar 0) (wCons (woVar 1) (wCons (woE (wRd (gInt cDiv (fun i j => i / j)) (wCons (woVar 2) (wCons (woE (wC (.int 2))) wNil)))) (wCons (woE (wRd (gInt (fun _ _ => true) (fun i j => i - j)) (wCons (woVar 3) (wCons (woE (wC (.int 1))) wNil)))) (wNil)))))) (wgN 6)
def w_L_kind_s15 (sp__law_kind : WF) : WS :=
    wRet (wTup (wvCons (wRd gIx (wCons (woE (wLst (wvCons (wC (.str ("to" : Str))) (wvCons (wC (.str ("pair" : Str))) (wvNil))))) (wCons (woE (wRd (gInt cPos (fun i j => i % j)) (wCons (woVar 4) (wCons (woE (wC (.int 2))) wNil)))) wNil))) (wvCons (wVar 6) (wvCons (wCall 4 sp__law_kind (wCons (woVar 0) (wCons (woVar 1) (wCons (woE (wRd (gInt cDiv (fun i j => i / j)) (wCons (woVar 2) (wCons (woE (wC (.int 2))) wNil)))) (wCons (woE (wRd (gInt (fun _ _ => true) (fun i j => i - j)) (wCons (woVar 3) (wCons (woE (wC (.int 1))) wNil)))) (wNil)))))) (wvNil)))))
def w_L_kind (sp__law_next : WF) (sp__law_name : WF) (sp__law_kind : WF) : WS :=
    wSeq (w_L_kind_s1 sp__law_next)
    (wSeq (w_L_kind_s6 sp__law_name sp__law_next)
    (wSeq (w_L_kind_s8 sp__law_kind)
    (wSeq (w_L_kind_s9)
    (wSeq (w_L_kind_s13 sp__law_next sp__law_kind)
    (wSeq (w_L_kind_s14 sp__law_kind)
    (w_L_kind_s15 sp__law_kind))))))
theorem d_L_kind {P : Program} {w : World} {K : PySem.W.Frag} {mg : Str → Option Value} {base : Heap} (B : Blt mg) {sp__law_next : WF} {k__law_next : Nat} (h__law_next : Fn P w K mg base "_law_next" k__law_next 2 sp__law_next) {sp__law_name : WF} {k__law_name : Nat} (h__law_name : Fn P w K mg base "_law_name" k__law_name 2 sp__law_name) {sp__law_kind : WF} {k__law_kind : Nat} (h__law_kind : Fn P w K mg base "_law_kind" k__law_kind 4 sp__law_kind) {k : Nat} (l__law_next : k__law_next ≤ k) (l__law_name : k__law_name ≤ k) (l__law_kind : k__law_kind ≤ k) (f : Addr) :
    ∀ (cdv : Value) (A : Around) (outer : List PySem.Env) (s : Shared) (H : Hp) (E : XK), Room k (A.deeper (envOfC "_law_kind" (defScope s_L_kind) s.heap.objs.size f cdv)) →
    PSs (cxOf (L2.CX P w) P w K mg base N_L_kind "_law_kind" (defScope s_L_kind) f cdv A outer s H E) (defBody s_L_kind) (tS K (fun c d _ H => E c d H) pr_L_kind (w_L_kind sp__law_next sp__law_name sp__law_kind)) := by
  intro cdv A outer s H E hr
  have hu := hu_of hr
  have hu64 := hr.units
  have tk := takes_of (X := cxOf (L2.CX P w) P w K mg base N_L_kind "_law_kind" (defScope s_L_kind) f cdv A outer s H E) (E := E) rfl rfl rfl rfl
  have po := passes_of (X := cxOf (L2.CX P w) P w K mg base N_L_kind "_law_kind" (defScope s_L_kind) f cdv A outer s H E) rfl
  exact (bss_cons (bs_set (i := 4) sc_L_kind.nd rfl (.inl rfl) (be_call h__law_next hr (by omega) tk rfl (ba_cons (bo_var (pv 0 rfl (.inr (.inl rfl)))) (ba_cons (bo_e (be_c (fun _ => .int _) pe_int)) ba_nil))))
    (bss_cons (bs_if (bt_w (bw_or (bt_lt (bo_var (pv 2 rfl (.inr (.inl rfl)))) (bo_e (be_c (fun _ => .int _) pe_int))) (bw_or (bt_lt (bo_var (pv 3 rfl (.inr (.inl rfl)))) (bo_e (be_c (fun _ => .int _) pe_int))) (bw_or1 (bt_lt (bo_var (pv 4 rfl (.inl rfl))) (bo_e (be_c (fun _ => .int _) pe_int))))))) (bss_cons (bs_setLcK (j := 7) rfl sc_L_kind.nd rfl rfl (sw_true rfl rfl rfl (by decide +kernel)) (pv 1 rfl (.inr (.inl rfl))) (blkOk_by (own := [(("_law_name_here" : Str), 9)]) (N := N_L_kind) (sc := defScope s_L_kind) (by decide +kernel)) rfl (by decide) (fun _ _ _ _ _ => (bg_N (pg_name (i := 9) sc_L_kind.nd rfl (.inl rfl)))) (fun _ _ _ _ _ => (bts_one (bt_eq hu64 (bo_e (be_ix hu (bo_var (pv 1)) (bo_var (pv 9 rfl (.inl rfl))))) (bo_e (be_c (fun _ => .int _) pe_int))))) (fun _ _ _ _ _ => (be_var (pv 9 rfl (.inl rfl)))))
    (bss_cons (bs_set (i := 8) sc_L_kind.nd rfl (.inl rfl) (be_lst (bv_cons (be_tup (bv_cons (be_c (fun _ => .str _) pe_str) bv_nil)) (bv_cons (be_tup (bv_cons (be_c (fun _ => .str _) pe_str) bv_nil)) (bv_cons (be_tup (bv_cons (be_c (fun _ => .str _) pe_str) (bv_cons (be_call h__law_name hr (by omega) tk rfl (ba_cons (bo_var (pv 0 rfl (.inr (.inl rfl)))) (ba_cons (bo_e (be_add (bo_e (be_c (fun _ => .int _) pe_int)) (bo_e (be_call h__law_next hr (by omega) tk rfl (ba_cons (bo_var (pv 0 rfl (.inr (.inl rfl)))) (ba_cons (bo_e (be_c (fun _ => .int _) pe_int)) ba_nil)))))) ba_nil))) bv_nil))) bv_nil)))))
    (bss_cons (bs_set (i := 8) sc_L_kind.nd rfl (.inl rfl) (be_add (bo_var (pv 8 rfl (.inl rfl))) (bo_e (be_lc rfl sc_L_kind.nd (bi_seq (be_var (pv 7 rfl (.inl rfl)))) (blkOk_by (own := [(("_law_name_here" : Str), 9)]) (N := N_L_kind) (sc := defScope s_L_kind) (by decide +kernel)) rfl (by decide) (fun _ _ _ _ _ => (bg_N (pg_name (i := 9) sc_L_kind.nd rfl (.inl rfl)))) (fun _ _ _ _ _ => bts_nil) (fun _ _ _ _ _ => (be_tup (bv_cons (be_c (fun _ => .str _) pe_str) (bv_cons (be_var (pv 9 rfl (.inl rfl))) (bv_cons (be_tup bv_nil) bv_nil)))))))))
    (bss_one (bs_ret (be_ix hu (bo_var (pv 8 rfl (.inl rfl))) (bo_e (be_call h__law_next hr (by omega) tk rfl (ba_cons (bo_var (pv 0 rfl (.inr (.inl rfl)))) (ba_cons (bo_e (be_len rfl B.len_ (ba_cons (bo_var (pv 8 rfl (.inl rfl))) ba_nil))) ba_nil)))))))))) bss_nil)
    (bss_cons (bs_if (bt_eq hu64 (bo_var (pv 4 rfl (.inl rfl))) (bo_e (be_c (fun _ => .int _) pe_int))) (bss_one (bs_ret (be_tup (bv_cons (be_c (fun _ => .str _) pe_str) (bv_cons (be_call h__law_kind hr (by omega) tk rfl (ba_cons (bo_var (pv 0 rfl (.inr (.inl rfl)))) (ba_cons (bo_var (pv 1 rfl (.inr (.inl rfl)))) (ba_cons (bo_e (be_sub (bo_var (pv 2 rfl (.inr (.inl rfl)))) (bo_e (be_c (fun _ => .int _) pe_int)))) (ba_cons (bo_e (be_sub (bo_var (pv 3 rfl (.inr (.inl rfl)))) (bo_e (be_c (fun _ => .int _) pe_int)))) ba_nil))))) bv_nil))))) bss_nil)
    (bss_cons (bs_setLcK (j := 5) rfl sc_L_kind.nd rfl rfl (sw_true rfl rfl rfl (by decide +kernel)) (pv 1 rfl (.inr (.inl rfl))) (blkOk_by (own := [(("_law_name_here" : Str), 9)]) (N := N_L_kind) (sc := defScope s_L_kind) (by decide +kernel)) rfl (by decide) (fun _ _ _ _ _ => (bg_N (pg_name (i := 9) sc_L_kind.nd rfl (.inl rfl)))) (fun _ _ _ _ _ => (bts_one (bt_w (bw_and (bt_gt (bo_e (be_ix hu (bo_var (pv 1)) (bo_var (pv 9 rfl (.inl rfl))))) (bo_e (be_c (fun _ => .int _) pe_int))) (bw_and1 (bt_lt (bo_e (be_mul (bo_e (be_c (fun _ => .int _) pe_int)) (bo_e (be_ix hu (bo_var (pv 1)) (bo_var (pv 9 rfl (.inl rfl))))))) (bo_var (pv 2)))))))) (fun _ _ _ _ _ => (be_var (pv 9 rfl (.inl rfl)))))
    (bss_cons (bs_if (bt_w (bw_and (bt_eq hu64 (bo_var (pv 4 rfl (.inl rfl))) (bo_e (be_c (fun _ => .int _) pe_int))) (bw_and1 (bt_ne hu64 (bo_var (pv 5 rfl (.inl rfl))) (bo_e (be_lst bv_nil)))))) (bss_cons (bs_set (i := 9) sc_L_kind.nd rfl (.inl rfl) (be_ix hu (bo_var (pv 5 rfl (.inl rfl))) (bo_e (be_call h__law_next hr (by omega) tk rfl (ba_cons (bo_var (pv 0 rfl (.inr (.inl rfl)))) (ba_cons (bo_e (be_len rfl B.len_ (ba_cons (bo_var (pv 5 rfl (.inl rfl))) ba_nil))) ba_nil))))))
    (bss_cons (bs_setLc (i := 10) rfl sc_L_kind.nd rfl rfl (sw_true rfl rfl rfl (by decide +kernel)) (bi_range1 rfl B.range_ (bv_cons (be_ix hu (bo_var (pv 1 rfl (.inr (.inl rfl)))) (bo_var (pv 9 rfl (.inl rfl)))) bv_nil)) (blkOk_by (own := [(("_law_k" : Str), 11)]) (N := N_L_kind) (sc := defScope s_L_kind) (by decide +kernel)) rfl (by decide) (fun _ _ _ _ _ => (bg_N (pg_name (i := 11) sc_L_kind.nd rfl (.inl rfl)))) (fun _ _ _ _ _ => bts_nil) (fun _ _ _ _ _ => (be_call h__law_kind hr (by omega) takes0 rfl (ba_cons (bo_var (pv 0)) (ba_cons (bo_var (pv 1)) (ba_cons (bo_e (be_div (bo_var (pv 2)) (bo_e (be_c (fun _ => .int _) pe_int)))) (ba_cons (bo_e (be_sub (bo_var (pv 3)) (bo_e (be_c (fun _ => .int _) pe_int)))) ba_nil)))))))
    (bss_one (bs_ret (be_tup (bv_cons (be_c (fun _ => .str _) pe_str) (bv_cons (be_var (pv 9 rfl (.inl rfl))) (bv_cons (be_tuple rfl B.tuple_ (ba_cons (bo_var (pv 10 rfl (.inl rfl))) ba_nil)) bv_nil)))))))) bss_nil)
    (bss_cons (bs_set (i := 6) sc_L_kind.nd rfl (.inl rfl) (be_call h__law_kind hr (by omega) tk rfl (ba_cons (bo_var (pv 0 rfl (.inr (.inl rfl)))) (ba_cons (bo_var (pv 1 rfl (.inr (.inl rfl)))) (ba_cons (bo_e (be_div (bo_var (pv 2 rfl (.inr (.inl rfl)))) (bo_e (be_c (fun _ => .int _) pe_int)))) (ba_cons (bo_e (be_sub (bo_var (pv 3 rfl (.inr (.inl rfl)))) (bo_e (be_c (fun _ => .int _) pe_int)))) ba_nil))))))
    (bss_one (bs_ret (be_tup (bv_cons (be_ix hu (bo_e (be_lst (bv_cons (be_c (fun _ => .str _) pe_str) (bv_cons (be_c (fun _ => .str _) pe_str) bv_nil)))) (bo_e (be_mod (bo_var (pv 4 rfl (.inl rfl))) (bo_e (be_c (fun _ => .int _) pe_int))))) (bv_cons (be_var (pv 6 rfl (.inl rfl))) (bv_cons (be_call h__law_kind hr (by omega) tk rfl (ba_cons (bo_var (pv 0 rfl (.inr (.inl rfl)))) (ba_cons (bo_var (pv 1 rfl (.inr (.inl rfl)))) (ba_cons (bo_e (be_div (bo_var (pv 2 rfl (.inr (.inl rfl)))) (bo_e (be_c (fun _ => .int _) pe_int)))) (ba_cons (bo_e (be_sub (bo_var (pv 3 rfl (.inr (.inl rfl)))) (bo_e (be_c (fun _ => .int _) pe_int)))) ba_nil))))) bv_nil))))))))))))
abbrev s_L_leaf : Stmt := topS 12
def N_L_leaf : List Str := ["_law_state", "_law_names", "_law_heads", "_law_n"]
theorem sc_L_leaf : FnScope N_L_leaf ["_law_state", "_law_names", "_law_heads"] (defScope s_L_leaf) := ⟨rfl, rfl, rfl, by decide +kernel, rfl, by decide +kernel, by decide +kernel⟩
def pr_L_leaf : Nat → Bool := fun i => [true, true, true].getD i false
theorem e_L_leaf (a0 a1 a2 : M) : env0 N_L_leaf [a0, a1, a2] = [some a0, some a1, some a2, none] := rfl
theorem o_L_leaf (x0 x1 x2 x3 : Option M) : outs pr_L_leaf 3 [x0, x1, x2, x3] = [x0, x1, x2] := rfl
def w_L_leaf_s1 (sp__law_next : WF) : WS :=
    wAsg (wCall 2 sp__law_next (wCons (woVar 0) (wCons (woE (wC (.int 6))) (wNil)))) (wgN 3)
def w_L_leaf_s2 (sp__law_next : WF) : WS :=
    wRet (wRd gIx (wCons (woE (wLst (wvCons (wTup (wvCons (wC (.str ("number" : Str))) (wvCons (wCall 2 sp__law_next (wCons (woVar 0) (wCons (woE (wC (.int 10))) (wNil)))) (wvNil)))) (wvCons (wTup (wvCons (wC (.str ("number" : Str))) (wvCons (wRd (gInt (fun _ _ => true) (fun i j => i - j)) (wCons (woE (wRd (gInt cPow (fun i j => i ^ j.toNat)) (wCons (woE (wC (.int 10))) (wCons (woE (wC (.int 12))) wNil)))) (wCons (woE (wC (.int 1))) wNil))) (wvNil)))) (wvCons (wTup (wvCons (wC (.str ("truth" : Str))) (wvCons (wRd (gEq) (wCons (woVar 3) (wCons (woE (wC (.int 1))) wNil))) (wvNil)))) (wvNil)))))) (wCons (woE (wCall 2 sp__law_next (wCons (woVar 0) (wCons (woE (wC (.int 3))) (wNil))))) wNil)))
def w_L_leaf_s3 (sp__law_next : WF) : WS :=
    wIf (wTV (wRd (gCmp pLt) (wCons (woVar 3) (wCons (woE (wC (.int 2))) wNil)))) (w_L_leaf_s2 sp__law_next) (wNext)
def w_L_leaf_s4 (sp__law_next : WF) : WS :=
    wRet (wTup (wvCons (wC (.str ("head" : Str))) (wvCons (wRd gIx (wCons (woVar 2) (wCons (woE (wCall 2 sp__law_next (wCons (woVar 0) (wCons (woE (wRd gLen (wCons (woVar 2) (wNil)))) (wNil))))) wNil))) (wvNil))))
def w_L_leaf_s5 (sp__law_next : WF) : WS :=
    wIf (wAnd (wTV (wRd (gEq) (wCons (woVar 3) (wCons (woE (wC (.int 2))) wNil)))) (wTV (wRd (gNe) (wCons (woVar 2) (wCons (woE (wLst (wvNil))) wNil))))) (w_L_leaf_s4 sp__law_next) (wNext)
def w_L_leaf_s6 (sp__law_next : WF) : WS :=
    wRet (wTup (wvCons (wC (.str ("name" : Str))) (wvCons (wRd gIx (wCons (woVar 1) (wCons (woE (wCall 2 sp__law_next (wCons (woVar 0) (wCons (woE (wRd gLen (wCons (woVar 1) (wNil)))) (wNil))))) wNil))) (wvNil))))
def w_L_leaf (sp__law_next : WF) : WS :=
    wSeq (w_L_leaf_s1 sp__law_next)
    (wSeq (w_L_leaf_s3 sp__law_next)
    (wSeq (w_L_leaf_s5 sp__law_next)
    (w_L_leaf_s6 sp__law_next)))
theorem d_L_leaf {P : Program} {w : World} {K : PySem.W.Frag} {mg : Str → Option Value} {base : Heap} (B : Blt mg) {sp__law_next : WF} {k__law_next : Nat} (h__law_next : Fn P w K mg base "_law_next" k__law_next 2 sp__law_next) {k : Nat} (l__law_next : k__law_next ≤ k) (f : Addr) :
    ∀ (cdv : Value) (A : Around) (outer : List PySem.Env) (s : Shared) (H : Hp) (E : XK), Room k (A.deeper (envOfC "_law_leaf" (defScope s_L_leaf) s.heap.objs.size f cdv)) →
    PSs (cxOf (L2.CX P w) P w K mg base N_L_leaf "_law_leaf" (defScope s_L_leaf) f cdv A outer s H E) (defBody s_L_leaf) (tS K (fun c d _ H => E c d H) pr_L_leaf (w_L_leaf sp__law_next)) := by
  intro cdv A outer s H E hr
  have hu := hu_of hr
  have hu64 := hr.units
  have tk := takes_of (X := cxOf (L2.CX P w) P w K mg base N_L_leaf "_law_leaf" (defScope s_L_leaf) f cdv A outer s H E) (E := E) rfl rfl rfl rfl
  have po := passes_of (X := cxOf (L2.CX P w) P w K mg base N_L_leaf "_law_leaf" (defScope s_L_leaf) f cdv A outer s H E) rfl
  exact (bss_cons (bs_set (i := 3) sc_L_leaf.nd rfl (.inl rfl) (be_call h__law_next hr (by omega) tk rfl (ba_cons (bo_var (pv 0 rfl (.inl rfl))) (ba_cons (bo_e (be_c (fun _ => .int _) pe_int)) ba_nil))))
    (bss_cons (bs_if (bt_lt (bo_var (pv 3 rfl (.inl rfl))) (bo_e (be_c (fun _ => .int _) pe_int))) (bss_one (bs_ret (be_ix hu (bo_e (be_lst (bv_cons (be_tup (bv_cons (be_c (fun _ => .str _) pe_str) (bv_cons (be_call h__law_next hr (by omega) tk rfl (ba_cons (bo_var (pv 0 rfl (.inl rfl))) (ba_cons (bo_e (be_c (fun _ => .int _) pe_int)) ba_nil))) bv_nil))) (bv_cons (be_tup (bv_cons (be_c (fun _ => .str _) pe_str) (bv_cons (be_sub (bo_e (be_pow (bo_e (be_c (fun _ => .int _) pe_int)) (bo_e (be_c (fun _ => .int _) pe_int)))) (bo_e (be_c (fun _ => .int _) pe_int))) bv_nil))) (bv_cons (be_tup (bv_cons (be_c (fun _ => .str _) pe_str) (bv_cons (be_eq hu64 (bo_var (pv 3 rfl (.inl rfl))) (bo_e (be_c (fun _ => .int _) pe_int))) bv_nil))) bv_nil))))) (bo_e (be_call h__law_next hr (by omega) tk rfl (ba_cons (bo_var (pv 0 rfl (.inl rfl))) (ba_cons (bo_e (be_c (fun _ => .int _) pe_int)) ba_nil))))))) bss_nil)
    (bss_cons (bs_if (bt_w (bw_and (bt_eq hu64 (bo_var (pv 3 rfl (.inl rfl))) (bo_e (be_c (fun _ => .int _) pe_int))) (bw_and1 (bt_ne hu64 (bo_var (pv 2 rfl (.inl rfl))) (bo_e (be_lst bv_nil)))))) (bss_one (bs_ret (be_tup (bv_cons (be_c (fun _ => .str _) pe_str) (bv_cons (be_ix hu (bo_var (pv 2 rfl (.inl rfl))) (bo_e (be_call h__law_next hr (by omega) tk rfl (ba_cons (bo_var (pv 0 rfl (.inl rfl))) (ba_cons (bo_e (be_len rfl B.len_ (ba_cons (bo_var (pv 2 rfl (.inl rfl))) ba_nil))) ba_nil))))) bv_nil))))) bss_nil)
    (bss_one (bs_ret (be_tup (bv_cons (be_c (fun _ => .str _) pe_str) (bv_cons (be_ix hu (bo_var (pv 1 rfl (.inl rfl))) (bo_e (be_call h__law_next hr (by omega) tk rfl (ba_cons (bo_var (pv 0 rfl (.inl rfl))) (ba_cons (bo_e (be_len rfl B.len_ (ba_cons (bo_var (pv 1 rfl (.inl rfl))) ba_nil))) ba_nil))))) bv_nil))))))))
abbrev s_L_pattern : Stmt := topS 13
def N_L_pattern : List Str := ["_law_state", "_law_heads", "_law_n", "_law_one", "_law_other", "_law_last", "_law_k"]
theorem sc_L_pattern : FnScope N_L_pattern ["_law_state", "_law_heads"] (defScope s_L_pattern) := ⟨rfl, rfl, rfl, by decide +kernel, rfl, by decide +kernel, by decide +kernel⟩
def pr_L_pattern : Nat → Bool := fun i => [true, true].getD i false
theorem e_L_pattern (a0 a1 : M) : env0 N_L_pattern [a0, a1] = [some a0, some a1, none, none, none, none, none] := rfl
theorem o_L_pattern (x0 x1 x2 x3 x4 x5 x6 : Option M) : outs pr_L_pattern 2 [x0, x1, x2, x3, x4, x5, x6] = [x0, x1] := rfl
def w_L_pattern_e1 (sp__law_name : WF) (sp__law_next : WF) : BV.WE :=
    wCall 2 sp__law_name (wCons (woVar 0) (wCons (woE (wRd (gAdd) (wCons (woE (wRd (gAdd) (wCons (woE (wC (.int 4))) (wCons (woE (wRd (gMul) (wCons (woE (wC (.int 4))) (wCons (woVar 6) wNil)))) wNil)))) (wCons (woE (wCall 2 sp__law_next (wCons (woVar 0) (wCons (woE (wC (.int 4))) (wNil))))) wNil)))) (wNil)))
def w_L_pattern_g1 : WG :=
    wgN 6
def w_L_pattern_s1 (sp__law_name : WF) (sp__law_next : WF) : WS :=
    wAsg (wLc [6] (wiR1 (wvCons (wC (.int 3)) (wvNil))) (w_L_pattern_g1) (wYes) (w_L_pattern_e1 sp__law_name sp__law_next)) (wgU (wgCons (wgN 3) (wgCons (wgN 4) (wgCons (wgN 5) (wgNil)))))
def w_L_pattern_s2 (sp__law_next : WF) : WS :=
    wAsg (wCall 2 sp__law_next (wCons (woVar 0) (wCons (woE (wC (.int 4))) (wNil)))) (wgN 2)
def w_L_pattern_s3 (sp__law_next : WF) : WS :=
    wRet (wTup (wvCons (wC (.str ("head" : Str))) (wvCons (wRd gIx (wCons (woVar 1) (wCons (woE (wCall 2 sp__law_next (wCons (woVar 0) (wCons (woE (wRd gLen (wCons (woVar 1) (wNil)))) (wNil))))) wNil))) (wvCons (wRd (sliceF false true) (wCons (woE (wTup (wvCons (wVar 3) (wvCons (wVar 4) (wvCons (wVar 5) (wvNil)))))) (wCons (woE (wCall 2 sp__law_next (wCons (woVar 0) (wCons (woE (wC (.int 4))) (wNil))))) wNil))) (wvNil)))))
def w_L_pattern_s4 (sp__law_next : WF) : WS :=
    wIf (wAnd (wTV (wRd (gEq) (wCons (woVar 2) (wCons (woE (wC (.int 3))) wNil)))) (wTV (wRd (gNe) (wCons (woVar 1) (wCons (woE (wLst (wvNil))) wNil))))) (w_L_pattern_s3 sp__law_next) (wNext)
def w_L_pattern_s5 : WS :=
    wRet (wRd gIx (wCons (woE (wLst (wvCons (wTup (wvCons (wC (.str ("empty" : Str))) (wvNil))) (wvCons (wTup (wvCons (wC (.str ("more" : Str))) (wvCons (wVar 3) (wvCons (wVar 4) (wvNil))))) (wvCons (wTup (wvCons (wC (.str ("both" : Str))) (wvCons (wVar 3) (wvCons (wVar 4) (wvNil))))) (wvCons (wTup (wvCons (wC (.str ("empty" : Str))) (wvNil))) (wvNil))))))) (wCons (woVar 2) wNil)))
def w_L_pattern (sp__law_name : WF) (sp__law_next : WF) : WS :=
    wSeq (w_L_pattern_s1 sp__law_name sp__law_next)
    (wSeq (w_L_pattern_s2 sp__law_next)
    (wSeq (w_L_pattern_s4 sp__law_next)
    (w_L_pattern_s5)))
theorem d_L_pattern {P : Program} {w : World} {K : PySem.W.Frag} {mg : Str → Option Value} {base : Heap} (B : Blt mg) {sp__law_name : WF} {k__law_name : Nat} (h__law_name : Fn P w K mg base "_law_name" k__law_name 2 sp__law_name) {sp__law_next : WF} {k__law_next : Nat} (h__law_next : Fn P w K mg base "_law_next" k__law_next 2 sp__law_next) {k : Nat} (l__law_name : k__law_name ≤ k) (l__law_next : k__law_next ≤ k) (f : Addr) :
    ∀ (cdv : Value) (A : Around) (outer : List PySem.Env) (s : Shared) (H : Hp) (E : XK), Room k (A.deeper (envOfC "_law_pattern" (defScope s_L_pattern) s.heap.objs.size f cdv)) →
    PSs (cxOf (L2.CX P w) P w K mg base N_L_pattern "_law_pattern" (defScope s_L_pattern) f cdv A outer s H E) (defBody s_L_pattern) (tS K (fun c d _ H => E c d H) pr_L_pattern (w_L_pattern sp__law_name sp__law_next)) := by
  intro cdv A outer s H E hr
  have hu := hu_of hr
  have hu64 := hr.units
  have tk := takes_of (X := cxOf (L2.CX P w) P w K mg base N_L_pattern "_law_pattern" (defScope s_L_pattern) f cdv A outer s H E) (E := E) rfl rfl rfl rfl
  have po := passes_of (X := cxOf (L2.CX P w) P w K mg base N_L_pattern "_law_pattern" (defScope s_L_pattern) f cdv A outer s H E) rfl
  exact (bss_cons (bs_asg (be_lc rfl sc_L_pattern.nd (bi_range1 rfl B.range_ (bv_cons (be_c (fun _ => .int _) pe_int) bv_nil)) (blkOk_by (own := [(("_law_k" : Str), 6)]) (N := N_L_pattern) (sc := defScope s_L_pattern) (by decide +kernel)) rfl (by decide) (fun _ _ _ _ _ => (bg_N (pg_name (i := 6) sc_L_pattern.nd rfl (.inl rfl)))) (fun _ _ _ _ _ => bts_nil) (fun _ _ _ _ _ => (be_call h__law_name hr (by omega) takes0 rfl (ba_cons (bo_var (pv 0)) (ba_cons (bo_e (be_add (bo_e (be_add (bo_e (be_c (fun _ => .int _) pe_int)) (bo_e (be_mul (bo_e (be_c (fun _ => .int _) pe_int)) (bo_var (pv 6 rfl (.inl rfl))))))) (bo_e (be_call h__law_next hr (by omega) takes0 rfl (ba_cons (bo_var (pv 0)) (ba_cons (bo_e (be_c (fun _ => .int _) pe_int)) ba_nil)))))) ba_nil))))) (bg_U rfl (bgs_cons (bg_N (pg_name (i := 3) sc_L_pattern.nd rfl (.inl rfl))) (bgs_cons (bg_N (pg_name (i := 4) sc_L_pattern.nd rfl (.inl rfl))) (bgs_cons (bg_N (pg_name (i := 5) sc_L_pattern.nd rfl (.inl rfl))) bgs_nil))) (wgCons_len wgN_in (wgCons_len wgN_in (wgCons_len wgN_in wgNil_len)))))
    (bss_cons (bs_set (i := 2) sc_L_pattern.nd rfl (.inl rfl) (be_call h__law_next hr (by omega) tk rfl (ba_cons (bo_var (pv 0 rfl (.inr (.inl rfl)))) (ba_cons (bo_e (be_c (fun _ => .int _) pe_int)) ba_nil))))
    (bss_cons (bs_if (bt_w (bw_and (bt_eq hu64 (bo_var (pv 2 rfl (.inl rfl))) (bo_e (be_c (fun _ => .int _) pe_int))) (bw_and1 (bt_ne hu64 (bo_var (pv 1 rfl (.inl rfl))) (bo_e (be_lst bv_nil)))))) (bss_one (bs_ret (be_tup (bv_cons (be_c (fun _ => .str _) pe_str) (bv_cons (be_ix hu (bo_var (pv 1 rfl (.inl rfl))) (bo_e (be_call h__law_next hr (by omega) tk rfl (ba_cons (bo_var (pv 0 rfl (.inr (.inl rfl)))) (ba_cons (bo_e (be_len rfl B.len_ (ba_cons (bo_var (pv 1 rfl (.inl rfl))) ba_nil))) ba_nil))))) (bv_cons (be_slH (bo_e (be_tup (bv_cons (be_var (pv 3 rfl (.inl rfl))) (bv_cons (be_var (pv 4 rfl (.inl rfl))) (bv_cons (be_var (pv 5 rfl (.inl rfl))) bv_nil))))) (bo_e (be_call h__law_next hr (by omega) tk rfl (ba_cons (bo_var (pv 0 rfl (.inr (.inl rfl)))) (ba_cons (bo_e (be_c (fun _ => .int _) pe_int)) ba_nil))))) bv_nil)))))) bss_nil)
    (bss_one (bs_ret (be_ix hu (bo_e (be_lst (bv_cons (be_tup (bv_cons (be_c (fun _ => .str _) pe_str) bv_nil)) (bv_cons (be_tup (bv_cons (be_c (fun _ => .str _) pe_str) (bv_cons (be_var (pv 3 rfl (.inl rfl))) (bv_cons (be_var (pv 4 rfl (.inl rfl))) bv_nil)))) (bv_cons (be_tup (bv_cons (be_c (fun _ => .str _) pe_str) (bv_cons (be_var (pv 3 rfl (.inl rfl))) (bv_cons (be_var (pv 4 rfl (.inl rfl))) bv_nil)))) (bv_cons (be_tup (bv_cons (be_c (fun _ => .str _) pe_str) bv_nil)) bv_nil)))))) (bo_var (pv 2 rfl (.inl rfl)))))))))
abbrev s_L_term : Stmt := topS 14
def N_L_term : List Str := ["_law_state", "_law_names", "_law_heads", "_law_room", "_law_deep", "_law_n", "_law_third", "_law_half", "_law_branches", "_law_few", "_law_k", "_law_one"]
theorem sc_L_term : FnScope N_L_term ["_law_state", "_law_names", "_law_heads", "_law_room", "_law_deep"] (defScope s_L_term) := ⟨rfl, rfl, rfl, by decide +kernel, rfl, by decide +kernel, by decide +kernel⟩
def pr_L_term : Nat → Bool := fun i => [true, true, true, true, true].getD i false
theorem e_L_term (a0 a1 a2 a3 a4 : M) : env0 N_L_term [a0, a1, a2, a3, a4] = [some a0, some a1, some a2, some a3, some a4, none, none, none, none, none, none, none] := rfl
theorem o_L_term (x0 x1 x2 x3 x4 x5 x6 x7 x8 x9 x10 x11 : Option M) : outs pr_L_term 5 [x0, x1, x2, x3, x4, x5, x6, x7, x8, x9, x10, x11] = [x0, x1, x2, x3, x4] := rfl
def w_L_term_s1 (sp__law_next : WF) : WS :=
    wAsg (wCall 2 sp__law_next (wCons (woVar 0) (wCons (woE (wC (.int 11))) (wNil)))) (wgN 5)
def w_L_term_s2 (sp__law_leaf : WF) : WS :=
    wRet (wCall 3 sp__law_leaf (wCons (woVar 0) (wCons (woVar 1) (wCons (woVar 2) (wNil)))))
def w_L_term_s3 (sp__law_leaf : WF) : WS :=
    wIf (wOr (wTV (wRd (gCmp pLt) (wCons (woVar 3) (wCons (woE (wC (.int 4))) wNil)))) (wOr (wTV (wRd (gCmp pLt) (wCons (woVar 4) (wCons (woE (wC (.int 2))) wNil)))) (wTV (wRd (gEq) (wCons (woVar 5) (wCons (woE (wC (.int 0))) wNil)))))) (w_L_term_s2 sp__law_leaf) (wNext)
def w_L_term_e1 (sp__law_term : WF) : BV.WE :=
    wCall 5 sp__law_term (wCons (woVar 0) (wCons (woVar 1) (wCons (woVar 2) (wCons (woE (wRd (gInt cDiv (fun i j => i / j)) (wCons (woE (wRd (gInt (fun _ _ => true) (fun i j => i - j)) (wCons (woVar 3) (wCons (woE (wC (.int 1))) wNil)))) (wCons (woE (wC (.int 3))) wNil)))) (wCons (woE (wRd (gInt (fun _ _ => true) (fun i j => i - j)) (wCons (woVar 4) (wCons (woE (wC (.int 1))) wNil)))) (wNil))))))
def w_L_term_g1 : WG :=
    wgN 10
def w_L_term_s4 (sp__law_term : WF) : WS :=
    wAsg (wLc [10] (wiR1 (wvCons (wC (.int 2)) (wvNil))) (w_L_term_g1) (wYes) (w_L_term_e1 sp__law_term)) (wgN 6)
def w_L_term_s5 (sp__law_term : WF) : WS :=
    wAsg (wCall 5 sp__law_term (wCons (woVar 0) (wCons (woVar 1) (wCons (woVar 2) (wCons (woE (wRd (gInt cDiv (fun i j => i / j)) (wCons (woE (wRd (gInt (fun _ _ => true) (fun i j => i - j)) (wCons (woVar 3) (wCons (woE (wC (.int 1))) wNil)))) (wCons (woE (wC (.int 3))) wNil)))) (wCons (woE (wRd (gInt (fun _ _ => true) (fun i j => i - j)) (wCons (woVar 4) (wCons (woE (wC (.int 1))) wNil)))) (wNil))))))) (wgN 7)
def w_L_term_s6 (sp__law_next : WF) : WS :=
    wRet (wTup (wvCons (wC (.str ("two" : Str))) (wvCons (wRd gIx (wCons (woE (wLst (wvCons (wC (.str ("<" : Str))) (wvCons (wC (.str ("=" : Str))) (wvCons (wC (.str ("::" : Str))) (wvCons (wC (.str ("+" : Str))) (wvCons (wC (.str ("-" : Str))) (wvCons (wC (.str ("*" : Str))) (wvNil))))))))) (wCons (woE (wCall 2 sp__law_next (wCons (woVar 0) (wCons (woE (wC (.int 6))) (wNil))))) wNil))) (wvCons (wRd gIx (wCons (woVar 6) (wCons (woE (wC (.int 0))) wNil))) (wvCons (wRd gIx (wCons (woVar 6) (wCons (woE (wC (.int 1))) wNil))) (wvNil))))))
def w_L_term_s7 (sp__law_next : WF) : WS :=
    wIf (wTV (wRd (gCmp pLt) (wCons (woVar 5) (wCons (woE (wC (.int 4))) wNil)))) (w_L_term_s6 sp__law_next) (wNext)
def w_L_term_s8 : WS :=
    wRet (wTup (wvCons (wC (.str ("call" : Str))) (wvCons (wRd gIx (wCons (woVar 6) (wCons (woE (wC (.int 0))) wNil))) (wvCons (wRd gIx (wCons (woVar 6) (wCons (woE (wC (.int 1))) wNil))) (wvNil)))))
def w_L_term_s9 : WS :=
    wIf (wTV (wRd (gCmp pLt) (wCons (woVar 5) (wCons (woE (wC (.int 6))) wNil)))) (w_L_term_s8) (wNext)
def w_L_term_s10 (sp__law_next : WF) : WS :=
    wRet (wTup (wvCons (wC (.str ("fn" : Str))) (wvCons (wRd gIx (wCons (woVar 1) (wCons (woE (wCall 2 sp__law_next (wCons (woVar 0) (wCons (woE (wRd gLen (wCons (woVar 1) (wNil)))) (wNil))))) wNil))) (wvCons (wVar 7) (wvNil)))))
def w_L_term_s11 (sp__law_next : WF) : WS :=
    wIf (wTV (wRd (gEq) (wCons (woVar 5) (wCons (woE (wC (.int 6))) wNil)))) (w_L_term_s10 sp__law_next) (wNext)
def w_L_term_s12 (sp__law_next : WF) : WS :=
    wRet (wTup (wvCons (wC (.str ("let" : Str))) (wvCons (wRd gIx (wCons (woVar 1) (wCons (woE (wCall 2 sp__law_next (wCons (woVar 0) (wCons (woE (wRd gLen (wCons (woVar 1) (wNil)))) (wNil))))) wNil))) (wvCons (wRd gIx (wCons (woVar 6) (wCons (woE (wC (.int 0))) wNil))) (wvCons (wRd gIx (wCons (woVar 6) (wCons (woE (wC (.int 1))) wNil))) (wvNil))))))
def w_L_term_s13 (sp__law_next : WF) : WS :=
    wIf (wTV (wRd (gEq) (wCons (woVar 5) (wCons (woE (wC (.int 7))) wNil)))) (w_L_term_s12 sp__law_next) (wNext)
def w_L_term_s14 : WS :=
    wRet (wTup (wvCons (wC (.str ("if" : Str))) (wvCons (wVar 7) (wvCons (wRd gIx (wCons (woVar 6) (wCons (woE (wC (.int 0))) wNil))) (wvCons (wRd gIx (wCons (woVar 6) (wCons (woE (wC (.int 1))) wNil))) (wvNil))))))
def w_L_term_s15 : WS :=
    wIf (wTV (wRd (gEq) (wCons (woVar 5) (wCons (woE (wC (.int 8))) wNil)))) (w_L_term_s14) (wNext)
def w_L_term_s16 (sp__law_next : WF) : WS :=
    wAsg (wRd gTuple (wCons (woE (wRd (sliceF false true) (wCons (woE (wRd (gAdd) (wCons (woVar 6) (wCons (woE (wLst (wvCons (wVar 7) (wvNil)))) wNil)))) (wCons (woE (wCall 2 sp__law_next (wCons (woVar 0) (wCons (woE (wC (.int 4))) (wNil))))) wNil)))) (wNil))) (wgN 9)
def w_L_term_s17 (sp__law_next : WF) : WS :=
    wRet (wRd gIx (wCons (woE (wLst (wvCons (wTup (wvCons (wC (.str ("pair" : Str))) (wvCons (wRd gIx (wCons (woVar 6) (wCons (woE (wC (.int 0))) wNil))) (wvCons (wRd gIx (wCons (woVar 6) (wCons (woE (wC (.int 1))) wNil))) (wvNil))))) (wvCons (wTup (wvCons (wC (.str ("list" : Str))) (wvCons (wVar 9) (wvNil)))) (wvNil))))) (wCons (woE (wCall 2 sp__law_next (wCons (woVar 0) (wCons (woE (wC (.int 2))) (wNil))))) wNil)))
def w_L_term_s18 (sp__law_next : WF) : WS :=
    wIf (wTV (wRd (gEq) (wCons (woVar 5) (wCons (woE (wC (.int 9))) wNil)))) (wSeq (w_L_term_s16 sp__law_next)
    (w_L_term_s17 sp__law_next)) (wNext)
def w_L_term_e2 (sp__law_pattern : WF) : BV.WE :=
    wTup (wvCons (wCall 2 sp__law_pattern (wCons (woVar 0) (wCons (woVar 2) (wNil)))) (wvCons (wVar 11) (wvNil)))
def w_L_term_g2 : WG :=
    wgN 11
def w_L_term_s19 (sp__law_next : WF) (sp__law_pattern : WF) : WS :=
    wAsg (wLc [11] (wiSeq (wRd (sliceF false true) (wCons (woVar 6) (wCons (woE (wRd (gAdd) (wCons (woE (wC (.int 1))) (wCons (woE (wCall 2 sp__law_next (wCons (woVar 0) (wCons (woE (wC (.int 2))) (wNil))))) wNil)))) wNil)))) (w_L_term_g2) (wYes) (w_L_term_e2 sp__law_pattern)) (wgN 8)
def w_L_term_s20 : WS :=
    wRet (wTup (wvCons (wC (.str ("case" : Str))) (wvCons (wVar 7) (wvCons (wRd gTuple (wCons (woVar 8) (wNil))) (wvNil)))))
def w_L_term (sp__law_next : WF) (sp__law_leaf : WF) (sp__law_term : WF) (sp__law_pattern : WF) : WS :=
    wSeq (w_L_term_s1 sp__law_next)
    (wSeq (w_L_term_s3 sp__law_leaf)
    (wSeq (w_L_term_s4 sp__law_term)
    (wSeq (w_L_term_s5 sp__law_term)
    (wSeq (w_L_term_s7 sp__law_next)
    (wSeq (w_L_term_s9)
    (wSeq (w_L_term_s11 sp__law_next)
    (wSeq (w_L_term_s13 sp__law_next)
    (wSeq (w_L_term_s15)
    (wSeq (w_L_term_s18 sp__law_next)
    (wSeq (w_L_term_s19 sp__law_next sp__law_pattern)
    (w_L_term_s20)))))))))))
theorem d_L_term {P : Program} {w : World} {K : PySem.W.Frag} {mg : Str → Option Value} {base : Heap} (B : Blt mg) {sp__law_next : WF} {k__law_next : Nat} (h__law_next : Fn P w K mg base "_law_next" k__law_next 2 sp__law_next) {sp__law_leaf : WF} {k__law_leaf : Nat} (h__law_leaf : Fn P w K mg base "_law_leaf" k__law_leaf 3 sp__law_leaf) {sp__law_term : WF} {k__law_term : Nat} (h__law_term : Fn P w K mg base "_law_term" k__law_term 5 sp__law_term) {sp__law_pattern : WF} {k__law_pattern : Nat} (h__law_pattern : Fn P w K mg base "_law_pattern" k__law_pattern 2 sp__law_pattern) {k : Nat} (l__law_next : k__law_next ≤ k) (l__law_leaf : k__law_leaf ≤ k) (l__law_term : k__law_term ≤ k) (l__law_pattern : k__law_pattern ≤ k) (f : Addr) :
    ∀ (cdv : Value) (A : Around) (outer : List PySem.Env) (s : Shared) (H : Hp) (E : XK), Room k (A.deeper (envOfC "_law_term" (defScope s_L_term) s.heap.objs.size f cdv)) →
    PSs (cxOf (L2.CX P w) P w K mg base N_L_term "_law_term" (defScope s_L_term) f cdv A outer s H E) (defBody s_L_term) (tS K (fun c d _ H => E c d H) pr_L_term (w_L_term sp__law_next sp__law_leaf sp__law_term sp__law_pattern)) := by
  intro cdv A outer s H E hr
  have hu := hu_of hr
  have hu64 := hr.units
  have tk := takes_of (X := cxOf (L2.CX P w) P w K mg base N_L_term "_law_term" (defScope s_L_term) f cdv A outer s H E) (E := E) rfl rfl rfl rfl
  have po := passes_of (X := cxOf (L2.CX P w) P w K mg base N_L_term "_law_term" (defScope s_L_term) f cdv A outer s H E) rfl
  exact (bss_cons (bs_set (i := 5) sc_L_term.nd rfl (.inl rfl) (be_call h__law_next hr (by omega) tk rfl (ba_cons (bo_var (pv 0 rfl (.inr (.inl rfl)))) (ba_cons (bo_e (be_c (fun _ => .int _) pe_int)) ba_nil))))
    (bss_cons (bs_if (bt_w (bw_or (bt_lt (bo_var (pv 3 rfl (.inr (.inl rfl)))) (bo_e (be_c (fun _ => .int _) pe_int))) (bw_or (bt_lt (bo_var (pv 4 rfl (.inr (.inl rfl)))) (bo_e (be_c (fun _ => .int _) pe_int))) (bw_or1 (bt_eq hu64 (bo_var (pv 5 rfl (.inl rfl))) (bo_e (be_c (fun _ => .int _) pe_int))))))) (bss_one (bs_ret (be_call h__law_leaf hr (by omega) tk rfl (ba_cons (bo_var (pv 0 rfl (.inr (.inl rfl)))) (ba_cons (bo_var (pv 1 rfl (.inr (.inl rfl)))) (ba_cons (bo_var (pv 2 rfl (.inr (.inl rfl)))) ba_nil)))))) bss_nil)
    (bss_cons (bs_setLc (i := 6) rfl sc_L_term.nd rfl rfl (sw_true rfl rfl rfl (by decide +kernel)) (bi_range1 rfl B.range_ (bv_cons (be_c (fun _ => .int _) pe_int) bv_nil)) (blkOk_by (own := [(("_law_k" : Str), 10)]) (N := N_L_term) (sc := defScope s_L_term) (by decide +kernel)) rfl (by decide) (fun _ _ _ _ _ => (bg_N (pg_name (i := 10) sc_L_term.nd rfl (.inl rfl)))) (fun _ _ _ _ _ => bts_nil) (fun _ _ _ _ _ => (be_call h__law_term hr (by omega) takes0 rfl (ba_cons (bo_var (pv 0)) (ba_cons (bo_var (pv 1)) (ba_cons (bo_var (pv 2)) (ba_cons (bo_e (be_div (bo_e (be_sub (bo_var (pv 3)) (bo_e (be_c (fun _ => .int _) pe_int)))) (bo_e (be_c (fun _ => .int _) pe_int)))) (ba_cons (bo_e (be_sub (bo_var (pv 4)) (bo_e (be_c (fun _ => .int _) pe_int)))) ba_nil))))))))
    (bss_cons (bs_set (i := 7) sc_L_term.nd rfl (.inl rfl) (be_call h__law_term hr (by omega) tk rfl (ba_cons (bo_var (pv 0 rfl (.inr (.inl rfl)))) (ba_cons (bo_var (pv 1 rfl (.inr (.inl rfl)))) (ba_cons (bo_var (pv 2 rfl (.inr (.inl rfl)))) (ba_cons (bo_e (be_div (bo_e (be_sub (bo_var (pv 3 rfl (.inr (.inl rfl)))) (bo_e (be_c (fun _ => .int _) pe_int)))) (bo_e (be_c (fun _ => .int _) pe_int)))) (ba_cons (bo_e (be_sub (bo_var (pv 4 rfl (.inr (.inl rfl)))) (bo_e (be_c (fun _ => .int _) pe_int)))) ba_nil)))))))
    (bss_cons (bs_if (bt_lt (bo_var (pv 5 rfl (.inl rfl))) (bo_e (be_c (fun _ => .int _) pe_int))) (bss_one (bs_ret (be_tup (bv_cons (be_c (fun _ => .str _) pe_str) (bv_cons (be_ix hu (bo_e (be_lst (bv_cons (be_c (fun _ => .str _) pe_str) (bv_cons (be_c (fun _ => .str _) pe_str) (bv_cons (be_c (fun _ => .str _) pe_str) (bv_cons (be_c (fun _ => .str _) pe_str) (bv_cons (be_c (fun _ => .str _) pe_str) (bv_cons (be_c (fun _ => .str _) pe_str) bv_nil)))))))) (bo_e (be_call h__law_next hr (by omega) tk rfl (ba_cons (bo_var (pv 0 rfl (.inr (.inl rfl)))) (ba_cons (bo_e (be_c (fun _ => .int _) pe_int)) ba_nil))))) (bv_cons (be_ix hu (bo_var (pv 6 rfl (.inl rfl))) (bo_e (be_c (fun _ => .int _) pe_int))) (bv_cons (be_ix hu (bo_var (pv 6 rfl (.inl rfl))) (bo_e (be_c (fun _ => .int _) pe_int))) bv_nil))))))) bss_nil)
    (bss_cons (bs_if (bt_lt (bo_var (pv 5 rfl (.inl rfl))) (bo_e (be_c (fun _ => .int _) pe_int))) (bss_one (bs_ret (be_tup (bv_cons (be_c (fun _ => .str _) pe_str) (bv_cons (be_ix hu (bo_var (pv 6 rfl (.inl rfl))) (bo_e (be_c (fun _ => .int _) pe_int))) (bv_cons (be_ix hu (bo_var (pv 6 rfl (.inl rfl))) (bo_e (be_c (fun _ => .int _) pe_int))) bv_nil)))))) bss_nil)
    (bss_cons (bs_if (bt_eq hu64 (bo_var (pv 5 rfl (.inl rfl))) (bo_e (be_c (fun _ => .int _) pe_int))) (bss_one (bs_ret (be_tup (bv_cons (be_c (fun _ => .str _) pe_str) (bv_cons (be_ix hu (bo_var (pv 1 rfl (.inr (.inl rfl)))) (bo_e (be_call h__law_next hr (by omega) tk rfl (ba_cons (bo_var (pv 0 rfl (.inr (.inl rfl)))) (ba_cons (bo_e (be_len rfl B.len_ (ba_cons (bo_var (pv 1 rfl (.inr (.inl rfl)))) ba_nil))) ba_nil))))) (bv_cons (be_var (pv 7 rfl (.inl rfl))) bv_nil)))))) bss_nil)
    (bss_cons (bs_if (bt_eq hu64 (bo_var (pv 5 rfl (.inl rfl))) (bo_e (be_c (fun _ => .int _) pe_int))) (bss_one (bs_ret (be_tup (bv_cons (be_c (fun _ => .str _) pe_str) (bv_cons (be_ix hu (bo_var (pv 1 rfl (.inr (.inl rfl)))) (bo_e (be_call h__law_next hr (by omega) tk rfl (ba_cons (bo_var (pv 0 rfl (.inr (.inl rfl)))) (ba_cons (bo_e (be_len rfl B.len_ (ba_cons (bo_var (pv 1 rfl (.inr (.inl rfl)))) ba_nil))) ba_nil))))) (bv_cons (be_ix hu (bo_var (pv 6 rfl (.inl rfl))) (bo_e (be_c (fun _ => .int _) pe_int))) (bv_cons (be_ix hu (bo_var (pv 6 rfl (.inl rfl))) (bo_e (be_c (fun _ => .int _) pe_int))) bv_nil))))))) bss_nil)
    (bss_cons (bs_if (bt_eq hu64 (bo_var (pv 5 rfl (.inl rfl))) (bo_e (be_c (fun _ => .int _) pe_int))) (bss_one (bs_ret (be_tup (bv_cons (be_c (fun _ => .str _) pe_str) (bv_cons (be_var (pv 7 rfl (.inl rfl))) (bv_cons (be_ix hu (bo_var (pv 6 rfl (.inl rfl))) (bo_e (be_c (fun _ => .int _) pe_int))) (bv_cons (be_ix hu (bo_var (pv 6 rfl (.inl rfl))) (bo_e (be_c (fun _ => .int _) pe_int))) bv_nil))))))) bss_nil)
    (bss_cons (bs_if (bt_eq hu64 (bo_var (pv 5 rfl (.inl rfl))) (bo_e (be_c (fun _ => .int _) pe_int))) (bss_cons (bs_set (i := 9) sc_L_term.nd rfl (.inl rfl) (be_tuple rfl B.tuple_ (ba_cons (bo_e (be_slH (bo_e (be_add (bo_var (pv 6 rfl (.inl rfl))) (bo_e (be_lst (bv_cons (be_var (pv 7 rfl (.inl rfl))) bv_nil))))) (bo_e (be_call h__law_next hr (by omega) tk rfl (ba_cons (bo_var (pv 0 rfl (.inr (.inl rfl)))) (ba_cons (bo_e (be_c (fun _ => .int _) pe_int)) ba_nil)))))) ba_nil)))
    (bss_one (bs_ret (be_ix hu (bo_e (be_lst (bv_cons (be_tup (bv_cons (be_c (fun _ => .str _) pe_str) (bv_cons (be_ix hu (bo_var (pv 6 rfl (.inl rfl))) (bo_e (be_c (fun _ => .int _) pe_int))) (bv_cons (be_ix hu (bo_var (pv 6 rfl (.inl rfl))) (bo_e (be_c (fun _ => .int _) pe_int))) bv_nil)))) (bv_cons (be_tup (bv_cons (be_c (fun _ => .str _) pe_str) (bv_cons (be_var (pv 9 rfl (.inl rfl))) bv_nil))) bv_nil)))) (bo_e (be_call h__law_next hr (by omega) tk rfl (ba_cons (bo_var (pv 0 rfl (.inr (.inl rfl)))) (ba_cons (bo_e (be_c (fun _ => .int _) pe_int)) ba_nil)))))))) bss_nil)
    (bss_cons (bs_setLc (i := 8) rfl sc_L_term.nd rfl rfl (sw_true rfl rfl rfl (by decide +kernel)) (bi_seq (be_slH (bo_var (pv 6 rfl (.inl rfl))) (bo_e (be_add (bo_e (be_c (fun _ => .int _) pe_int)) (bo_e (be_call h__law_next hr (by omega) tk rfl (ba_cons (bo_var (pv 0 rfl (.inr (.inl rfl)))) (ba_cons (bo_e (be_c (fun _ => .int _) pe_int)) ba_nil)))))))) (blkOk_by (own := [(("_law_one" : Str), 11)]) (N := N_L_term) (sc := defScope s_L_term) (by decide +kernel)) rfl (by decide) (fun _ _ _ _ _ => (bg_N (pg_name (i := 11) sc_L_term.nd rfl (.inl rfl)))) (fun _ _ _ _ _ => bts_nil) (fun _ _ _ _ _ => (be_tup (bv_cons (be_call h__law_pattern hr (by omega) takes0 rfl (ba_cons (bo_var (pv 0)) (ba_cons (bo_var (pv 2)) ba_nil))) (bv_cons (be_var (pv 11 rfl (.inl rfl))) bv_nil)))))
    (bss_one (bs_ret (be_tup (bv_cons (be_c (fun _ => .str _) pe_str) (bv_cons (be_var (pv 7 rfl (.inl rfl))) (bv_cons (be_tuple rfl B.tuple_ (ba_cons (bo_var (pv 8 rfl (.inl rfl))) ba_nil)) bv_nil)))))))))))))))))
abbrev s_L_inner : Stmt := topS 15
def N_L_inner : List Str := ["_law_term_here", "_law_sort", "_law_one", "_law_pattern_here"]
theorem sc_L_inner : FnScope N_L_inner ["_law_term_here"] (defScope s_L_inner) := ⟨rfl, rfl, rfl, by decide +kernel, rfl, by decide +kernel, by decide +kernel⟩
def pr_L_inner : Nat → Bool := fun i => [true].getD i false
theorem e_L_inner (a0 : M) : env0 N_L_inner [a0] = [some a0, none, none, none] := rfl
theorem o_L_inner (x0 x1 x2 x3 : Option M) : outs pr_L_inner 1 [x0, x1, x2, x3] = [x0] := rfl
def w_L_inner_s1 : WS :=
    wAsg (wRd gIx (wCons (woVar 0) (wCons (woE (wC (.int 0))) wNil))) (wgN 1)
def w_L_inner_e1 : BV.WE :=
    wVar 2
def w_L_inner_g1 : WG :=
    wgT (wgCons (wgN 3) (wgCons (wgN 2) (wgNil)))
def w_L_inner_s2 : WS :=
    wRet (wRd (gAdd) (wCons (woE (wLst (wvCons (wRd gIx (wCons (woVar 0) (wCons (woE (wC (.int 1))) wNil))) (wvNil)))) (wCons (woE (wLc [3, 2] (wiSeq (wRd gIx (wCons (woVar 0) (wCons (woE (wC (.int 2))) wNil)))) (w_L_inner_g1) (wYes) (w_L_inner_e1))) wNil)))
def w_L_inner_s3 : WS :=
    wIf (wTV (wRd (gEq) (wCons (woVar 1) (wCons (woE (wC (.str ("case" : Str)))) wNil)))) (w_L_inner_s2) (wNext)
def w_L_inner_e2 : BV.WE :=
    wVar 2
def w_L_inner_g2 : WG :=
    wgN 2
def w_L_inner_s4 : WS :=
    wRet (wLc [2] (wiSeq (wRd gIx (wCons (woVar 0) (wCons (woE (wC (.int 1))) wNil)))) (w_L_inner_g2) (wYes) (w_L_inner_e2))
def w_L_inner_s5 : WS :=
    wIf (wTV (wRd (gEq) (wCons (woVar 1) (wCons (woE (wC (.str ("list" : Str)))) wNil)))) (w_L_inner_s4) (wNext)
def w_L_inner_s6 : WS :=
    wIf (wTV (wRd (gIn) (wCons (woVar 1) (wCons (woE (wTup (wvCons (wC (.str ("number" : Str))) (wvCons (wC (.str ("truth" : Str))) (wvCons (wC (.str ("name" : Str))) (wvCons (wC (.str ("head" : Str))) (wvNil))))))) wNil)))) (wRet (wLst (wvNil))) (wNext)
def w_L_inner_e3 : BV.WE :=
    wVar 2
def w_L_inner_g3 : WG :=
    wgN 2
def w_L_inner_t3 : WT :=
    wNot (wTV (wRd gIsi (wCons (woVar 2) (wCons (woE (wC (.ty "str"))) (wNil)))))
def w_L_inner_s7 : WS :=
    wRet (wLc [2] (wiSeq (wRd (sliceF true false) (wCons (woVar 0) (wCons (woE (wC (.int 1))) wNil)))) (w_L_inner_g3) (w_L_inner_t3) (w_L_inner_e3))
def w_L_inner : WS :=
    wSeq (w_L_inner_s1)
    (wSeq (w_L_inner_s3)
    (wSeq (w_L_inner_s5)
    (wSeq (w_L_inner_s6)
    (w_L_inner_s7))))
theorem d_L_inner {P : Program} {w : World} {K : PySem.W.Frag} {mg : Str → Option Value} {base : Heap} (B : Blt mg) {k : Nat} (f : Addr) :
    ∀ (cdv : Value) (A : Around) (outer : List PySem.Env) (s : Shared) (H : Hp) (E : XK), Room k (A.deeper (envOfC "_law_inner" (defScope s_L_inner) s.heap.objs.size f cdv)) →
    PSs (cxOf (L2.CX P w) P w K mg base N_L_inner "_law_inner" (defScope s_L_inner) f cdv A outer s H E) (defBody s_L_inner) (tS K (fun c d _ H => E c d H) pr_L_inner (w_L_inner)) := by
  intro cdv A outer s H E hr
  have hu := hu_of hr
  have hu64 := hr.units
  have tk := takes_of (X := cxOf (L2.CX P w) P w K mg base N_L_inner "_law_inner" (defScope s_L_inner) f cdv A outer s H E) (E := E) rfl rfl rfl rfl
  have po := passes_of (X := cxOf (L2.CX P w) P w K mg base N_L_inner "_law_inner" (defScope s_L_inner) f cdv A outer s H E) rfl
  exact (bss_cons (bs_set (i := 1) sc_L_inner.nd rfl (.inl rfl) (be_ix hu (bo_var (pv 0 rfl (.inl rfl))) (bo_e (be_c (fun _ => .int _) pe_int))))
    (bss_cons (bs_if (bt_eq hu64 (bo_var (pv 1 rfl (.inl rfl))) (bo_e (be_c (fun _ => .str _) pe_str))) (bss_one (bs_ret (be_add (bo_e (be_lst (bv_cons (be_ix hu (bo_var (pv 0 rfl (.inl rfl))) (bo_e (be_c (fun _ => .int _) pe_int))) bv_nil))) (bo_e (be_lc rfl sc_L_inner.nd (bi_seq (be_ix hu (bo_var (pv 0 rfl (.inl rfl))) (bo_e (be_c (fun _ => .int _) pe_int)))) (blkOk_by (own := [(("_law_pattern_here" : Str), 3), (("_law_one" : Str), 2)]) (N := N_L_inner) (sc := defScope s_L_inner) (by decide +kernel)) rfl (by decide) (fun _ _ _ _ _ => (bg_T rfl (bgs_cons (bg_N (pg_name (i := 3) sc_L_inner.nd rfl (.inl rfl))) (bgs_cons (bg_N (pg_name (i := 2) sc_L_inner.nd rfl (.inl rfl))) bgs_nil)) (wgCons_len wgN_in (wgCons_len wgN_in wgNil_len)))) (fun _ _ _ _ _ => bts_nil) (fun _ _ _ _ _ => (be_var (pv 2 rfl (.inl rfl))))))))) bss_nil)
    (bss_cons (bs_if (bt_eq hu64 (bo_var (pv 1 rfl (.inl rfl))) (bo_e (be_c (fun _ => .str _) pe_str))) (bss_one (bs_ret (be_lc rfl sc_L_inner.nd (bi_seq (be_ix hu (bo_var (pv 0 rfl (.inl rfl))) (bo_e (be_c (fun _ => .int _) pe_int)))) (blkOk_by (own := [(("_law_one" : Str), 2)]) (N := N_L_inner) (sc := defScope s_L_inner) (by decide +kernel)) rfl (by decide) (fun _ _ _ _ _ => (bg_N (pg_name (i := 2) sc_L_inner.nd rfl (.inl rfl)))) (fun _ _ _ _ _ => bts_nil) (fun _ _ _ _ _ => (be_var (pv 2 rfl (.inl rfl))))))) bss_nil)
    (bss_cons (bs_if (bt_in hu (bo_var (pv 1 rfl (.inl rfl))) (bo_e (be_tup (bv_cons (be_c (fun _ => .str _) pe_str) (bv_cons (be_c (fun _ => .str _) pe_str) (bv_cons (be_c (fun _ => .str _) pe_str) (bv_cons (be_c (fun _ => .str _) pe_str) bv_nil))))))) (bss_one (bs_ret (be_lst bv_nil))) bss_nil)
    (bss_one (bs_ret (be_lc rfl sc_L_inner.nd (bi_seq (be_slL (bo_var (pv 0 rfl (.inl rfl))) (bo_e (be_c (fun _ => .int _) pe_int)))) (blkOk_by (own := [(("_law_one" : Str), 2)]) (N := N_L_inner) (sc := defScope s_L_inner) (by decide +kernel)) rfl (by decide) (fun _ _ _ _ _ => (bg_N (pg_name (i := 2) sc_L_inner.nd rfl (.inl rfl)))) (fun _ _ _ _ _ => (bts_one (bt_not (bt_val (be_isi rfl B.isinstance_ (ba_cons (bo_var (pv 2 rfl (.inl rfl))) (ba_cons (bo_e (be_c (v := .ty "str") (fun _ => .ty _) (pe_bltn rfl B.str_ boot_str rfl))) ba_nil))))))) (fun _ _ _ _ _ => (be_var (pv 2 rfl (.inl rfl)))))))))))
abbrev s_L_parts : Stmt := topS 16
def N_L_parts : List Str := ["_law_term_here", "_law_found", "_law_one"]
theorem sc_L_parts : FnScope N_L_parts ["_law_term_here"] (defScope s_L_parts) := ⟨rfl, rfl, rfl, by decide +kernel, rfl, by decide +kernel, by decide +kernel⟩
def pr_L_parts : Nat → Bool := fun i => [true].getD i false
theorem e_L_parts (a0 : M) : env0 N_L_parts [a0] = [some a0, none, none] := rfl
theorem o_L_parts (x0 x1 x2 : Option M) : outs pr_L_parts 1 [x0, x1, x2] = [x0] := rfl
def w_L_parts_s1 (sp__law_parts : WF) : WS :=
    wAsg (wRd (gAdd) (wCons (woVar 1) (wCons (woE (wCall 1 sp__law_parts (wCons (woVar 2) (wNil)))) wNil))) (wgN 1)
def w_L_parts_b1 (sp__law_parts : WF) : WS :=
    w_L_parts_s1 sp__law_parts
def w_L_parts_g1 : WG :=
    wgN 2
def w_L_parts_s2 (sp__law_inner : WF) (sp__law_parts : WF) : WS :=
    wFor (wiSeq (wCall 1 sp__law_inner (wCons (woVar 0) (wNil)))) (w_L_parts_g1) (w_L_parts_b1 sp__law_parts)
def w_L_parts (sp__law_inner : WF) (sp__law_parts : WF) : WS :=
    wSeq (wAsg (wLst (wvCons (wVar 0) (wvNil))) (wgN 1))
    (wSeq (w_L_parts_s2 sp__law_inner sp__law_parts)
    (wRet (wMove 1)))
theorem d_L_parts {P : Program} {w : World} {K : PySem.W.Frag} {mg : Str → Option Value} {base : Heap} (B : Blt mg) {sp__law_inner : WF} {k__law_inner : Nat} (h__law_inner : Fn P w K mg base "_law_inner" k__law_inner 1 sp__law_inner) {sp__law_parts : WF} {k__law_parts : Nat} (h__law_parts : Fn P w K mg base "_law_parts" k__law_parts 1 sp__law_parts) {k : Nat} (l__law_inner : k__law_inner ≤ k) (l__law_parts : k__law_parts ≤ k) (f : Addr) :
    ∀ (cdv : Value) (A : Around) (outer : List PySem.Env) (s : Shared) (H : Hp) (E : XK), Room k (A.deeper (envOfC "_law_parts" (defScope s_L_parts) s.heap.objs.size f cdv)) →
    PSs (cxOf (L2.CX P w) P w K mg base N_L_parts "_law_parts" (defScope s_L_parts) f cdv A outer s H E) (defBody s_L_parts) (tS K (fun c d _ H => E c d H) pr_L_parts (w_L_parts sp__law_inner sp__law_parts)) := by
  intro cdv A outer s H E hr
  have hu := hu_of hr
  have hu64 := hr.units
  have tk := takes_of (X := cxOf (L2.CX P w) P w K mg base N_L_parts "_law_parts" (defScope s_L_parts) f cdv A outer s H E) (E := E) rfl rfl rfl rfl
  have po := passes_of (X := cxOf (L2.CX P w) P w K mg base N_L_parts "_law_parts" (defScope s_L_parts) f cdv A outer s H E) rfl
  exact (bss_cons (bs_set (i := 1) sc_L_parts.nd rfl (.inl rfl) (be_lst (bv_cons (be_var (pv 0 rfl (.inl rfl))) bv_nil)))
    (bss_cons (bs_for po rfl (bi_seq (be_call h__law_inner hr (by omega) tk rfl (ba_cons (bo_var (pv 0 rfl (.inl rfl))) ba_nil))) (bg_N (pg_name (i := 2) sc_L_parts.nd rfl (.inl rfl))) (bss_one (bs_set (i := 1) sc_L_parts.nd rfl (.inl rfl) (be_add (bo_var (pv 1 rfl (.inl rfl))) (bo_e (be_call h__law_parts hr (by omega) tk rfl (ba_cons (bo_var (pv 2 rfl (.inl rfl))) ba_nil)))))))
    (bss_one (bs_ret (be_move (pv 1 rfl (.inl rfl)))))))
abbrev s_L_kind_inner : Stmt := topS 17
def N_L_kind_inner : List Str := ["_law_kind_here"]
theorem sc_L_kind_inner : FnScope N_L_kind_inner ["_law_kind_here"] (defScope s_L_kind_inner) := ⟨rfl, rfl, rfl, by decide +kernel, rfl, by decide +kernel, by decide +kernel⟩
def pr_L_kind_inner : Nat → Bool := fun i => [true].getD i false
theorem e_L_kind_inner (a0 : M) : env0 N_L_kind_inner [a0] = [some a0] := rfl
theorem o_L_kind_inner (x0 : Option M) : outs pr_L_kind_inner 1 [x0] = [x0] := rfl
def w_L_kind_inner_s1 : WS :=
    wIf (wTV (wRd (gEq) (wCons (woE (wRd gIx (wCons (woVar 0) (wCons (woE (wC (.int 0))) wNil)))) (wCons (woE (wC (.str ("letter" : Str)))) wNil)))) (wRet (wLst (wvNil))) (wNext)
def w_L_kind_inner_s2 : WS :=
    wRet (wIfE (wTV (wRd (gEq) (wCons (woE (wRd gIx (wCons (woVar 0) (wCons (woE (wC (.int 0))) wNil)))) (wCons (woE (wC (.str ("named" : Str)))) wNil)))) (wRd gList (wCons (woE (wRd gIx (wCons (woVar 0) (wCons (woE (wC (.int 2))) wNil)))) (wNil))) (wRd gList (wCons (woE (wRd (sliceF true false) (wCons (woVar 0) (wCons (woE (wC (.int 1))) wNil)))) (wNil))))
def w_L_kind_inner : WS :=
    wSeq (w_L_kind_inner_s1)
    (w_L_kind_inner_s2)
theorem d_L_kind_inner {P : Program} {w : World} {K : PySem.W.Frag} {mg : Str → Option Value} {base : Heap} (B : Blt mg) {k : Nat} (f : Addr) :
    ∀ (cdv : Value) (A : Around) (outer : List PySem.Env) (s : Shared) (H : Hp) (E : XK), Room k (A.deeper (envOfC "_law_kind_inner" (defScope s_L_kind_inner) s.heap.objs.size f cdv)) →
    PSs (cxOf (L2.CX P w) P w K mg base N_L_kind_inner "_law_kind_inner" (defScope s_L_kind_inner) f cdv A outer s H E) (defBody s_L_kind_inner) (tS K (fun c d _ H => E c d H) pr_L_kind_inner (w_L_kind_inner)) := by
  intro cdv A outer s H E hr
  have hu := hu_of hr
  have hu64 := hr.units
  have tk := takes_of (X := cxOf (L2.CX P w) P w K mg base N_L_kind_inner "_law_kind_inner" (defScope s_L_kind_inner) f cdv A outer s H E) (E := E) rfl rfl rfl rfl
  have po := passes_of (X := cxOf (L2.CX P w) P w K mg base N_L_kind_inner "_law_kind_inner" (defScope s_L_kind_inner) f cdv A outer s H E) rfl
  exact (bss_cons (bs_if (bt_eq hu64 (bo_e (be_ix hu (bo_var (pv 0 rfl (.inl rfl))) (bo_e (be_c (fun _ => .int _) pe_int)))) (bo_e (be_c (fun _ => .str _) pe_str))) (bss_one (bs_ret (be_lst bv_nil))) bss_nil)
    (bss_one (bs_ret (be_ifE (bt_eq hu64 (bo_e (be_ix hu (bo_var (pv 0 rfl (.inl rfl))) (bo_e (be_c (fun _ => .int _) pe_int)))) (bo_e (be_c (fun _ => .str _) pe_str))) (be_list rfl rfl B.list_ (ba_cons (bo_e (be_ix hu (bo_var (pv 0 rfl (.inl rfl))) (bo_e (be_c (fun _ => .int _) pe_int)))) ba_nil)) (be_list rfl rfl B.list_ (ba_cons (bo_e (be_slL (bo_var (pv 0 rfl (.inl rfl))) (bo_e (be_c (fun _ => .int _) pe_int)))) ba_nil))))))
abbrev s_L_kind_parts : Stmt := topS 18
def N_L_kind_parts : List Str := ["_law_kind_here", "_law_found", "_law_one"]
theorem sc_L_kind_parts : FnScope N_L_kind_parts ["_law_kind_here"] (defScope s_L_kind_parts) := ⟨rfl, rfl, rfl, by decide +kernel, rfl, by decide +kernel, by decide +kernel⟩
def pr_L_kind_parts : Nat → Bool := fun i => [true].getD i false
theorem e_L_kind_parts (a0 : M) : env0 N_L_kind_parts [a0] = [some a0, none, none] := rfl
theorem o_L_kind_parts (x0 x1 x2 : Option M) : outs pr_L_kind_parts 1 [x0, x1, x2] = [x0] := rfl
def w_L_kind_parts_s1 (sp__law_kind_parts : WF) : WS :=
    wAsg (wRd (gAdd) (wCons (woVar 1) (wCons (woE (wCall 1 sp__law_kind_parts (wCons (woVar 2) (wNil)))) wNil))) (wgN 1)
def w_L_kind_parts_b1 (sp__law_kind_parts : WF) : WS :=
    w_L_kind_parts_s1 sp__law_kind_parts
def w_L_kind_parts_g1 : WG :=
    wgN 2
def w_L_kind_parts_s2 (sp__law_kind_inner : WF) (sp__law_kind_parts : WF) : WS :=
    wFor (wiSeq (wCall 1 sp__law_kind_inner (wCons (woVar 0) (wNil)))) (w_L_kind_parts_g1) (w_L_kind_parts_b1 sp__law_kind_parts)
def w_L_kind_parts (sp__law_kind_inner : WF) (sp__law_kind_parts : WF) : WS :=
    wSeq (wAsg (wLst (wvCons (wVar 0) (wvNil))) (wgN 1))
    (wSeq (w_L_kind_parts_s2 sp__law_kind_inner sp__law_kind_parts)
    (wRet (wMove 1)))
theorem d_L_kind_parts {P : Program} {w : World} {K : PySem.W.Frag} {mg : Str → Option Value} {base : Heap} (B : Blt mg) {sp__law_kind_inner : WF} {k__law_kind_inner : Nat} (h__law_kind_inner : Fn P w K mg base "_law_kind_inner" k__law_kind_inner 1 sp__law_kind_inner) {sp__law_kind_parts : WF} {k__law_kind_parts : Nat} (h__law_kind_parts : Fn P w K mg base "_law_kind_parts" k__law_kind_parts 1 sp__law_kind_parts) {k : Nat} (l__law_kind_inner : k__law_kind_inner ≤ k) (l__law_kind_parts : k__law_kind_parts ≤ k) (f : Addr) :
    ∀ (cdv : Value) (A : Around) (outer : List PySem.Env) (s : Shared) (H : Hp) (E : XK), Room k (A.deeper (envOfC "_law_kind_parts" (defScope s_L_kind_parts) s.heap.objs.size f cdv)) →
    PSs (cxOf (L2.CX P w) P w K mg base N_L_kind_parts "_law_kind_parts" (defScope s_L_kind_parts) f cdv A outer s H E) (defBody s_L_kind_parts) (tS K (fun c d _ H => E c d H) pr_L_kind_parts (w_L_kind_parts sp__law_kind_inner sp__law_kind_parts)) := by
  intro cdv A outer s H E hr
  have hu := hu_of hr
  have hu64 := hr.units
  have tk := takes_of (X := cxOf (L2.CX P w) P w K mg base N_L_kind_parts "_law_kind_parts" (defScope s_L_kind_parts) f cdv A outer s H E) (E := E) rfl rfl rfl rfl
  have po := passes_of (X := cxOf (L2.CX P w) P w K mg base N_L_kind_parts "_law_kind_parts" (defScope s_L_kind_parts) f cdv A outer s H E) rfl
  exact (bss_cons (bs_set (i := 1) sc_L_kind_parts.nd rfl (.inl rfl) (be_lst (bv_cons (be_var (pv 0 rfl (.inl rfl))) bv_nil)))
    (bss_cons (bs_for po rfl (bi_seq (be_call h__law_kind_inner hr (by omega) tk rfl (ba_cons (bo_var (pv 0 rfl (.inl rfl))) ba_nil))) (bg_N (pg_name (i := 2) sc_L_kind_parts.nd rfl (.inl rfl))) (bss_one (bs_set (i := 1) sc_L_kind_parts.nd rfl (.inl rfl) (be_add (bo_var (pv 1 rfl (.inl rfl))) (bo_e (be_call h__law_kind_parts hr (by omega) tk rfl (ba_cons (bo_var (pv 2 rfl (.inl rfl))) ba_nil)))))))
    (bss_one (bs_ret (be_move (pv 1 rfl (.inl rfl)))))))
abbrev s_L_again : Stmt := topS 19
def N_L_again : List Str := ["_law_call", "_law_thing", "_law_due", "_law_turn", "_law_found"]
theorem sc_L_again : FnScope N_L_again ["_law_call", "_law_thing", "_law_due"] (defScope s_L_again) := ⟨rfl, rfl, rfl, by decide +kernel, rfl, by decide +kernel, by decide +kernel⟩
def pr_L_again : Nat → Bool := fun i => [true, true, true].getD i false
theorem e_L_again (a0 a1 a2 : M) : env0 N_L_again [a0, a1, a2] = [some a0, some a1, some a2, none, none] := rfl
theorem o_L_again (x0 x1 x2 x3 x4 : Option M) : outs pr_L_again 3 [x0, x1, x2, x3, x4] = [x0, x1, x2] := rfl
def w_L_again_s1 (S__law_call : Addr → Option WF) : WS :=
    wAsg (wCallV 0 S__law_call 1 (wCons (woVar 1) (wNil))) (wgN 4)
def w_L_again_s2 : WS :=
    wIf (wOr (wNot (wTV (wRd gIsi (wCons (woVar 4) (wCons (woE (wC (.ty "list"))) (wNil)))))) (wTV (wRd (gNe) (wCons (woVar 4) (wCons (woVar 2) wNil))))) (wRet (wC (.bl false))) (wNext)
def w_L_again_s3 : WS :=
    wDrop (wMeth isL 4 gAppend (wvCons (wC (.str ("more" : Str))) (wvNil)))
def w_L_again_b1 (S__law_call : Addr → Option WF) : WS :=
    wSeq (w_L_again_s1 S__law_call)
    (wSeq (w_L_again_s2)
    (w_L_again_s3))
def w_L_again_g1 : WG :=
    wgN 3
def w_L_again_s4 (S__law_call : Addr → Option WF) : WS :=
    wFor (wiR1 (wvCons (wC (.int 2)) (wvNil))) (w_L_again_g1) (w_L_again_b1 S__law_call)
def w_L_again (S__law_call : Addr → Option WF) : WS :=
    wSeq (w_L_again_s4 S__law_call)
    (wRet (wC (.bl true)))
theorem d_L_again {P : Program} {w : World} {K : PySem.W.Frag} {mg : Str → Option Value} {base : Heap} (B : Blt mg) {S__law_call : Addr → Option WF} {K__law_call : Nat} (H__law_call : ∀ f sp, S__law_call f = some sp → FnAt P w K mg base f K__law_call 1 sp) {k : Nat} (L__law_call : K__law_call ≤ k) (f : Addr) :
    ∀ (cdv : Value) (A : Around) (outer : List PySem.Env) (s : Shared) (H : Hp) (E : XK), Room k (A.deeper (envOfC "_law_again" (defScope s_L_again) s.heap.objs.size f cdv)) →
    PSs (cxOf (L2.CX P w) P w K mg base N_L_again "_law_again" (defScope s_L_again) f cdv A outer s H E) (defBody s_L_again) (tS K (fun c d _ H => E c d H) pr_L_again (w_L_again S__law_call)) := by
  intro cdv A outer s H E hr
  have hu := hu_of hr
  have hu64 := hr.units
  have tk := takes_of (X := cxOf (L2.CX P w) P w K mg base N_L_again "_law_again" (defScope s_L_again) f cdv A outer s H E) (E := E) rfl rfl rfl rfl
  have po := passes_of (X := cxOf (L2.CX P w) P w K mg base N_L_again "_law_again" (defScope s_L_again) f cdv A outer s H E) rfl
  exact (bss_cons (bs_for po rfl (bi_range1 rfl B.range_ (bv_cons (be_c (fun _ => .int _) pe_int) bv_nil)) (bg_N (pg_name (i := 3) sc_L_again.nd rfl (.inl rfl))) (bss_cons (bs_set (i := 4) sc_L_again.nd rfl (.inl rfl) (be_callv H__law_call hr (by omega) tk rfl (.inl rfl) (ba_cons (bo_var (pv 1 rfl (.inl rfl))) ba_nil)))
    (bss_cons (bs_if (bt_w (bw_or (bt_not (bt_val (be_isi rfl B.isinstance_ (ba_cons (bo_var (pv 4 rfl (.inl rfl))) (ba_cons (bo_e (be_c (v := .ty "list") (fun _ => .ty _) (pe_bltn rfl B.list_ boot_list rfl))) ba_nil))))) (bw_or1 (bt_ne hu64 (bo_var (pv 4 rfl (.inl rfl))) (bo_var (pv 2 rfl (.inl rfl))))))) (bss_one (bs_ret (be_c (fun _ => .bl _) pe_bl))) bss_nil)
    (bss_one (bs_drop (be_append (pv 4 rfl (.inl rfl)) (bv_cons (be_c (fun _ => .str _) pe_str) bv_nil)))))))
    (bss_one (bs_ret (be_c (fun _ => .bl _) pe_bl))))
abbrev s_L_far_right : Stmt := topS 20
def N_L_far_right : List Str := ["_law_state", "_law_name_here", "_law_term_here", "_law_kind_here", "_law_k"]
theorem sc_L_far_right : FnScope N_L_far_right ["_law_state"] (defScope s_L_far_right) := ⟨rfl, rfl, rfl, by decide +kernel, rfl, by decide +kernel, by decide +kernel⟩
def pr_L_far_right : Nat → Bool := fun i => [true].getD i false
theorem e_L_far_right (a0 : M) : env0 N_L_far_right [a0] = [some a0, none, none, none, none] := rfl
theorem o_L_far_right (x0 x1 x2 x3 x4 : Option M) : outs pr_L_far_right 1 [x0, x1, x2, x3, x4] = [x0] := rfl
def w_L_far_right_s1 (sp__law_name : WF) : WS :=
    wAsg (wCall 2 sp__law_name (wCons (woVar 0) (wCons (woE (wC (.int 3))) (wNil)))) (wgN 1)
def w_L_far_right_s2 : WS :=
    wAsg (wTup (wvCons (wC (.str ("name" : Str))) (wvCons (wVar 1) (wvNil)))) (wgN 2)
def w_L_far_right_s3 : WS :=
    wAsg (wTup (wvCons (wC (.str ("letter" : Str))) (wvCons (wVar 1) (wvNil)))) (wgN 3)
def w_L_far_right_s4 : WS :=
    wAsg (wRd gIx (wCons (woE (wLst (wvCons (wTup (wvCons (wC (.str ("two" : Str))) (wvCons (wC (.str ("+" : Str))) (wvCons (wVar 2) (wvCons (wTup (wvCons (wC (.str ("number" : Str))) (wvCons (wVar 4) (wvNil)))) (wvNil)))))) (wvCons (wTup (wvCons (wC (.str ("fn" : Str))) (wvCons (wVar 1) (wvCons (wVar 2) (wvNil))))) (wvCons (wTup (wvCons (wC (.str ("list" : Str))) (wvCons (wTup (wvCons (wVar 2) (wvNil))) (wvNil)))) (wvNil)))))) (wCons (woE (wRd (gInt cPos (fun i j => i % j)) (wCons (woVar 4) (wCons (woE (wC (.int 3))) wNil)))) wNil))) (wgN 2)
def w_L_far_right_s5 : WS :=
    wAsg (wRd gIx (wCons (woE (wLst (wvCons (wTup (wvCons (wC (.str ("to" : Str))) (wvCons (wVar 3) (wvCons (wTup (wvCons (wC (.str ("number" : Str))) (wvNil))) (wvNil))))) (wvCons (wTup (wvCons (wC (.str ("list" : Str))) (wvCons (wVar 3) (wvNil)))) (wvCons (wTup (wvCons (wC (.str ("pair" : Str))) (wvCons (wTup (wvCons (wC (.str ("truth" : Str))) (wvNil))) (wvCons (wVar 3) (wvNil))))) (wvNil)))))) (wCons (woE (wRd (gInt cPos (fun i j => i % j)) (wCons (woVar 4) (wCons (woE (wC (.int 3))) wNil)))) wNil))) (wgN 3)
def w_L_far_right_b1 : WS :=
    wSeq (w_L_far_right_s4)
    (w_L_far_right_s5)
def w_L_far_right_g1 : WG :=
    wgN 4
def w_L_far_right_s6 : WS :=
    wFor (wiR1 (wvCons (wC (.int 299)) (wvNil))) (w_L_far_right_g1) (w_L_far_right_b1)
def w_L_far_right_s7 (sp_size_of : WF) (sp_letters_in : WF) : WS :=
    wIf (wOr (wTV (wRd (gNe) (wCons (woE (wCall 1 sp_size_of (wCons (woVar 3) (wNil)))) (wCons (woE (wC (.int 499))) wNil)))) (wTV (wRd (gNe) (wCons (woE (wCall 1 sp_letters_in (wCons (woVar 3) (wNil)))) (wCons (woE (wLst (wvCons (wVar 1) (wvNil)))) wNil))))) (wRet (wC (.bl false))) (wNext)
def w_L_far_right_s8 (sp_parts_of : WF) : WS :=
    wRet (wRd (gEq) (wCons (woE (wRd gLen (wCons (woE (wCall 1 sp_parts_of (wCons (woVar 2) (wNil)))) (wNil)))) (wCons (woE (wC (.int 400))) wNil)))
def w_L_far_right (sp__law_name : WF) (sp_size_of : WF) (sp_letters_in : WF) (sp_parts_of : WF) : WS :=
    wSeq (w_L_far_right_s1 sp__law_name)
    (wSeq (w_L_far_right_s2)
    (wSeq (w_L_far_right_s3)
    (wSeq (w_L_far_right_s6)
    (wSeq (w_L_far_right_s7 sp_size_of sp_letters_in)
    (w_L_far_right_s8 sp_parts_of)))))
theorem d_L_far_right {P : Program} {w : World} {K : PySem.W.Frag} {mg : Str → Option Value} {base : Heap} (B : Blt mg) {sp__law_name : WF} {k__law_name : Nat} (h__law_name : Fn P w K mg base "_law_name" k__law_name 2 sp__law_name) {sp_size_of : WF} {k_size_of : Nat} (h_size_of : Fn P w K mg base "size_of" k_size_of 1 sp_size_of) {sp_letters_in : WF} {k_letters_in : Nat} (h_letters_in : Fn P w K mg base "letters_in" k_letters_in 1 sp_letters_in) {sp_parts_of : WF} {k_parts_of : Nat} (h_parts_of : Fn P w K mg base "parts_of" k_parts_of 1 sp_parts_of) {k : Nat} (l__law_name : k__law_name ≤ k) (l_size_of : k_size_of ≤ k) (l_letters_in : k_letters_in ≤ k) (l_parts_of : k_parts_of ≤ k) (f : Addr) :
    ∀ (cdv : Value) (A : Around) (outer : List PySem.Env) (s : Shared) (H : Hp) (E : XK), Room k (A.deeper (envOfC "_law_far_right" (defScope s_L_far_right) s.heap.objs.size f cdv)) →
    PSs (cxOf (L2.CX P w) P w K mg base N_L_far_right "_law_far_right" (defScope s_L_far_right) f cdv A outer s H E) (defBody s_L_far_right) (tS K (fun c d _ H => E c d H) pr_L_far_right (w_L_far_right sp__law_name sp_size_of sp_letters_in sp_parts_of)) := by
  intro cdv A outer s H E hr
  have hu := hu_of hr
  have hu64 := hr.units
  have tk := takes_of (X := cxOf (L2.CX P w) P w K mg base N_L_far_right "_law_far_right" (defScope s_L_far_right) f cdv A outer s H E) (E := E) rfl rfl rfl rfl
  have po := passes_of (X := cxOf (L2.CX P w) P w K mg base N_L_far_right "_law_far_right" (defScope s_L_far_right) f cdv A outer s H E) rfl
  exact (bss_cons (bs_set (i := 1) sc_L_far_right.nd rfl (.inl rfl) (be_call h__law_name hr (by omega) tk rfl (ba_cons (bo_var (pv 0 rfl (.inl rfl))) (ba_cons (bo_e (be_c (fun _ => .int _) pe_int)) ba_nil))))
    (bss_cons (bs_set (i := 2) sc_L_far_right.nd rfl (.inl rfl) (be_tup (bv_cons (be_c (fun _ => .str _) pe_str) (bv_cons (be_var (pv 1 rfl (.inl rfl))) bv_nil))))
    (bss_cons (bs_set (i := 3) sc_L_far_right.nd rfl (.inl rfl) (be_tup (bv_cons (be_c (fun _ => .str _) pe_str) (bv_cons (be_var (pv 1 rfl (.inl rfl))) bv_nil))))
    (bss_cons (bs_for po rfl (bi_range1 rfl B.range_ (bv_cons (be_c (fun _ => .int _) pe_int) bv_nil)) (bg_N (pg_name (i := 4) sc_L_far_right.nd rfl (.inl rfl))) (bss_cons (bs_set (i := 2) sc_L_far_right.nd rfl (.inl rfl) (be_ix hu (bo_e (be_lst (bv_cons (be_tup (bv_cons (be_c (fun _ => .str _) pe_str) (bv_cons (be_c (fun _ => .str _) pe_str) (bv_cons (be_var (pv 2 rfl (.inl rfl))) (bv_cons (be_tup (bv_cons (be_c (fun _ => .str _) pe_str) (bv_cons (be_var (pv 4 rfl (.inl rfl))) bv_nil))) bv_nil))))) (bv_cons (be_tup (bv_cons (be_c (fun _ => .str _) pe_str) (bv_cons (be_var (pv 1 rfl (.inl rfl))) (bv_cons (be_var (pv 2 rfl (.inl rfl))) bv_nil)))) (bv_cons (be_tup (bv_cons (be_c (fun _ => .str _) pe_str) (bv_cons (be_tup (bv_cons (be_var (pv 2 rfl (.inl rfl))) bv_nil)) bv_nil))) bv_nil))))) (bo_e (be_mod (bo_var (pv 4 rfl (.inl rfl))) (bo_e (be_c (fun _ => .int _) pe_int))))))
    (bss_one (bs_set (i := 3) sc_L_far_right.nd rfl (.inl rfl) (be_ix hu (bo_e (be_lst (bv_cons (be_tup (bv_cons (be_c (fun _ => .str _) pe_str) (bv_cons (be_var (pv 3 rfl (.inl rfl))) (bv_cons (be_tup (bv_cons (be_c (fun _ => .str _) pe_str) bv_nil)) bv_nil)))) (bv_cons (be_tup (bv_cons (be_c (fun _ => .str _) pe_str) (bv_cons (be_var (pv 3 rfl (.inl rfl))) bv_nil))) (bv_cons (be_tup (bv_cons (be_c (fun _ => .str _) pe_str) (bv_cons (be_tup (bv_cons (be_c (fun _ => .str _) pe_str) bv_nil)) (bv_cons (be_var (pv 3 rfl (.inl rfl))) bv_nil)))) bv_nil))))) (bo_e (be_mod (bo_var (pv 4 rfl (.inl rfl))) (bo_e (be_c (fun _ => .int _) pe_int)))))))))
    (bss_cons (bs_if (bt_w (bw_or (bt_ne hu64 (bo_e (be_call h_size_of hr (by omega) tk rfl (ba_cons (bo_var (pv 3 rfl (.inl rfl))) ba_nil))) (bo_e (be_c (fun _ => .int _) pe_int))) (bw_or1 (bt_ne hu64 (bo_e (be_call h_letters_in hr (by omega) tk rfl (ba_cons (bo_var (pv 3 rfl (.inl rfl))) ba_nil))) (bo_e (be_lst (bv_cons (be_var (pv 1 rfl (.inl rfl))) bv_nil))))))) (bss_one (bs_ret (be_c (fun _ => .bl _) pe_bl))) bss_nil)
    (bss_one (bs_ret (be_eq hu64 (bo_e (be_len rfl B.len_ (ba_cons (bo_e (be_call h_parts_of hr (by omega) tk rfl (ba_cons (bo_var (pv 2 rfl (.inl rfl))) ba_nil))) ba_nil))) (bo_e (be_c (fun _ => .int _) pe_int))))))))))
abbrev s_law : Stmt := topS 21
def N_law : List Str := ["_law_script", "_law_state", "_law_names", "_law_heads", "_law_k", "_law_term_here", "_law_parts_here", "_law_kind_here", "_law_told", "_law_letters", "_law_due", "_law_many", "_law_part", "_law_j", "_law_letter"]
theorem sc_law : FnScope N_law ["_law_script"] (defScope s_law) := ⟨rfl, rfl, rfl, by decide +kernel, rfl, by decide +kernel, by decide +kernel⟩
def pr_law : Nat → Bool := fun i => [true].getD i false
theorem e_law (a0 : M) : env0 N_law [a0] = [some a0, none, none, none, none, none, none, none, none, none, none, none, none, none, none] := rfl
theorem o_law (x0 x1 x2 x3 x4 x5 x6 x7 x8 x9 x10 x11 x12 x13 x14 : Option M) : outs pr_law 1 [x0, x1, x2, x3, x4, x5, x6, x7, x8, x9, x10, x11, x12, x13, x14] = [x0] := rfl
def w_law_s1 : WS :=
    wAsg (wDisp (wpCons (wC (.str ("cells" : Str))) (wVar 0) (wpCons (wC (.str ("at" : Str))) (wC (.int 0)) (wpNil)))) (wgN 1)
def w_law_e1 (sp__law_name : WF) : BV.WE :=
    wCall 2 sp__law_name (wCons (woVar 1) (wCons (woVar 4) (wNil)))
def w_law_g1 : WG :=
    wgN 4
def w_law_s2 (sp__law_name : WF) : WS :=
    wAsg (wLc [4] (wiR1 (wvCons (wC (.int 12)) (wvNil))) (w_law_g1) (wYes) (w_law_e1 sp__law_name)) (wgN 2)
def w_law_e2 (sp__law_head : WF) : BV.WE :=
    wCall 2 sp__law_head (wCons (woVar 1) (wCons (woVar 4) (wNil)))
def w_law_g2 : WG :=
    wgN 4
def w_law_s3 (sp__law_head : WF) : WS :=
    wAsg (wLc [4] (wiR1 (wvCons (wC (.int 3)) (wvNil))) (w_law_g2) (wYes) (w_law_e2 sp__law_head)) (wgN 3)
def w_law_s4 (sp__law_term : WF) (sp__law_next : WF) : WS :=
    wAsg (wCall 5 sp__law_term (wCons (woVar 1) (wCons (woVar 2) (wCons (woVar 3) (wCons (woE (wRd (gAdd) (wCons (woE (wC (.int 4))) (wCons (woE (wRd (gMul) (wCons (woE (wC (.int 7))) (wCons (woE (wCall 2 sp__law_next (wCons (woVar 1) (wCons (woE (wC (.int 6))) (wNil))))) wNil)))) wNil)))) (wCons (woE (wC (.int 6))) (wNil))))))) (wgN 5)
def w_law_s5 (sp__law_parts : WF) : WS :=
    wAsg (wCall 1 sp__law_parts (wCons (woVar 5) (wNil))) (wgN 6)
def w_law_s6 (sp__law_again : WF) (a_parts_of : Addr) : WS :=
    wIf (wNot (wTV (wCall 3 sp__law_again (wCons (woE (wC (.fn a_parts_of))) (wCons (woVar 5) (wCons (woVar 6) (wNil))))))) (wRet (wC (.bl false))) (wNext)
def w_law_e3 (sp__law_again : WF) (a_terms_in : Addr) (sp__law_inner : WF) : BV.WE :=
    wCall 3 sp__law_again (wCons (woE (wC (.fn a_terms_in))) (wCons (woVar 12) (wCons (woE (wCall 1 sp__law_inner (wCons (woVar 12) (wNil)))) (wNil))))
def w_law_g3 : WG :=
    wgN 12
def w_law_s7 (sp__law_again : WF) (a_terms_in : Addr) (sp__law_inner : WF) : WS :=
    wIf (wNot (wTV (wRd gAll (wCons (woE (wLc [12] (wiSeq (wVar 6)) (w_law_g3) (wYes) (w_law_e3 sp__law_again a_terms_in sp__law_inner))) (wNil))))) (wRet (wC (.bl false))) (wNext)
def w_law_s8 (sp__law_kind : WF) (sp__law_next : WF) : WS :=
    wAsg (wCall 4 sp__law_kind (wCons (woVar 1) (wCons (woE (wDisp (wpCons (wRd gIx (wCons (woVar 2) (wCons (woE (wC (.int 0))) wNil))) (wC (.int 0)) (wpCons (wRd gIx (wCons (woVar 2) (wCons (woE (wC (.int 1))) wNil))) (wC (.int 1)) (wpCons (wRd gIx (wCons (woVar 2) (wCons (woE (wC (.int 2))) wNil))) (wC (.int 3)) (wpNil)))))) (wCons (woE (wRd (gAdd) (wCons (woE (wC (.int 4))) (wCons (woE (wCall 2 sp__law_next (wCons (woVar 1) (wCons (woE (wC (.int 30))) (wNil))))) wNil)))) (wCons (woE (wC (.int 6))) (wNil)))))) (wgN 7)
def w_law_s9 (sp__law_kind_parts : WF) : WS :=
    wAsg (wCall 1 sp__law_kind_parts (wCons (woVar 7) (wNil))) (wgN 8)
def w_law_e4 : BV.WE :=
    wRd gIx (wCons (woVar 12) (wCons (woE (wC (.int 1))) wNil))
def w_law_g4 : WG :=
    wgN 12
def w_law_t4 : WT :=
    wTV (wRd (gEq) (wCons (woE (wRd gIx (wCons (woVar 12) (wCons (woE (wC (.int 0))) wNil)))) (wCons (woE (wC (.str ("letter" : Str)))) wNil)))
def w_law_s10 : WS :=
    wAsg (wLc [12] (wiSeq (wVar 8)) (w_law_g4) (w_law_t4) (w_law_e4)) (wgN 9)
def w_law_e5 : BV.WE :=
    wVar 14
def w_law_g5 : WG :=
    wgT (wgCons (wgN 13) (wgCons (wgN 14) (wgNil)))
def w_law_t5 : WT :=
    wTV (wRd (gNi) (wCons (woVar 14) (wCons (woE (wRd (sliceF false true) (wCons (woVar 9) (wCons (woVar 13) wNil)))) wNil)))
def w_law_s11 : WS :=
    wAsg (wLc [13, 14] (wiEnum (wVar 9)) (w_law_g5) (w_law_t5) (w_law_e5)) (wgN 10)
def w_law_s12 (sp__law_again : WF) (a_letters_in : Addr) : WS :=
    wIf (wOr (wTV (wRd gIsi (wCons (woVar 11) (wCons (woE (wC (.ty "bool"))) (wNil))))) (wOr (wTV (wRd (gNe) (wCons (woVar 11) (wCons (woE (wRd gLen (wCons (woVar 8) (wNil)))) wNil)))) (wNot (wTV (wCall 3 sp__law_again (wCons (woE (wC (.fn a_letters_in))) (wCons (woVar 7) (wCons (woVar 10) (wNil))))))))) (wRet (wC (.bl false))) (wNext)
def w_law_b6 (sp__law_term : WF) (sp__law_next : WF) (sp__law_parts : WF) (sp__law_again : WF) (a_parts_of : Addr) (a_terms_in : Addr) (sp__law_inner : WF) (sp__law_kind : WF) (sp__law_kind_parts : WF) (sp_size_of : WF) (a_letters_in : Addr) : WS :=
    wSeq (w_law_s4 sp__law_term sp__law_next)
    (wSeq (w_law_s5 sp__law_parts)
    (wSeq (w_law_s6 sp__law_again a_parts_of)
    (wSeq (w_law_s7 sp__law_again a_terms_in sp__law_inner)
    (wSeq (w_law_s8 sp__law_kind sp__law_next)
    (wSeq (w_law_s9 sp__law_kind_parts)
    (wSeq (w_law_s10)
    (wSeq (w_law_s11)
    (wSeq (wAsg (wCall 1 sp_size_of (wCons (woVar 7) (wNil))) (wgN 11))
    (w_law_s12 sp__law_again a_letters_in)))))))))
def w_law_g6 : WG :=
    wgN 4
def w_law_s13 (sp__law_term : WF) (sp__law_next : WF) (sp__law_parts : WF) (sp__law_again : WF) (a_parts_of : Addr) (a_terms_in : Addr) (sp__law_inner : WF) (sp__law_kind : WF) (sp__law_kind_parts : WF) (sp_size_of : WF) (a_letters_in : Addr) : WS :=
    wFor (wiR1 (wvCons (wRd (gAdd) (wCons (woE (wC (.int 1))) (wCons (woE (wRd gMin2 (wCons (woE (wC (.int 8))) (wCons (woE (wRd gLen (wCons (woVar 0) (wNil)))) (wNil))))) wNil))) (wvNil))) (w_law_g6) (w_law_b6 sp__law_term sp__law_next sp__law_parts sp__law_again a_parts_of a_terms_in sp__law_inner sp__law_kind sp__law_kind_parts sp_size_of a_letters_in)
def w_law (sp__law_name : WF) (sp__law_head : WF) (sp__law_term : WF) (sp__law_next : WF) (sp__law_parts : WF) (sp__law_again : WF) (sp__law_inner : WF) (sp__law_kind : WF) (sp__law_kind_parts : WF) (sp_size_of : WF) (sp__law_far_right : WF) (a_parts_of : Addr) (a_terms_in : Addr) (a_letters_in : Addr) : WS :=
    wSeq (w_law_s1)
    (wSeq (w_law_s2 sp__law_name)
    (wSeq (w_law_s3 sp__law_head)
    (wSeq (w_law_s13 sp__law_term sp__law_next sp__law_parts sp__law_again a_parts_of a_terms_in sp__law_inner sp__law_kind sp__law_kind_parts sp_size_of a_letters_in)
    (wRet (wCall 1 sp__law_far_right (wCons (woVar 1) (wNil)))))))
theorem d_law {P : Program} {w : World} {K : PySem.W.Frag} {mg : Str → Option Value} {base : Heap} (B : Blt mg) {sp__law_name : WF} {k__law_name : Nat} (h__law_name : Fn P w K mg base "_law_name" k__law_name 2 sp__law_name) {sp__law_head : WF} {k__law_head : Nat} (h__law_head : Fn P w K mg base "_law_head" k__law_head 2 sp__law_head) {sp__law_term : WF} {k__law_term : Nat} (h__law_term : Fn P w K mg base "_law_term" k__law_term 5 sp__law_term) {sp__law_next : WF} {k__law_next : Nat} (h__law_next : Fn P w K mg base "_law_next" k__law_next 2 sp__law_next) {sp__law_parts : WF} {k__law_parts : Nat} (h__law_parts : Fn P w K mg base "_law_parts" k__law_parts 1 sp__law_parts) {sp__law_again : WF} {k__law_again : Nat} (h__law_again : Fn P w K mg base "_law_again" k__law_again 3 sp__law_again) {sp__law_inner : WF} {k__law_inner : Nat} (h__law_inner : Fn P w K mg base "_law_inner" k__law_inner 1 sp__law_inner) {sp__law_kind : WF} {k__law_kind : Nat} (h__law_kind : Fn P w K mg base "_law_kind" k__law_kind 4 sp__law_kind) {sp__law_kind_parts : WF} {k__law_kind_parts : Nat} (h__law_kind_parts : Fn P w K mg base "_law_kind_parts" k__law_kind_parts 1 sp__law_kind_parts) {sp_size_of : WF} {k_size_of : Nat} (h_size_of : Fn P w K mg base "size_of" k_size_of 1 sp_size_of) {sp__law_far_right : WF} {k__law_far_right : Nat} (h__law_far_right : Fn P w K mg base "_law_far_right" k__law_far_right 1 sp__law_far_right) {a_parts_of : Addr} (m_parts_of : mg "parts_of" = some (.ref a_parts_of)) {a_terms_in : Addr} (m_terms_in : mg "terms_in" = some (.ref a_terms_in)) {a_letters_in : Addr} (m_letters_in : mg "letters_in" = some (.ref a_letters_in)) {k : Nat} (l__law_name : k__law_name ≤ k) (l__law_head : k__law_head ≤ k) (l__law_term : k__law_term ≤ k) (l__law_next : k__law_next ≤ k) (l__law_parts : k__law_parts ≤ k) (l__law_again : k__law_again ≤ k) (l__law_inner : k__law_inner ≤ k) (l__law_kind : k__law_kind ≤ k) (l__law_kind_parts : k__law_kind_parts ≤ k) (l_size_of : k_size_of ≤ k) (l__law_far_right : k__law_far_right ≤ k) (f : Addr) :
    ∀ (cdv : Value) (A : Around) (outer : List PySem.Env) (s : Shared) (H : Hp) (E : XK), Room k (A.deeper (envOfC "law" (defScope s_law) s.heap.objs.size f cdv)) →
    PSs (cxOf (L2.CX P w) P w K mg base N_law "law" (defScope s_law) f cdv A outer s H E) (defBody s_law) (tS K (fun c d _ H => E c d H) pr_law (w_law sp__law_name sp__law_head sp__law_term sp__law_next sp__law_parts sp__law_again sp__law_inner sp__law_kind sp__law_kind_parts sp_size_of sp__law_far_right a_parts_of a_terms_in a_letters_in)) := by
  intro cdv A outer s H E hr
  have hu := hu_of hr
  have hu64 := hr.units
  have tk := takes_of (X := cxOf (L2.CX P w) P w K mg base N_law "law" (defScope s_law) f cdv A outer s H E) (E := E) rfl rfl rfl rfl
  have po := passes_of (X := cxOf (L2.CX P w) P w K mg base N_law "law" (defScope s_law) f cdv A outer s H E) rfl
  exact (bss_cons (bs_set (i := 1) sc_law.nd rfl (.inr rfl) (be_disp (pps_cons (be_c (fun _ => .str _) pe_str) (be_var (pv 0 rfl (.inl rfl))) (pps_cons (be_c (fun _ => .str _) pe_str) (be_c (fun _ => .int _) pe_int) pps_nil)) (bp_cons (fun _ _ _ q => q) (fun _ _ _ q => q) (bp_cons (fun _ _ _ q => q) (fun _ _ _ q => q) bp_nil)) rfl rfl (by simp) (by decide)))
    (bss_cons (bs_setLc (i := 2) rfl sc_law.nd rfl rfl (sw_true rfl rfl rfl (by decide +kernel)) (bi_range1 rfl B.range_ (bv_cons (be_c (fun _ => .int _) pe_int) bv_nil)) (blkOk_by (own := [(("_law_k" : Str), 4)]) (N := N_law) (sc := defScope s_law) (by decide +kernel)) rfl (by decide) (fun _ _ _ _ _ => (bg_N (pg_name (i := 4) sc_law.nd rfl (.inl rfl)))) (fun _ _ _ _ _ => bts_nil) (fun _ _ _ _ _ => (be_call h__law_name hr (by omega) takes0 rfl (ba_cons (bo_var (pv 1)) (ba_cons (bo_var (pv 4 rfl (.inl rfl))) ba_nil)))))
    (bss_cons (bs_setLc (i := 3) rfl sc_law.nd rfl rfl (sw_true rfl rfl rfl (by decide +kernel)) (bi_range1 rfl B.range_ (bv_cons (be_c (fun _ => .int _) pe_int) bv_nil)) (blkOk_by (own := [(("_law_k" : Str), 4)]) (N := N_law) (sc := defScope s_law) (by decide +kernel)) rfl (by decide) (fun _ _ _ _ _ => (bg_N (pg_name (i := 4) sc_law.nd rfl (.inl rfl)))) (fun _ _ _ _ _ => bts_nil) (fun _ _ _ _ _ => (be_call h__law_head hr (by omega) takes0 rfl (ba_cons (bo_var (pv 1)) (ba_cons (bo_var (pv 4 rfl (.inl rfl))) ba_nil)))))
    (bss_cons (bs_for po rfl (bi_range1 rfl B.range_ (bv_cons (be_add (bo_e (be_c (fun _ => .int _) pe_int)) (bo_e (be_min2 rfl rfl B.min_ (ba_cons (bo_e (be_c (fun _ => .int _) pe_int)) (ba_cons (bo_e (be_len rfl B.len_ (ba_cons (bo_var (pv 0 rfl (.inl rfl))) ba_nil))) ba_nil))))) bv_nil)) (bg_N (pg_name (i := 4) sc_law.nd rfl (.inl rfl))) (bss_cons (bs_set (i := 5) sc_law.nd rfl (.inl rfl) (be_call h__law_term hr (by omega) tk rfl (ba_cons (bo_var (pv 1 rfl (.inr (.inl rfl)))) (ba_cons (bo_var (pv 2 rfl (.inl rfl))) (ba_cons (bo_var (pv 3 rfl (.inl rfl))) (ba_cons (bo_e (be_add (bo_e (be_c (fun _ => .int _) pe_int)) (bo_e (be_mul (bo_e (be_c (fun _ => .int _) pe_int)) (bo_e (be_call h__law_next hr (by omega) tk rfl (ba_cons (bo_var (pv 1 rfl (.inr (.inl rfl)))) (ba_cons (bo_e (be_c (fun _ => .int _) pe_int)) ba_nil)))))))) (ba_cons (bo_e (be_c (fun _ => .int _) pe_int)) ba_nil)))))))
    (bss_cons (bs_set (i := 6) sc_law.nd rfl (.inl rfl) (be_call h__law_parts hr (by omega) tk rfl (ba_cons (bo_var (pv 5 rfl (.inl rfl))) ba_nil)))
    (bss_cons (bs_if (bt_not (bt_val (be_call h__law_again hr (by omega) tk rfl (ba_cons (bo_e (be_c (v := .ref a_parts_of) (fun _ => .fn _) (pe_glob rfl m_parts_of rfl))) (ba_cons (bo_var (pv 5 rfl (.inl rfl))) (ba_cons (bo_var (pv 6 rfl (.inl rfl))) ba_nil)))))) (bss_one (bs_ret (be_c (fun _ => .bl _) pe_bl))) bss_nil)
    (bss_cons (bs_if (bt_not (bt_val (be_all rfl rfl B.all_ (ba_cons (bo_e (be_lc rfl sc_law.nd (bi_seq (be_var (pv 6 rfl (.inl rfl)))) (blkOk_by (own := [(("_law_part" : Str), 12)]) (N := N_law) (sc := defScope s_law) (by decide +kernel)) rfl (by decide) (fun _ _ _ _ _ => (bg_N (pg_name (i := 12) sc_law.nd rfl (.inl rfl)))) (fun _ _ _ _ _ => bts_nil) (fun _ _ _ _ _ => (be_call h__law_again hr (by omega) takes0 rfl (ba_cons (bo_e (be_c (v := .ref a_terms_in) (fun _ => .fn _) (pe_glob rfl m_terms_in rfl))) (ba_cons (bo_var (pv 12 rfl (.inl rfl))) (ba_cons (bo_e (be_call h__law_inner hr (by omega) takes0 rfl (ba_cons (bo_var (pv 12 rfl (.inl rfl))) ba_nil))) ba_nil))))))) ba_nil)))) (bss_one (bs_ret (be_c (fun _ => .bl _) pe_bl))) bss_nil)
    (bss_cons (bs_set (i := 7) sc_law.nd rfl (.inl rfl) (be_call h__law_kind hr (by omega) tk rfl (ba_cons (bo_var (pv 1 rfl (.inr (.inl rfl)))) (ba_cons (bo_e (be_disp (pps_cons (be_ix hu (bo_var (pv 2 rfl (.inl rfl))) (bo_e (be_c (fun _ => .int _) pe_int))) (be_c (fun _ => .int _) pe_int) (pps_cons (be_ix hu (bo_var (pv 2 rfl (.inl rfl))) (bo_e (be_c (fun _ => .int _) pe_int))) (be_c (fun _ => .int _) pe_int) (pps_cons (be_ix hu (bo_var (pv 2 rfl (.inl rfl))) (bo_e (be_c (fun _ => .int _) pe_int))) (be_c (fun _ => .int _) pe_int) pps_nil))) (bp_cons (fun _ _ _ q => q) (fun _ _ _ q => q) (bp_cons (fun _ _ _ q => q) (fun _ _ _ q => q) (bp_cons (fun _ _ _ q => q) (fun _ _ _ q => q) bp_nil))) rfl rfl (by simp) (by decide))) (ba_cons (bo_e (be_add (bo_e (be_c (fun _ => .int _) pe_int)) (bo_e (be_call h__law_next hr (by omega) tk rfl (ba_cons (bo_var (pv 1 rfl (.inr (.inl rfl)))) (ba_cons (bo_e (be_c (fun _ => .int _) pe_int)) ba_nil)))))) (ba_cons (bo_e (be_c (fun _ => .int _) pe_int)) ba_nil))))))
    (bss_cons (bs_set (i := 8) sc_law.nd rfl (.inl rfl) (be_call h__law_kind_parts hr (by omega) tk rfl (ba_cons (bo_var (pv 7 rfl (.inl rfl))) ba_nil)))
    (bss_cons (bs_set (i := 9) sc_law.nd rfl (.inr rfl) (be_lc rfl sc_law.nd (bi_seq (be_var (pv 8 rfl (.inl rfl)))) (blkOk_by (own := [(("_law_part" : Str), 12)]) (N := N_law) (sc := defScope s_law) (by decide +kernel)) rfl (by decide) (fun _ _ _ _ _ => (bg_N (pg_name (i := 12) sc_law.nd rfl (.inl rfl)))) (fun _ _ _ _ _ => (bts_one (bt_eq hu64 (bo_e (be_ix hu (bo_var (pv 12 rfl (.inl rfl))) (bo_e (be_c (fun _ => .int _) pe_int)))) (bo_e (be_c (fun _ => .str _) pe_str))))) (fun _ _ _ _ _ => (be_ix hu (bo_var (pv 12 rfl (.inl rfl))) (bo_e (be_c (fun _ => .int _) pe_int))))))
    (bss_cons (bs_setLc (i := 10) rfl sc_law.nd rfl rfl (sw_true rfl rfl rfl (by decide +kernel)) (bi_enum rfl B.enumerate_ (be_var (pv 9 rfl (.inr (.inl rfl))))) (blkOk_by (own := [(("_law_j" : Str), 13), (("_law_letter" : Str), 14)]) (N := N_law) (sc := defScope s_law) (by decide +kernel)) rfl (by decide) (fun _ _ _ _ _ => (bg_T rfl (bgs_cons (bg_N (pg_name (i := 13) sc_law.nd rfl (.inl rfl))) (bgs_cons (bg_N (pg_name (i := 14) sc_law.nd rfl (.inl rfl))) bgs_nil)) (wgCons_len wgN_in (wgCons_len wgN_in wgNil_len)))) (fun _ _ _ _ _ => (bts_one (bt_ni hu (bo_var (pv 14 rfl (.inl rfl))) (bo_e (be_slH (bo_var (pv 9)) (bo_var (pv 13 rfl (.inl rfl)))))))) (fun _ _ _ _ _ => (be_var (pv 14 rfl (.inl rfl)))))
    (bss_cons (bs_set (i := 11) sc_law.nd rfl (.inl rfl) (be_call h_size_of hr (by omega) tk rfl (ba_cons (bo_var (pv 7 rfl (.inl rfl))) ba_nil)))
    (bss_one (bs_if (bt_w (bw_or (bt_val (be_isi rfl B.isinstance_ (ba_cons (bo_var (pv 11 rfl (.inl rfl))) (ba_cons (bo_e (be_c (v := .ty "bool") (fun _ => .ty _) (pe_bltn rfl B.bool_ boot_bool rfl))) ba_nil)))) (bw_or (bt_ne hu64 (bo_var (pv 11 rfl (.inl rfl))) (bo_e (be_len rfl B.len_ (ba_cons (bo_var (pv 8 rfl (.inl rfl))) ba_nil)))) (bw_or1 (bt_not (bt_val (be_call h__law_again hr (by omega) tk rfl (ba_cons (bo_e (be_c (v := .ref a_letters_in) (fun _ => .fn _) (pe_glob rfl m_letters_in rfl))) (ba_cons (bo_var (pv 7 rfl (.inl rfl))) (ba_cons (bo_var (pv 10 rfl (.inl rfl))) ba_nil)))))))))) (bss_one (bs_ret (be_c (fun _ => .bl _) pe_bl))) bss_nil))))))))))))
    (bss_one (bs_ret (be_call h__law_far_right hr (by omega) tk rfl (ba_cons (bo_var (pv 1 rfl (.inr (.inl rfl)))) ba_nil))))))))
-- builtins ['all', 'bool', 'enumerate', 'isinstance', 'len', 'list', 'min', 'range', 'str', 'tuple'] globals []

end BV

namespace BV
open PySem L2 PyProof.Rows
/-- a name -/
def Nm : Type := { s : Str // PyData.strOk s = true }
def Pt : Type := { d : D // Pyn 2 d }
/-- a leaf's kind -/
inductive Lf | num (i : Int) | tru (b : Bool) | nam (s : Nm) | hed (s : Nm)
def Lf.d : Lf → List D
  | .num i => [.str "number", .int i] | .tru b => [.str "truth", .bl b] | .nam s => [.str "name", .str s.1] | .hed s => [.str "head", .str s.1]
inductive Tt
  | leaf (x : Lf) | l0 | l1 (a : Tt) | l2 (a b : Tt) | l3 (a b c : Tt) | two (s : Nm) (a b : Tt) | call (a b : Tt) | pair (a b : Tt) | fn (s : Nm) (a : Tt) | lt (s : Nm) (a b : Tt) | iff (a b c : Tt)
  | c1 (a : Tt) (p : Pt) (b : Tt) | c2 (a : Tt) (p : Pt) (b : Tt) (q : Pt) (c : Tt)
def enT : Tt → D
  | .leaf x => .tup x.d
  | .l0 => .tup [.str "list", .tup []]
  | .l1 a => .tup [.str "list", .tup [enT a]]
  | .l2 a b => .tup [.str "list", .tup [enT a, enT b]]
  | .l3 a b c => .tup [.str "list", .tup [enT a, enT b, enT c]]
  | .two s a b => .tup [.str "two", .str s.1, enT a, enT b]
  | .call a b => .tup [.str "call", enT a, enT b]
  | .pair a b => .tup [.str "pair", enT a, enT b]
  | .fn s a => .tup [.str "fn", .str s.1, enT a]
  | .lt s a b => .tup [.str "let", .str s.1, enT a, enT b]
  | .iff a b c => .tup [.str "if", enT a, enT b, enT c]
  | .c1 a p b => .tup [.str "case", enT a, .tup [.tup [p.1, enT b]]]
  | .c2 a p b q c => .tup [.str "case", enT a, .tup [.tup [p.1, enT b], .tup [q.1, enT c]]]
def inT : Tt → List Tt
  | .leaf _ => [] | .l0 => [] | .l1 a => [a] | .l2 a b => [a, b] | .l3 a b c => [a, b, c] | .two _ a b => [a, b] | .call a b => [a, b] | .pair a b => [a, b] | .fn _ a => [a] | .lt _ a b => [a, b] | .iff a b c => [a, b, c]
  | .c1 a _ b => [a, b] | .c2 a _ b _ c => [a, b, c]
def paT : Tt → List Tt
  | .leaf x => [.leaf x] | .l0 => [.l0] | .l1 a => .l1 a :: paT a | .l2 a b => .l2 a b :: (paT a ++ paT b) | .l3 a b c => .l3 a b c :: (paT a ++ (paT b ++ paT c))
  | .two s a b => .two s a b :: (paT a ++ paT b) | .call a b => .call a b :: (paT a ++ paT b) | .pair a b => .pair a b :: (paT a ++ paT b) | .fn s a => .fn s a :: paT a | .lt s a b => .lt s a b :: (paT a ++ paT b)
  | .iff a b c => .iff a b c :: (paT a ++ (paT b ++ paT c)) | .c1 a p b => .c1 a p b :: (paT a ++ paT b) | .c2 a p b q c => .c2 a p b q c :: (paT a ++ (paT b ++ paT c))
theorem paT_eq (t : Tt) : paT t = t :: (inT t).flatMap paT := by cases t <;> simp [paT, inT]
def sp_terms_in : WF := fun ms C CX => ∃ t : Tt, ms = [.p (enT t)] ∧ ∀ o, C (.l ((inT t).map enT)) [o]
theorem hw_terms_in : ∀ ms C CX, ms.length = 1 → sp_terms_in ms C CX → w_terms_in (env0 N_terms_in ms) (bodyK pr_terms_in 1 C) (fun x e => CX x (outs pr_terms_in 1 e)) := by
  intro ms C CX _ h
  obtain ⟨t, rfl, h⟩ := h
  unfold w_terms_in
  cases t with
  | leaf x => cases x <;> simp [wSeq, wIf, wTV, wAnd, wOr, wNot, wAndV, wOrV, wNotV, wIfE, wRd, wCons, wNil, woVar, woE, wVar, wMove, wC, wvCons, wvNil, wTup, wLst, wNext, wRet, wRetN, wDrop, wBrk, wCt, wAsg, wgN, wgNil, wgCons, wgT, wPar, wFor, wYes, wLc, wipeE, backE, wCall, wMeth, wDictNew, wgSub, wSlB, wZipL, wiSeq, wiR1, wiR2, wiStr, wiEnum, wiEnumS, bodyK, takeM, putM, msOf, M.fz, Res.m, M.seq, M.lseq, M.mseq, M.dict, isL, isK, gList, gTuple, gAppend, gGet2, gSetd, setD, gEq, gNe, eqD_ss, eqD_ii, eqD_bb, gIn, gNi, gZip, gAll, gAny, gMul, gInt, cPos, cDiv, cMul, gAdd, slD, sliceF, D.key, List.length_cons, List.length_nil, List.getElem?_cons_succ, List.getElem?_cons_zero, List.getElem?_nil, List.set_cons_succ, List.set_cons_zero, List.getD_cons_succ, List.getD_cons_zero, Option.bind_some, Option.map_some, Option.map_none, Option.bind_none, ixN, atI, HT.sIx, cutD, Option.isSome_some, if_true, if_false, ite_true, ite_false, Bool.false_eq_true, decide_eq_true_eq, Bool.not_true, Bool.not_false, true_and, and_true, ofS_inj, String.reduceEq, reduceIte, decide_true, decide_false, Int.reduceAdd, Nat.reduceLeDiff, Nat.reduceAdd, Nat.zero_add, Nat.le_refl, Nat.zero_le, w_terms_in_s1, w_terms_in_s2, w_terms_in_s3, w_terms_in_s4, w_terms_in_s5, w_terms_in_s6, w_terms_in_s7, w_terms_in_s8, w_terms_in_s9, e_terms_in, o_terms_in, enT, Lf.d, inD, eqF, flatD, inT, gIx, str_beq] at h ⊢ <;> exact h _
  | _ => simp [wSeq, wIf, wTV, wAnd, wOr, wNot, wAndV, wOrV, wNotV, wIfE, wRd, wCons, wNil, woVar, woE, wVar, wMove, wC, wvCons, wvNil, wTup, wLst, wNext, wRet, wRetN, wDrop, wBrk, wCt, wAsg, wgN, wgNil, wgCons, wgT, wPar, wFor, wYes, wLc, wipeE, backE, wCall, wMeth, wDictNew, wgSub, wSlB, wZipL, wiSeq, wiR1, wiR2, wiStr, wiEnum, wiEnumS, bodyK, takeM, putM, msOf, M.fz, Res.m, M.seq, M.lseq, M.mseq, M.dict, isL, isK, gList, gTuple, gAppend, gGet2, gSetd, setD, gEq, gNe, eqD_ss, eqD_ii, eqD_bb, gIn, gNi, gZip, gAll, gAny, gMul, gInt, cPos, cDiv, cMul, gAdd, slD, sliceF, D.key, List.length_cons, List.length_nil, List.getElem?_cons_succ, List.getElem?_cons_zero, List.getElem?_nil, List.set_cons_succ, List.set_cons_zero, List.getD_cons_succ, List.getD_cons_zero, Option.bind_some, Option.map_some, Option.map_none, Option.bind_none, ixN, atI, HT.sIx, cutD, Option.isSome_some, if_true, if_false, ite_true, ite_false, Bool.false_eq_true, decide_eq_true_eq, Bool.not_true, Bool.not_false, true_and, and_true, ofS_inj, String.reduceEq, reduceIte, decide_true, decide_false, Int.reduceAdd, Nat.reduceLeDiff, Nat.reduceAdd, Nat.zero_add, Nat.le_refl, Nat.zero_le, w_terms_in_s1, w_terms_in_s2, w_terms_in_s3, w_terms_in_s4, w_terms_in_s5, w_terms_in_s6, w_terms_in_s7, w_terms_in_s8, w_terms_in_s9, e_terms_in, o_terms_in, enT, inD, eqF, flatD, inT, gIx, str_beq, wLcL, w_terms_in_g1, w_terms_in_e1] at h ⊢ <;> exact h _
theorem isi_ts : L2.kitB "tuple" "str" = some false := by decide
theorem isi_ss : L2.kitB "str" "str" = some true := by decide
theorem isi_T (t : Tt) : gIsi [.p (enT t), .p (.ty "str")] = some (.val (.bl false)) := by cases t <;> simp [gIsi, tyName, enT, isi_ts]
theorem isi_S (s : Str) : gIsi [.p (.str s), .p (.ty "str")] = some (.val (.bl true)) := by simp [gIsi, tyName, isi_ss]
def sp__law_inner : WF := sp_terms_in
theorem hw_L_inner : ∀ ms C CX, ms.length = 1 → sp__law_inner ms C CX → w_L_inner (env0 N_L_inner ms) (bodyK pr_L_inner 1 C) (fun x e => CX x (outs pr_L_inner 1 e)) := by
  intro ms C CX _ h
  obtain ⟨t, rfl, h⟩ := h
  unfold w_L_inner
  cases t with
  | leaf x => cases x <;> simp [wSeq, wIf, wTV, wAnd, wOr, wNot, wAndV, wOrV, wNotV, wIfE, wRd, wCons, wNil, woVar, woE, wVar, wMove, wC, wvCons, wvNil, wTup, wLst, wNext, wRet, wRetN, wDrop, wBrk, wCt, wAsg, wgN, wgNil, wgCons, wgT, wPar, wFor, wYes, wLc, wipeE, backE, wCall, wMeth, wDictNew, wgSub, wSlB, wZipL, wiSeq, wiR1, wiR2, wiStr, wiEnum, wiEnumS, bodyK, takeM, putM, msOf, M.fz, Res.m, M.seq, M.lseq, M.mseq, M.dict, isL, isK, gList, gTuple, gAppend, gGet2, gSetd, setD, gEq, gNe, eqD_ss, eqD_ii, eqD_bb, gIn, gNi, gZip, gAll, gAny, gMul, gInt, cPos, cDiv, cMul, gAdd, slD, sliceF, D.key, List.length_cons, List.length_nil, List.getElem?_cons_succ, List.getElem?_cons_zero, List.getElem?_nil, List.set_cons_succ, List.set_cons_zero, List.getD_cons_succ, List.getD_cons_zero, Option.bind_some, Option.map_some, Option.map_none, Option.bind_none, ixN, atI, HT.sIx, cutD, Option.isSome_some, if_true, if_false, ite_true, ite_false, Bool.false_eq_true, decide_eq_true_eq, Bool.not_true, Bool.not_false, true_and, and_true, ofS_inj, String.reduceEq, reduceIte, decide_true, decide_false, Int.reduceAdd, Nat.reduceLeDiff, Nat.reduceAdd, Nat.zero_add, Nat.le_refl, Nat.zero_le, w_L_inner_s1, w_L_inner_s2, w_L_inner_s3, w_L_inner_s4, w_L_inner_s5, w_L_inner_s6, w_L_inner_s7, e_L_inner, o_L_inner, enT, Lf.d, inD, eqF, flatD, inT, gIx, str_beq] at h ⊢ <;> exact h _
  | _ =>
    simp [wSeq, wIf, wTV, wAnd, wOr, wNot, wAndV, wOrV, wNotV, wIfE, wRd, wCons, wNil, woVar, woE, wVar, wMove, wC, wvCons, wvNil, wTup, wLst, wNext, wRet, wRetN, wDrop, wBrk, wCt, wAsg, wgN, wgNil, wgCons, wgT, wPar, wFor, wYes, wLc, wipeE, backE, wCall, wMeth, wDictNew, wgSub, wSlB, wZipL, wiSeq, wiR1, wiR2, wiStr, wiEnum, wiEnumS, bodyK, takeM, putM, msOf, M.fz, Res.m, M.seq, M.lseq, M.mseq, M.dict, isL, isK, gList, gTuple, gAppend, gGet2, gSetd, setD, gEq, gNe, eqD_ss, eqD_ii, eqD_bb, gIn, gNi, gZip, gAll, gAny, gMul, gInt, cPos, cDiv, cMul, gAdd, slD, sliceF, D.key, List.length_cons, List.length_nil, List.getElem?_cons_succ, List.getElem?_cons_zero, List.getElem?_nil, List.set_cons_succ, List.set_cons_zero, List.getD_cons_succ, List.getD_cons_zero, Option.bind_some, Option.map_some, Option.map_none, Option.bind_none, ixN, atI, HT.sIx, cutD, Option.isSome_some, if_true, if_false, ite_true, ite_false, Bool.false_eq_true, decide_eq_true_eq, Bool.not_true, Bool.not_false, true_and, and_true, ofS_inj, String.reduceEq, reduceIte, decide_true, decide_false, Int.reduceAdd, Nat.reduceLeDiff, Nat.reduceAdd, Nat.zero_add, Nat.le_refl, Nat.zero_le, w_L_inner_s1, w_L_inner_s2, w_L_inner_s3, w_L_inner_s4, w_L_inner_s5, w_L_inner_s6, w_L_inner_s7, e_L_inner, o_L_inner, enT, inD, eqF, flatD, inT, gIx, str_beq, wLcL, w_L_inner_g1, w_L_inner_e1, w_L_inner_g2, w_L_inner_e2, w_L_inner_g3, w_L_inner_e3, w_L_inner_t3, isi_T, isi_S] at h ⊢
    exact h _
/-! ### all parts -/
theorem paT_len (t : Tt) : 1 ≤ (paT t).length := by rw [paT_eq]; simp
def lnT (st : List Tt) : Nat := (st.map fun t => (paT t).length).sum
theorem lnT_app (a b : List Tt) : lnT (a ++ b) = lnT a + lnT b := by simp [lnT]
theorem lnT_rev (a : List Tt) : lnT a.reverse = lnT a := by simp [lnT]
theorem lnT_flat (a : List Tt) : (a.flatMap paT).length = lnT a := by simp [lnT, List.length_flatMap]
theorem lnT_le (a : List Tt) : a.length ≤ lnT a := by
  induction a with
  | nil => simp
  | cons t a ih => have := paT_len t; simp [lnT] at ih ⊢; omega
def sp_parts_of : WF := fun ms C CX => ∃ t : Tt, ms = [.p (enT t)] ∧ (paT t).length ≤ 1000 ∧ ∀ o, C (.l ((paT t).map enT)) [o]
theorem enT_tup (t : Tt) : ∃ xs, enT t = .tup xs := by cases t <;> exact ⟨_, rfl⟩
def htT : Tt → Nat
  | .leaf _ => 1 | .l0 => 2 | .l1 a => htT a + 2 | .l2 a b => max (htT a) (htT b) + 2 | .l3 a b c => max (htT a) (max (htT b) (htT c)) + 2 | .two _ a b => max (htT a) (htT b) + 1 | .call a b => max (htT a) (htT b) + 1 | .pair a b => max (htT a) (htT b) + 1
  | .fn _ a => htT a + 1 | .lt _ a b => max (htT a) (htT b) + 1 | .iff a b c => max (htT a) (max (htT b) (htT c)) + 1
  | .c1 a _ b => max (htT a) (max 2 (htT b)) + 3 | .c2 a _ b _ c => max (htT a) (max 2 (max (htT b) (htT c))) + 3
theorem pyn_str {s : Str} (h : PyData.strOk s = true) (n : Nat) : Pyn n (.str s) := ⟨_, rfl, h, by simp [PyData.depth]⟩
theorem pyn_lit (s : String) (n : Nat) (h : s.toList.all (fun c => c.toNat < 0x110000) = true := by decide) : Pyn n (.str s) := pyn_str (strOk_lit s h) n
theorem pyn_int (i : Int) (n : Nat) : Pyn n (.int i) := ⟨_, rfl, rfl, by simp [PyData.depth]⟩
theorem pyn_bl (i : Bool) (n : Nat) : Pyn n (.bl i) := ⟨_, rfl, rfl, by simp [PyData.depth]⟩
theorem pyn_t {n : Nat} {xs : List D} (h : ∀ x ∈ xs, Pyn n x) {m : Nat} (hm : m = n + 1) : Pyn m (.tup xs) := by rw [hm]; exact pyn_tup h
theorem pynT (t : Tt) : Pyn (htT t) (enT t) := by
  induction t with
  | leaf x =>
    refine pyn_t (n := 0) (fun y hy => ?_) rfl
    cases x with
    | num i => simp [Lf.d] at hy; rcases hy with rfl | rfl <;> first | exact pyn_lit _ _ | exact pyn_int _ _
    | tru i => simp [Lf.d] at hy; rcases hy with rfl | rfl <;> first | exact pyn_lit _ _ | exact pyn_bl _ _
    | nam s => simp [Lf.d] at hy; rcases hy with rfl | rfl; exact pyn_lit _ _; exact pyn_str s.2 _
    | hed s => simp [Lf.d] at hy; rcases hy with rfl | rfl; exact pyn_lit _ _; exact pyn_str s.2 _
  | l0 => exact pyn_t (n := 1) (by intro y hy; simp at hy; rcases hy with rfl | rfl; exact pyn_lit _ _; exact pyn_t (n := 0) (by simp) rfl) rfl
  | l1 a ih => exact pyn_t (n := htT a + 1) (by intro y hy; simp at hy; rcases hy with rfl | rfl; exact pyn_lit _ _; exact pyn_t (n := htT a) (by intro z hz; simp at hz; subst hz; exact ih) rfl) rfl
  | l2 a b i1 i2 => exact pyn_t (n := max (htT a) (htT b) + 1) (by intro y hy; simp at hy; rcases hy with rfl | rfl; exact pyn_lit _ _; exact pyn_t (n := max (htT a) (htT b)) (by intro z hz; simp at hz; rcases hz with rfl | rfl; exact i1.mono (by omega); exact i2.mono (by omega)) rfl) rfl
  | l3 a b c i1 i2 i3 => exact pyn_t (n := max (htT a) (max (htT b) (htT c)) + 1) (by intro y hy; simp at hy; rcases hy with rfl | rfl; exact pyn_lit _ _; exact pyn_t (n := max (htT a) (max (htT b) (htT c))) (by intro z hz; simp at hz; rcases hz with rfl | rfl | rfl; exact i1.mono (by omega); exact i2.mono (by omega); exact i3.mono (by omega)) rfl) rfl
  | two s a b i1 i2 => exact pyn_t (n := max (htT a) (htT b)) (by intro y hy; simp at hy; rcases hy with rfl | rfl | rfl | rfl; exact pyn_lit _ _; exact pyn_str s.2 _; exact i1.mono (by omega); exact i2.mono (by omega)) rfl
  | call a b i1 i2 => exact pyn_t (n := max (htT a) (htT b)) (by intro y hy; simp at hy; rcases hy with rfl | rfl | rfl; exact pyn_lit _ _; exact i1.mono (by omega); exact i2.mono (by omega)) rfl
  | pair a b i1 i2 => exact pyn_t (n := max (htT a) (htT b)) (by intro y hy; simp at hy; rcases hy with rfl | rfl | rfl; exact pyn_lit _ _; exact i1.mono (by omega); exact i2.mono (by omega)) rfl
  | fn s a i1 => exact pyn_t (n := htT a) (by intro y hy; simp at hy; rcases hy with rfl | rfl | rfl; exact pyn_lit _ _; exact pyn_str s.2 _; exact i1) rfl
  | lt s a b i1 i2 => exact pyn_t (n := max (htT a) (htT b)) (by intro y hy; simp at hy; rcases hy with rfl | rfl | rfl | rfl; exact pyn_lit _ _; exact pyn_str s.2 _; exact i1.mono (by omega); exact i2.mono (by omega)) rfl
  | iff a b c i1 i2 i3 => exact pyn_t (n := max (htT a) (max (htT b) (htT c))) (by intro y hy; simp at hy; rcases hy with rfl | rfl | rfl | rfl; exact pyn_lit _ _; exact i1.mono (by omega); exact i2.mono (by omega); exact i3.mono (by omega)) rfl
  | c1 a p b i1 i2 => exact pyn_t (n := max (htT a) (max 2 (htT b)) + 2) (by intro y hy; simp at hy; rcases hy with rfl | rfl | rfl; exact pyn_lit _ _; exact i1.mono (by omega); exact pyn_t (n := max (htT a) (max 2 (htT b)) + 1) (by intro z hz; simp at hz; subst hz; exact pyn_t (n := max (htT a) (max 2 (htT b))) (by intro u hu; simp at hu; rcases hu with rfl | rfl; exact p.2.mono (by omega); exact i2.mono (by omega)) rfl) rfl) rfl
  | c2 a p b q c i1 i2 i3 => exact pyn_t (n := max (htT a) (max 2 (max (htT b) (htT c))) + 2) (by intro y hy; simp at hy; rcases hy with rfl | rfl | rfl; exact pyn_lit _ _; exact i1.mono (by omega); exact pyn_t (n := max (htT a) (max 2 (max (htT b) (htT c))) + 1) (by intro z hz; simp at hz; rcases hz with rfl | rfl; exact pyn_t (n := max (htT a) (max 2 (max (htT b) (htT c)))) (by intro u hu; simp at hu; rcases hu with rfl | rfl; exact p.2.mono (by omega); exact i2.mono (by omega)) rfl; exact pyn_t (n := max (htT a) (max 2 (max (htT b) (htT c)))) (by intro u hu; simp at hu; rcases hu with rfl | rfl; exact q.2.mono (by omega); exact i3.mono (by omega)) rfl) rfl) rfl
theorem fz_T (t : Tt) : (M.p (enT t)).fz = some (enT t) := rfl
def poE (t : Tt) (fd st : List Tt) (x : Option M) : Env := [some (.p (enT t)), some (.l (fd.map enT)), some (.l (st.map enT)), x]
theorem stT (st : List Tt) (t : Tt) : eqD (.lst (st.map enT ++ [enT t])) (.lst []) = some false := eqD_app (fun x hx => by
  obtain ⟨p, _, rfl⟩ := List.mem_map.mp hx
  exact (pynT p).pyd) (pynT t).pyd
theorem st0 : eqD (.lst []) (.lst []) = some true := eqD_nil (xs := []) (by simp)
theorem hw_parts_of : ∀ ms C CX, ms.length = 1 → sp_parts_of ms C CX → w_parts_of sp_terms_in (env0 N_parts_of ms) (bodyK pr_parts_of 1 C) (fun x e => CX x (outs pr_parts_of 1 e)) := by
  intro ms C CX _ h
  obtain ⟨t0, rfl, h1, h⟩ := h
  unfold w_parts_of
  simp [wSeq, wIf, wTV, wAnd, wOr, wNot, wAndV, wOrV, wNotV, wIfE, wRd, wCons, wNil, woVar, woE, wVar, wMove, wC, wvCons, wvNil, wTup, wLst, wNext, wRet, wRetN, wDrop, wBrk, wCt, wAsg, wgN, wgNil, wgCons, wgT, wPar, wFor, wYes, wLc, wipeE, backE, wCall, wMeth, wDictNew, wgSub, wSlB, wZipL, wiSeq, wiR1, wiR2, wiStr, wiEnum, wiEnumS, bodyK, takeM, putM, msOf, M.fz, Res.m, M.seq, M.lseq, M.mseq, M.dict, isL, isK, gList, gTuple, gAppend, gGet2, gSetd, setD, gEq, gNe, eqD_ss, eqD_ii, eqD_bb, gIn, gNi, gZip, gAll, gAny, gMul, gInt, cPos, cDiv, cMul, gAdd, slD, sliceF, D.key, List.length_cons, List.length_nil, List.getElem?_cons_succ, List.getElem?_cons_zero, List.getElem?_nil, List.set_cons_succ, List.set_cons_zero, List.getD_cons_succ, List.getD_cons_zero, Option.bind_some, Option.map_some, Option.map_none, Option.bind_none, ixN, atI, HT.sIx, cutD, Option.isSome_some, if_true, if_false, ite_true, ite_false, Bool.false_eq_true, decide_eq_true_eq, Bool.not_true, Bool.not_false, true_and, and_true, ofS_inj, String.reduceEq, reduceIte, decide_true, decide_false, Int.reduceAdd, Nat.reduceLeDiff, Nat.reduceAdd, Nat.zero_add, Nat.le_refl, Nat.zero_le, e_parts_of, wWhile]
  refine ⟨fun m e => ∃ fd st x, e = poE t0 fd st x ∧ fd ++ st.reverse.flatMap paT = paT t0 ∧ lnT st = m, ⟨_, [], [t0], none, rfl, by simp, rfl⟩, ?_⟩
  rintro m e ⟨fd, st, x, rfl, hp, hm⟩
  unfold poE
  have hlen : fd.length + lnT st ≤ 1000 := by
    have := congrArg List.length hp
    rw [List.length_append, lnT_flat, lnT_rev] at this
    omega
  rcases List.eq_nil_or_concat st with rfl | ⟨st, t, rfl⟩
  · simp at hp
    subst hp
    simp [wSeq, wIf, wTV, wAnd, wOr, wNot, wAndV, wOrV, wNotV, wIfE, wRd, wCons, wNil, woVar, woE, wVar, wMove, wC, wvCons, wvNil, wTup, wLst, wNext, wRet, wRetN, wDrop, wBrk, wCt, wAsg, wgN, wgNil, wgCons, wgT, wPar, wFor, wYes, wLc, wipeE, backE, wCall, wMeth, wDictNew, wgSub, wSlB, wZipL, wiSeq, wiR1, wiR2, wiStr, wiEnum, wiEnumS, bodyK, takeM, putM, msOf, M.fz, Res.m, M.seq, M.lseq, M.mseq, M.dict, isL, isK, gList, gTuple, gAppend, gGet2, gSetd, setD, gEq, gNe, eqD_ss, eqD_ii, eqD_bb, gIn, gNi, gZip, gAll, gAny, gMul, gInt, cPos, cDiv, cMul, gAdd, slD, sliceF, D.key, List.length_cons, List.length_nil, List.getElem?_cons_succ, List.getElem?_cons_zero, List.getElem?_nil, List.set_cons_succ, List.set_cons_zero, List.getD_cons_succ, List.getD_cons_zero, Option.bind_some, Option.map_some, Option.map_none, Option.bind_none, ixN, atI, HT.sIx, cutD, Option.isSome_some, if_true, if_false, ite_true, ite_false, Bool.false_eq_true, decide_eq_true_eq, Bool.not_true, Bool.not_false, true_and, and_true, ofS_inj, String.reduceEq, reduceIte, decide_true, decide_false, Int.reduceAdd, Nat.reduceLeDiff, Nat.reduceAdd, Nat.zero_add, Nat.le_refl, Nat.zero_le, st0, o_parts_of, w_parts_of_t1]
    exact h _
  · rw [List.concat_eq_append] at hp hm hlen ⊢
    have e1 : lnT (st ++ [t]) = lnT st + (1 + lnT (inT t)) := by
      rw [lnT_app]
      have : lnT [t] = (paT t).length := by simp [lnT]
      rw [this, paT_eq, List.length_cons, lnT_flat]; omega
    have l1 := lnT_le st
    have l2 := lnT_le (inT t)
    have hfl : fd.length < 100000 := by omega
    have hst : st.length + (inT t).length ≤ 100000 := by omega
    simp [wSeq, wIf, wTV, wAnd, wOr, wNot, wAndV, wOrV, wNotV, wIfE, wRd, wCons, wNil, woVar, woE, wVar, wMove, wC, wvCons, wvNil, wTup, wLst, wNext, wRet, wRetN, wDrop, wBrk, wCt, wAsg, wgN, wgNil, wgCons, wgT, wPar, wFor, wYes, wLc, wipeE, backE, wCall, wMeth, wDictNew, wgSub, wSlB, wZipL, wiSeq, wiR1, wiR2, wiStr, wiEnum, wiEnumS, bodyK, takeM, putM, msOf, M.fz, Res.m, M.seq, M.lseq, M.mseq, M.dict, isL, isK, gList, gTuple, gAppend, gGet2, gSetd, setD, gEq, gNe, eqD_ss, eqD_ii, eqD_bb, gIn, gNi, gZip, gAll, gAny, gMul, gInt, cPos, cDiv, cMul, gAdd, slD, sliceF, D.key, List.length_cons, List.length_nil, List.getElem?_cons_succ, List.getElem?_cons_zero, List.getElem?_nil, List.set_cons_succ, List.set_cons_zero, List.getD_cons_succ, List.getD_cons_zero, Option.bind_some, Option.map_some, Option.map_none, Option.bind_none, ixN, atI, HT.sIx, cutD, Option.isSome_some, if_true, if_false, ite_true, ite_false, Bool.false_eq_true, decide_eq_true_eq, Bool.not_true, Bool.not_false, true_and, and_true, ofS_inj, String.reduceEq, reduceIte, decide_true, decide_false, Int.reduceAdd, Nat.reduceLeDiff, Nat.reduceAdd, Nat.zero_add, Nat.le_refl, Nat.zero_le, stT, gPop, w_parts_of_t1, w_parts_of_b1, hfl]
    simp [wSeq, wIf, wTV, wAnd, wOr, wNot, wAndV, wOrV, wNotV, wIfE, wRd, wCons, wNil, woVar, woE, wVar, wMove, wC, wvCons, wvNil, wTup, wLst, wNext, wRet, wRetN, wDrop, wBrk, wCt, wAsg, wgN, wgNil, wgCons, wgT, wPar, wFor, wYes, wLc, wipeE, backE, wCall, wMeth, wDictNew, wgSub, wSlB, wZipL, wiSeq, wiR1, wiR2, wiStr, wiEnum, wiEnumS, bodyK, takeM, putM, msOf, M.fz, Res.m, M.seq, M.lseq, M.mseq, M.dict, isL, isK, gList, gTuple, gAppend, gGet2, gSetd, setD, gEq, gNe, eqD_ss, eqD_ii, eqD_bb, gIn, gNi, gZip, gAll, gAny, gMul, gInt, cPos, cDiv, cMul, gAdd, slD, sliceF, D.key, List.length_cons, List.length_nil, List.getElem?_cons_succ, List.getElem?_cons_zero, List.getElem?_nil, List.set_cons_succ, List.set_cons_zero, List.getD_cons_succ, List.getD_cons_zero, Option.bind_some, Option.map_some, Option.map_none, Option.bind_none, ixN, atI, HT.sIx, cutD, Option.isSome_some, if_true, if_false, ite_true, ite_false, Bool.false_eq_true, decide_eq_true_eq, Bool.not_true, Bool.not_false, true_and, and_true, ofS_inj, String.reduceEq, reduceIte, decide_true, decide_false, Int.reduceAdd, Nat.reduceLeDiff, Nat.reduceAdd, Nat.zero_add, Nat.le_refl, Nat.zero_le, w_parts_of_s1]
    refine ⟨t, rfl, fun o => ?_⟩
    simp [wSeq, wIf, wTV, wAnd, wOr, wNot, wAndV, wOrV, wNotV, wIfE, wRd, wCons, wNil, woVar, woE, wVar, wMove, wC, wvCons, wvNil, wTup, wLst, wNext, wRet, wRetN, wDrop, wBrk, wCt, wAsg, wgN, wgNil, wgCons, wgT, wPar, wFor, wYes, wLc, wipeE, backE, wCall, wMeth, wDictNew, wgSub, wSlB, wZipL, wiSeq, wiR1, wiR2, wiStr, wiEnum, wiEnumS, bodyK, takeM, putM, msOf, M.fz, Res.m, M.seq, M.lseq, M.mseq, M.dict, isL, isK, gList, gTuple, gAppend, gGet2, gSetd, setD, gEq, gNe, eqD_ss, eqD_ii, eqD_bb, gIn, gNi, gZip, gAll, gAny, gMul, gInt, cPos, cDiv, cMul, gAdd, slD, sliceF, D.key, List.length_cons, List.length_nil, List.getElem?_cons_succ, List.getElem?_cons_zero, List.getElem?_nil, List.set_cons_succ, List.set_cons_zero, List.getD_cons_succ, List.getD_cons_zero, Option.bind_some, Option.map_some, Option.map_none, Option.bind_none, ixN, atI, HT.sIx, cutD, Option.isSome_some, if_true, if_false, ite_true, ite_false, Bool.false_eq_true, decide_eq_true_eq, Bool.not_true, Bool.not_false, true_and, and_true, ofS_inj, String.reduceEq, reduceIte, decide_true, decide_false, Int.reduceAdd, Nat.reduceLeDiff, Nat.reduceAdd, Nat.zero_add, Nat.le_refl, Nat.zero_le, gRevSl, gExtend, hst]
    refine ⟨lnT (st ++ (inT t).reverse), ?_, fd ++ [t], st ++ (inT t).reverse, ?_, ?_, rfl⟩
    · rw [lnT_app, lnT_rev]; omega
    · simp [poE]
    · rw [← hp]
      simp [paT_eq t]
end BV

namespace BV
open PySem L2 PyProof.Rows
theorem ht_inT {t u : Tt} (h : u ∈ inT t) : htT u < htT t := by
  cases t <;> simp [inT] at h <;> simp [htT] <;> first | omega | (subst h; omega) | (rcases h with rfl | rfl <;> omega) | (rcases h with rfl | rfl | rfl <;> omega)
def sp__law_parts (n : Nat) : WF := fun ms C CX => ∃ t : Tt, ms = [.p (enT t)] ∧ htT t ≤ n ∧ (paT t).length ≤ 1000 ∧ ∀ o, C (.l ((paT t).map enT)) [o]
theorem lf_parts {n : Nat} {C : KS} {X : KX} {a : Option M} : ∀ (us fd : List Tt) (x : Option M), (∀ u ∈ us, htT u ≤ n) → fd.length + lnT us ≤ 1000 → (∀ x, C.nx [a, some (.l ((fd ++ us.flatMap paT).map enT)), x]) →
    wForL w_L_parts_g1 (w_L_parts_b1 (sp__law_parts n)) C X (us.map enT) [a, some (.l (fd.map enT)), x] := by
  intro us
  induction us with
  | nil =>
    intro fd x _ _ h
    have := h x
    simp at this
    exact this
  | cons u us ih =>
    intro fd x hn hl h
    have e : lnT (u :: us) = (paT u).length + lnT us := by simp [lnT]
    rw [e] at hl
    simp [wForL, w_L_parts_g1, w_L_parts_b1, wSeq, wIf, wTV, wAnd, wOr, wNot, wAndV, wOrV, wNotV, wIfE, wRd, wCons, wNil, woVar, woE, wVar, wMove, wC, wvCons, wvNil, wTup, wLst, wNext, wRet, wRetN, wDrop, wBrk, wCt, wAsg, wgN, wgNil, wgCons, wgT, wPar, wFor, wYes, wLc, wipeE, backE, wCall, wMeth, wDictNew, wgSub, wSlB, wZipL, wiSeq, wiR1, wiR2, wiStr, wiEnum, wiEnumS, bodyK, takeM, putM, msOf, M.fz, Res.m, M.seq, M.lseq, M.mseq, M.dict, isL, isK, gList, gTuple, gAppend, gGet2, gSetd, setD, gEq, gNe, eqD_ss, eqD_ii, eqD_bb, gIn, gNi, gZip, gAll, gAny, gMul, gInt, cPos, cDiv, cMul, gAdd, slD, sliceF, D.key, List.length_cons, List.length_nil, List.getElem?_cons_succ, List.getElem?_cons_zero, List.getElem?_nil, List.set_cons_succ, List.set_cons_zero, List.getD_cons_succ, List.getD_cons_zero, Option.bind_some, Option.map_some, Option.map_none, Option.bind_none, ixN, atI, HT.sIx, cutD, Option.isSome_some, if_true, if_false, ite_true, ite_false, Bool.false_eq_true, decide_eq_true_eq, Bool.not_true, Bool.not_false, true_and, and_true, ofS_inj, String.reduceEq, reduceIte, decide_true, decide_false, Int.reduceAdd, Nat.reduceLeDiff, Nat.reduceAdd, Nat.zero_add, Nat.le_refl, Nat.zero_le, w_L_parts_s1, w_L_parts_s2]
    refine ⟨u, rfl, hn u (by simp), by omega, fun o => ?_⟩
    have hq : fd.length + (paT u).length ≤ 100000 := by omega
    simp [wSeq, wIf, wTV, wAnd, wOr, wNot, wAndV, wOrV, wNotV, wIfE, wRd, wCons, wNil, woVar, woE, wVar, wMove, wC, wvCons, wvNil, wTup, wLst, wNext, wRet, wRetN, wDrop, wBrk, wCt, wAsg, wgN, wgNil, wgCons, wgT, wPar, wFor, wYes, wLc, wipeE, backE, wCall, wMeth, wDictNew, wgSub, wSlB, wZipL, wiSeq, wiR1, wiR2, wiStr, wiEnum, wiEnumS, bodyK, takeM, putM, msOf, M.fz, Res.m, M.seq, M.lseq, M.mseq, M.dict, isL, isK, gList, gTuple, gAppend, gGet2, gSetd, setD, gEq, gNe, eqD_ss, eqD_ii, eqD_bb, gIn, gNi, gZip, gAll, gAny, gMul, gInt, cPos, cDiv, cMul, gAdd, slD, sliceF, D.key, List.length_cons, List.length_nil, List.getElem?_cons_succ, List.getElem?_cons_zero, List.getElem?_nil, List.set_cons_succ, List.set_cons_zero, List.getD_cons_succ, List.getD_cons_zero, Option.bind_some, Option.map_some, Option.map_none, Option.bind_none, ixN, atI, HT.sIx, cutD, Option.isSome_some, if_true, if_false, ite_true, ite_false, Bool.false_eq_true, decide_eq_true_eq, Bool.not_true, Bool.not_false, true_and, and_true, ofS_inj, String.reduceEq, reduceIte, decide_true, decide_false, Int.reduceAdd, Nat.reduceLeDiff, Nat.reduceAdd, Nat.zero_add, Nat.le_refl, Nat.zero_le, hq]
    rw [← List.map_append]
    refine ih (fd ++ paT u) _ (fun v hv => hn v (by simp [hv])) (by simp; omega) fun x => ?_
    have := h x
    simpa using this
theorem hw_L_parts (n : Nat) : ∀ ms C CX, ms.length = 1 → sp__law_parts (n + 1) ms C CX → w_L_parts sp__law_inner (sp__law_parts n) (env0 N_L_parts ms) (bodyK pr_L_parts 1 C) (fun x e => CX x (outs pr_L_parts 1 e)) := by
  intro ms C CX _ h
  obtain ⟨t, rfl, h1, h2, h⟩ := h
  unfold w_L_parts
  simp [wSeq, wIf, wTV, wAnd, wOr, wNot, wAndV, wOrV, wNotV, wIfE, wRd, wCons, wNil, woVar, woE, wVar, wMove, wC, wvCons, wvNil, wTup, wLst, wNext, wRet, wRetN, wDrop, wBrk, wCt, wAsg, wgN, wgNil, wgCons, wgT, wPar, wFor, wYes, wLc, wipeE, backE, wCall, wMeth, wDictNew, wgSub, wSlB, wZipL, wiSeq, wiR1, wiR2, wiStr, wiEnum, wiEnumS, bodyK, takeM, putM, msOf, M.fz, Res.m, M.seq, M.lseq, M.mseq, M.dict, isL, isK, gList, gTuple, gAppend, gGet2, gSetd, setD, gEq, gNe, eqD_ss, eqD_ii, eqD_bb, gIn, gNi, gZip, gAll, gAny, gMul, gInt, cPos, cDiv, cMul, gAdd, slD, sliceF, D.key, List.length_cons, List.length_nil, List.getElem?_cons_succ, List.getElem?_cons_zero, List.getElem?_nil, List.set_cons_succ, List.set_cons_zero, List.getD_cons_succ, List.getD_cons_zero, Option.bind_some, Option.map_some, Option.map_none, Option.bind_none, ixN, atI, HT.sIx, cutD, Option.isSome_some, if_true, if_false, ite_true, ite_false, Bool.false_eq_true, decide_eq_true_eq, Bool.not_true, Bool.not_false, true_and, and_true, ofS_inj, String.reduceEq, reduceIte, decide_true, decide_false, Int.reduceAdd, Nat.reduceLeDiff, Nat.reduceAdd, Nat.zero_add, Nat.le_refl, Nat.zero_le, w_L_parts_s1, w_L_parts_s2, e_L_parts]
  refine ⟨t, rfl, fun o => ?_⟩
  simp [wSeq, wIf, wTV, wAnd, wOr, wNot, wAndV, wOrV, wNotV, wIfE, wRd, wCons, wNil, woVar, woE, wVar, wMove, wC, wvCons, wvNil, wTup, wLst, wNext, wRet, wRetN, wDrop, wBrk, wCt, wAsg, wgN, wgNil, wgCons, wgT, wPar, wFor, wYes, wLc, wipeE, backE, wCall, wMeth, wDictNew, wgSub, wSlB, wZipL, wiSeq, wiR1, wiR2, wiStr, wiEnum, wiEnumS, bodyK, takeM, putM, msOf, M.fz, Res.m, M.seq, M.lseq, M.mseq, M.dict, isL, isK, gList, gTuple, gAppend, gGet2, gSetd, setD, gEq, gNe, eqD_ss, eqD_ii, eqD_bb, gIn, gNi, gZip, gAll, gAny, gMul, gInt, cPos, cDiv, cMul, gAdd, slD, sliceF, D.key, List.length_cons, List.length_nil, List.getElem?_cons_succ, List.getElem?_cons_zero, List.getElem?_nil, List.set_cons_succ, List.set_cons_zero, List.getD_cons_succ, List.getD_cons_zero, Option.bind_some, Option.map_some, Option.map_none, Option.bind_none, ixN, atI, HT.sIx, cutD, Option.isSome_some, if_true, if_false, ite_true, ite_false, Bool.false_eq_true, decide_eq_true_eq, Bool.not_true, Bool.not_false, true_and, and_true, ofS_inj, String.reduceEq, reduceIte, decide_true, decide_false, Int.reduceAdd, Nat.reduceLeDiff, Nat.reduceAdd, Nat.zero_add, Nat.le_refl, Nat.zero_le]
  have e := paT_eq t
  have hl : (paT t).length = 1 + lnT (inT t) := by rw [e, List.length_cons, lnT_flat]; omega
  refine lf_parts (inT t) [t] none (fun u hu => by have := ht_inT hu; omega) (by simp; omega) fun x => ?_
  rw [show [t] ++ (inT t).flatMap paT = paT t from e.symm]
  simp [wSeq, wIf, wTV, wAnd, wOr, wNot, wAndV, wOrV, wNotV, wIfE, wRd, wCons, wNil, woVar, woE, wVar, wMove, wC, wvCons, wvNil, wTup, wLst, wNext, wRet, wRetN, wDrop, wBrk, wCt, wAsg, wgN, wgNil, wgCons, wgT, wPar, wFor, wYes, wLc, wipeE, backE, wCall, wMeth, wDictNew, wgSub, wSlB, wZipL, wiSeq, wiR1, wiR2, wiStr, wiEnum, wiEnumS, bodyK, takeM, putM, msOf, M.fz, Res.m, M.seq, M.lseq, M.mseq, M.dict, isL, isK, gList, gTuple, gAppend, gGet2, gSetd, setD, gEq, gNe, eqD_ss, eqD_ii, eqD_bb, gIn, gNi, gZip, gAll, gAny, gMul, gInt, cPos, cDiv, cMul, gAdd, slD, sliceF, D.key, List.length_cons, List.length_nil, List.getElem?_cons_succ, List.getElem?_cons_zero, List.getElem?_nil, List.set_cons_succ, List.set_cons_zero, List.getD_cons_succ, List.getD_cons_zero, Option.bind_some, Option.map_some, Option.map_none, Option.bind_none, ixN, atI, HT.sIx, cutD, Option.isSome_some, if_true, if_false, ite_true, ite_false, Bool.false_eq_true, decide_eq_true_eq, Bool.not_true, Bool.not_false, true_and, and_true, ofS_inj, String.reduceEq, reduceIte, decide_true, decide_false, Int.reduceAdd, Nat.reduceLeDiff, Nat.reduceAdd, Nat.zero_add, Nat.le_refl, Nat.zero_le, o_L_parts]
  exact h _
/-! ### kinds -/
inductive Kk | letter (s : Nm) | number | truth | list (k : Kk) | pair (a b : Kk) | to (a b : Kk) | nm0 (s : Nm) | nm1 (s : Nm) (a : Kk) | nm3 (s : Nm) (a b c : Kk)
def enK : Kk → D
  | .letter s => .tup [.str "letter", .str s.1] | .number => .tup [.str "number"] | .truth => .tup [.str "truth"] | .list k => .tup [.str "list", enK k] | .pair a b => .tup [.str "pair", enK a, enK b] | .to a b => .tup [.str "to", enK a, enK b]
  | .nm0 s => .tup [.str "named", .str s.1, .tup []] | .nm1 s a => .tup [.str "named", .str s.1, .tup [enK a]] | .nm3 s a b c => .tup [.str "named", .str s.1, .tup [enK a, enK b, enK c]]
def inK : Kk → List Kk
  | .list k => [k] | .pair a b => [a, b] | .to a b => [a, b] | .nm1 _ a => [a] | .nm3 _ a b c => [a, b, c] | _ => []
def paK : Kk → List Kk
  | .letter s => [.letter s] | .number => [.number] | .truth => [.truth] | .list k => .list k :: paK k | .pair a b => .pair a b :: (paK a ++ paK b) | .to a b => .to a b :: (paK a ++ paK b)
  | .nm0 s => [.nm0 s] | .nm1 s a => .nm1 s a :: paK a | .nm3 s a b c => .nm3 s a b c :: (paK a ++ (paK b ++ paK c))
theorem paK_eq (t : Kk) : paK t = t :: (inK t).flatMap paK := by cases t <;> simp [paK, inK]
def htK : Kk → Nat
  | .letter _ => 1 | .number => 1 | .truth => 1 | .list k => htK k + 1 | .pair a b => max (htK a) (htK b) + 1 | .to a b => max (htK a) (htK b) + 1
  | .nm0 _ => 2 | .nm1 _ a => htK a + 2 | .nm3 _ a b c => max (htK a) (max (htK b) (htK c)) + 2
theorem pynK (t : Kk) : Pyn (htK t) (enK t) := by
  induction t with
  | letter s => exact pyn_t (n := 0) (by intro y hy; simp at hy; rcases hy with rfl | rfl; exact pyn_lit _ _; exact pyn_str s.2 _) rfl
  | number => exact pyn_t (n := 0) (by intro y hy; simp at hy; subst hy; exact pyn_lit _ _) rfl
  | truth => exact pyn_t (n := 0) (by intro y hy; simp at hy; subst hy; exact pyn_lit _ _) rfl
  | list a ih => exact pyn_t (n := htK a) (by intro y hy; simp at hy; rcases hy with rfl | rfl; exact pyn_lit _ _; exact ih) rfl
  | pair a b i1 i2 => exact pyn_t (n := max (htK a) (htK b)) (by intro y hy; simp at hy; rcases hy with rfl | rfl | rfl; exact pyn_lit _ _; exact i1.mono (by omega); exact i2.mono (by omega)) rfl
  | to a b i1 i2 => exact pyn_t (n := max (htK a) (htK b)) (by intro y hy; simp at hy; rcases hy with rfl | rfl | rfl; exact pyn_lit _ _; exact i1.mono (by omega); exact i2.mono (by omega)) rfl
  | nm0 s => exact pyn_t (n := 1) (by intro y hy; simp at hy; rcases hy with rfl | rfl | rfl; exact pyn_lit _ _; exact pyn_str s.2 _; exact pyn_t (n := 0) (by simp) rfl) rfl
  | nm1 s a ih => exact pyn_t (n := htK a + 1) (by intro y hy; simp at hy; rcases hy with rfl | rfl | rfl; exact pyn_lit _ _; exact pyn_str s.2 _; exact pyn_t (n := htK a) (by intro z hz; simp at hz; subst hz; exact ih) rfl) rfl
  | nm3 s a b c i1 i2 i3 => exact pyn_t (n := max (htK a) (max (htK b) (htK c)) + 1) (by intro y hy; simp at hy; rcases hy with rfl | rfl | rfl; exact pyn_lit _ _; exact pyn_str s.2 _; exact pyn_t (n := max (htK a) (max (htK b) (htK c))) (by intro z hz; simp at hz; rcases hz with rfl | rfl | rfl; exact i1.mono (by omega); exact i2.mono (by omega); exact i3.mono (by omega)) rfl) rfl
def sp_kinds_in : WF := fun ms C CX => ∃ t : Kk, ms = [.p (enK t)] ∧ ∀ o, C (.l ((inK t).map enK)) [o]
theorem hw_kinds_in : ∀ ms C CX, ms.length = 1 → sp_kinds_in ms C CX → w_kinds_in (env0 N_kinds_in ms) (bodyK pr_kinds_in 1 C) (fun x e => CX x (outs pr_kinds_in 1 e)) := by
  intro ms C CX _ h
  obtain ⟨t, rfl, h⟩ := h
  unfold w_kinds_in
  cases t <;> simp [wSeq, wIf, wTV, wAnd, wOr, wNot, wAndV, wOrV, wNotV, wIfE, wRd, wCons, wNil, woVar, woE, wVar, wMove, wC, wvCons, wvNil, wTup, wLst, wNext, wRet, wRetN, wDrop, wBrk, wCt, wAsg, wgN, wgNil, wgCons, wgT, wPar, wFor, wYes, wLc, wipeE, backE, wCall, wMeth, wDictNew, wgSub, wSlB, wZipL, wiSeq, wiR1, wiR2, wiStr, wiEnum, wiEnumS, bodyK, takeM, putM, msOf, M.fz, Res.m, M.seq, M.lseq, M.mseq, M.dict, isL, isK, gList, gTuple, gAppend, gGet2, gSetd, setD, gEq, gNe, eqD_ss, eqD_ii, eqD_bb, gIn, gNi, gZip, gAll, gAny, gMul, gInt, cPos, cDiv, cMul, gAdd, slD, sliceF, D.key, List.length_cons, List.length_nil, List.getElem?_cons_succ, List.getElem?_cons_zero, List.getElem?_nil, List.set_cons_succ, List.set_cons_zero, List.getD_cons_succ, List.getD_cons_zero, Option.bind_some, Option.map_some, Option.map_none, Option.bind_none, ixN, atI, HT.sIx, cutD, Option.isSome_some, if_true, if_false, ite_true, ite_false, Bool.false_eq_true, decide_eq_true_eq, Bool.not_true, Bool.not_false, true_and, and_true, ofS_inj, String.reduceEq, reduceIte, decide_true, decide_false, Int.reduceAdd, Nat.reduceLeDiff, Nat.reduceAdd, Nat.zero_add, Nat.le_refl, Nat.zero_le, w_kinds_in_s1, w_kinds_in_s2, e_kinds_in, o_kinds_in, enK, inD, eqF, flatD, inK, gIx, str_beq] at h ⊢ <;> exact h _
def sp__law_kind_inner : WF := sp_kinds_in
theorem hw_L_kind_inner : ∀ ms C CX, ms.length = 1 → sp__law_kind_inner ms C CX → w_L_kind_inner (env0 N_L_kind_inner ms) (bodyK pr_L_kind_inner 1 C) (fun x e => CX x (outs pr_L_kind_inner 1 e)) := by
  intro ms C CX _ h
  obtain ⟨t, rfl, h⟩ := h
  unfold w_L_kind_inner
  cases t <;> simp [wSeq, wIf, wTV, wAnd, wOr, wNot, wAndV, wOrV, wNotV, wIfE, wRd, wCons, wNil, woVar, woE, wVar, wMove, wC, wvCons, wvNil, wTup, wLst, wNext, wRet, wRetN, wDrop, wBrk, wCt, wAsg, wgN, wgNil, wgCons, wgT, wPar, wFor, wYes, wLc, wipeE, backE, wCall, wMeth, wDictNew, wgSub, wSlB, wZipL, wiSeq, wiR1, wiR2, wiStr, wiEnum, wiEnumS, bodyK, takeM, putM, msOf, M.fz, Res.m, M.seq, M.lseq, M.mseq, M.dict, isL, isK, gList, gTuple, gAppend, gGet2, gSetd, setD, gEq, gNe, eqD_ss, eqD_ii, eqD_bb, gIn, gNi, gZip, gAll, gAny, gMul, gInt, cPos, cDiv, cMul, gAdd, slD, sliceF, D.key, List.length_cons, List.length_nil, List.getElem?_cons_succ, List.getElem?_cons_zero, List.getElem?_nil, List.set_cons_succ, List.set_cons_zero, List.getD_cons_succ, List.getD_cons_zero, Option.bind_some, Option.map_some, Option.map_none, Option.bind_none, ixN, atI, HT.sIx, cutD, Option.isSome_some, if_true, if_false, ite_true, ite_false, Bool.false_eq_true, decide_eq_true_eq, Bool.not_true, Bool.not_false, true_and, and_true, ofS_inj, String.reduceEq, reduceIte, decide_true, decide_false, Int.reduceAdd, Nat.reduceLeDiff, Nat.reduceAdd, Nat.zero_add, Nat.le_refl, Nat.zero_le, w_L_kind_inner_s1, w_L_kind_inner_s2, e_L_kind_inner, o_L_kind_inner, enK, inD, eqF, flatD, inK, gIx, str_beq] at h ⊢ <;> exact h _
theorem paK_len (t : Kk) : 1 ≤ (paK t).length := by rw [paK_eq]; simp
def lnK (st : List Kk) : Nat := (st.map fun t => (paK t).length).sum
theorem lnK_app (a b : List Kk) : lnK (a ++ b) = lnK a + lnK b := by simp [lnK]
theorem lnK_rev (a : List Kk) : lnK a.reverse = lnK a := by simp [lnK]
theorem lnK_flat (a : List Kk) : (a.flatMap paK).length = lnK a := by simp [lnK, List.length_flatMap]
theorem lnK_le (a : List Kk) : a.length ≤ lnK a := by
  induction a with
  | nil => simp
  | cons t a ih => have := paK_len t; simp [lnK] at ih ⊢; omega
def sp_kind_parts : WF := fun ms C CX => ∃ t : Kk, ms = [.p (enK t)] ∧ (paK t).length ≤ 1000 ∧ ∀ o, C (.l ((paK t).map enK)) [o]
def koE (t : Kk) (fd st : List Kk) (x : Option M) : Env := [some (.p (enK t)), some (.l (fd.map enK)), some (.l (st.map enK)), x]
theorem stK (st : List Kk) (t : Kk) : eqD (.lst (st.map enK ++ [enK t])) (.lst []) = some false := eqD_app (fun x hx => by
  obtain ⟨p, _, rfl⟩ := List.mem_map.mp hx
  exact (pynK p).pyd) (pynK t).pyd
theorem hw_kind_parts : ∀ ms C CX, ms.length = 1 → sp_kind_parts ms C CX → w_kind_parts sp_kinds_in (env0 N_kind_parts ms) (bodyK pr_kind_parts 1 C) (fun x e => CX x (outs pr_kind_parts 1 e)) := by
  intro ms C CX _ h
  obtain ⟨t0, rfl, h1, h⟩ := h
  unfold w_kind_parts
  simp [wSeq, wIf, wTV, wAnd, wOr, wNot, wAndV, wOrV, wNotV, wIfE, wRd, wCons, wNil, woVar, woE, wVar, wMove, wC, wvCons, wvNil, wTup, wLst, wNext, wRet, wRetN, wDrop, wBrk, wCt, wAsg, wgN, wgNil, wgCons, wgT, wPar, wFor, wYes, wLc, wipeE, backE, wCall, wMeth, wDictNew, wgSub, wSlB, wZipL, wiSeq, wiR1, wiR2, wiStr, wiEnum, wiEnumS, bodyK, takeM, putM, msOf, M.fz, Res.m, M.seq, M.lseq, M.mseq, M.dict, isL, isK, gList, gTuple, gAppend, gGet2, gSetd, setD, gEq, gNe, eqD_ss, eqD_ii, eqD_bb, gIn, gNi, gZip, gAll, gAny, gMul, gInt, cPos, cDiv, cMul, gAdd, slD, sliceF, D.key, List.length_cons, List.length_nil, List.getElem?_cons_succ, List.getElem?_cons_zero, List.getElem?_nil, List.set_cons_succ, List.set_cons_zero, List.getD_cons_succ, List.getD_cons_zero, Option.bind_some, Option.map_some, Option.map_none, Option.bind_none, ixN, atI, HT.sIx, cutD, Option.isSome_some, if_true, if_false, ite_true, ite_false, Bool.false_eq_true, decide_eq_true_eq, Bool.not_true, Bool.not_false, true_and, and_true, ofS_inj, String.reduceEq, reduceIte, decide_true, decide_false, Int.reduceAdd, Nat.reduceLeDiff, Nat.reduceAdd, Nat.zero_add, Nat.le_refl, Nat.zero_le, e_kind_parts, wWhile]
  refine ⟨fun m e => ∃ fd st x, e = koE t0 fd st x ∧ fd ++ st.reverse.flatMap paK = paK t0 ∧ lnK st = m, ⟨_, [], [t0], none, rfl, by simp, rfl⟩, ?_⟩
  rintro m e ⟨fd, st, x, rfl, hp, hm⟩
  unfold koE
  have hlen : fd.length + lnK st ≤ 1000 := by
    have := congrArg List.length hp
    rw [List.length_append, lnK_flat, lnK_rev] at this
    omega
  rcases List.eq_nil_or_concat st with rfl | ⟨st, t, rfl⟩
  · simp at hp
    subst hp
    simp [wSeq, wIf, wTV, wAnd, wOr, wNot, wAndV, wOrV, wNotV, wIfE, wRd, wCons, wNil, woVar, woE, wVar, wMove, wC, wvCons, wvNil, wTup, wLst, wNext, wRet, wRetN, wDrop, wBrk, wCt, wAsg, wgN, wgNil, wgCons, wgT, wPar, wFor, wYes, wLc, wipeE, backE, wCall, wMeth, wDictNew, wgSub, wSlB, wZipL, wiSeq, wiR1, wiR2, wiStr, wiEnum, wiEnumS, bodyK, takeM, putM, msOf, M.fz, Res.m, M.seq, M.lseq, M.mseq, M.dict, isL, isK, gList, gTuple, gAppend, gGet2, gSetd, setD, gEq, gNe, eqD_ss, eqD_ii, eqD_bb, gIn, gNi, gZip, gAll, gAny, gMul, gInt, cPos, cDiv, cMul, gAdd, slD, sliceF, D.key, List.length_cons, List.length_nil, List.getElem?_cons_succ, List.getElem?_cons_zero, List.getElem?_nil, List.set_cons_succ, List.set_cons_zero, List.getD_cons_succ, List.getD_cons_zero, Option.bind_some, Option.map_some, Option.map_none, Option.bind_none, ixN, atI, HT.sIx, cutD, Option.isSome_some, if_true, if_false, ite_true, ite_false, Bool.false_eq_true, decide_eq_true_eq, Bool.not_true, Bool.not_false, true_and, and_true, ofS_inj, String.reduceEq, reduceIte, decide_true, decide_false, Int.reduceAdd, Nat.reduceLeDiff, Nat.reduceAdd, Nat.zero_add, Nat.le_refl, Nat.zero_le, st0, o_kind_parts, w_kind_parts_t1]
    exact h _
  · rw [List.concat_eq_append] at hp hm hlen ⊢
    have e1 : lnK (st ++ [t]) = lnK st + (1 + lnK (inK t)) := by
      rw [lnK_app]
      have : lnK [t] = (paK t).length := by simp [lnK]
      rw [this, paK_eq, List.length_cons, lnK_flat]; omega
    have l1 := lnK_le st
    have l2 := lnK_le (inK t)
    have hfl : fd.length < 100000 := by omega
    have hst : st.length + (inK t).length ≤ 100000 := by omega
    simp [wSeq, wIf, wTV, wAnd, wOr, wNot, wAndV, wOrV, wNotV, wIfE, wRd, wCons, wNil, woVar, woE, wVar, wMove, wC, wvCons, wvNil, wTup, wLst, wNext, wRet, wRetN, wDrop, wBrk, wCt, wAsg, wgN, wgNil, wgCons, wgT, wPar, wFor, wYes, wLc, wipeE, backE, wCall, wMeth, wDictNew, wgSub, wSlB, wZipL, wiSeq, wiR1, wiR2, wiStr, wiEnum, wiEnumS, bodyK, takeM, putM, msOf, M.fz, Res.m, M.seq, M.lseq, M.mseq, M.dict, isL, isK, gList, gTuple, gAppend, gGet2, gSetd, setD, gEq, gNe, eqD_ss, eqD_ii, eqD_bb, gIn, gNi, gZip, gAll, gAny, gMul, gInt, cPos, cDiv, cMul, gAdd, slD, sliceF, D.key, List.length_cons, List.length_nil, List.getElem?_cons_succ, List.getElem?_cons_zero, List.getElem?_nil, List.set_cons_succ, List.set_cons_zero, List.getD_cons_succ, List.getD_cons_zero, Option.bind_some, Option.map_some, Option.map_none, Option.bind_none, ixN, atI, HT.sIx, cutD, Option.isSome_some, if_true, if_false, ite_true, ite_false, Bool.false_eq_true, decide_eq_true_eq, Bool.not_true, Bool.not_false, true_and, and_true, ofS_inj, String.reduceEq, reduceIte, decide_true, decide_false, Int.reduceAdd, Nat.reduceLeDiff, Nat.reduceAdd, Nat.zero_add, Nat.le_refl, Nat.zero_le, stK, gPop, w_kind_parts_t1, w_kind_parts_b1, hfl]
    simp [wSeq, wIf, wTV, wAnd, wOr, wNot, wAndV, wOrV, wNotV, wIfE, wRd, wCons, wNil, woVar, woE, wVar, wMove, wC, wvCons, wvNil, wTup, wLst, wNext, wRet, wRetN, wDrop, wBrk, wCt, wAsg, wgN, wgNil, wgCons, wgT, wPar, wFor, wYes, wLc, wipeE, backE, wCall, wMeth, wDictNew, wgSub, wSlB, wZipL, wiSeq, wiR1, wiR2, wiStr, wiEnum, wiEnumS, bodyK, takeM, putM, msOf, M.fz, Res.m, M.seq, M.lseq, M.mseq, M.dict, isL, isK, gList, gTuple, gAppend, gGet2, gSetd, setD, gEq, gNe, eqD_ss, eqD_ii, eqD_bb, gIn, gNi, gZip, gAll, gAny, gMul, gInt, cPos, cDiv, cMul, gAdd, slD, sliceF, D.key, List.length_cons, List.length_nil, List.getElem?_cons_succ, List.getElem?_cons_zero, List.getElem?_nil, List.set_cons_succ, List.set_cons_zero, List.getD_cons_succ, List.getD_cons_zero, Option.bind_some, Option.map_some, Option.map_none, Option.bind_none, ixN, atI, HT.sIx, cutD, Option.isSome_some, if_true, if_false, ite_true, ite_false, Bool.false_eq_true, decide_eq_true_eq, Bool.not_true, Bool.not_false, true_and, and_true, ofS_inj, String.reduceEq, reduceIte, decide_true, decide_false, Int.reduceAdd, Nat.reduceLeDiff, Nat.reduceAdd, Nat.zero_add, Nat.le_refl, Nat.zero_le, w_kind_parts_s1]
    refine ⟨t, rfl, fun o => ?_⟩
    simp [wSeq, wIf, wTV, wAnd, wOr, wNot, wAndV, wOrV, wNotV, wIfE, wRd, wCons, wNil, woVar, woE, wVar, wMove, wC, wvCons, wvNil, wTup, wLst, wNext, wRet, wRetN, wDrop, wBrk, wCt, wAsg, wgN, wgNil, wgCons, wgT, wPar, wFor, wYes, wLc, wipeE, backE, wCall, wMeth, wDictNew, wgSub, wSlB, wZipL, wiSeq, wiR1, wiR2, wiStr, wiEnum, wiEnumS, bodyK, takeM, putM, msOf, M.fz, Res.m, M.seq, M.lseq, M.mseq, M.dict, isL, isK, gList, gTuple, gAppend, gGet2, gSetd, setD, gEq, gNe, eqD_ss, eqD_ii, eqD_bb, gIn, gNi, gZip, gAll, gAny, gMul, gInt, cPos, cDiv, cMul, gAdd, slD, sliceF, D.key, List.length_cons, List.length_nil, List.getElem?_cons_succ, List.getElem?_cons_zero, List.getElem?_nil, List.set_cons_succ, List.set_cons_zero, List.getD_cons_succ, List.getD_cons_zero, Option.bind_some, Option.map_some, Option.map_none, Option.bind_none, ixN, atI, HT.sIx, cutD, Option.isSome_some, if_true, if_false, ite_true, ite_false, Bool.false_eq_true, decide_eq_true_eq, Bool.not_true, Bool.not_false, true_and, and_true, ofS_inj, String.reduceEq, reduceIte, decide_true, decide_false, Int.reduceAdd, Nat.reduceLeDiff, Nat.reduceAdd, Nat.zero_add, Nat.le_refl, Nat.zero_le, gRevSl, gExtend, hst]
    refine ⟨lnK (st ++ (inK t).reverse), ?_, fd ++ [t], st ++ (inK t).reverse, ?_, ?_, rfl⟩
    · rw [lnK_app, lnK_rev]; omega
    · simp [koE]
    · rw [← hp]
      simp [paK_eq t]
def sp_size_of : WF := fun ms C CX => ∃ t : Kk, ms = [.p (enK t)] ∧ (paK t).length ≤ 1000 ∧ ∀ o, C (.p (.int (paK t).length)) [o]
theorem hw_size_of : ∀ ms C CX, ms.length = 1 → sp_size_of ms C CX → w_size_of sp_kind_parts (env0 N_size_of ms) (bodyK pr_size_of 1 C) (fun x e => CX x (outs pr_size_of 1 e)) := by
  intro ms C CX _ h
  obtain ⟨t, rfl, h1, h⟩ := h
  unfold w_size_of
  simp [wSeq, wIf, wTV, wAnd, wOr, wNot, wAndV, wOrV, wNotV, wIfE, wRd, wCons, wNil, woVar, woE, wVar, wMove, wC, wvCons, wvNil, wTup, wLst, wNext, wRet, wRetN, wDrop, wBrk, wCt, wAsg, wgN, wgNil, wgCons, wgT, wPar, wFor, wYes, wLc, wipeE, backE, wCall, wMeth, wDictNew, wgSub, wSlB, wZipL, wiSeq, wiR1, wiR2, wiStr, wiEnum, wiEnumS, bodyK, takeM, putM, msOf, M.fz, Res.m, M.seq, M.lseq, M.mseq, M.dict, isL, isK, gList, gTuple, gAppend, gGet2, gSetd, setD, gEq, gNe, eqD_ss, eqD_ii, eqD_bb, gIn, gNi, gZip, gAll, gAny, gMul, gInt, cPos, cDiv, cMul, gAdd, slD, sliceF, D.key, List.length_cons, List.length_nil, List.getElem?_cons_succ, List.getElem?_cons_zero, List.getElem?_nil, List.set_cons_succ, List.set_cons_zero, List.getD_cons_succ, List.getD_cons_zero, Option.bind_some, Option.map_some, Option.map_none, Option.bind_none, ixN, atI, HT.sIx, cutD, Option.isSome_some, if_true, if_false, ite_true, ite_false, Bool.false_eq_true, decide_eq_true_eq, Bool.not_true, Bool.not_false, true_and, and_true, ofS_inj, String.reduceEq, reduceIte, decide_true, decide_false, Int.reduceAdd, Nat.reduceLeDiff, Nat.reduceAdd, Nat.zero_add, Nat.le_refl, Nat.zero_le, w_size_of_s1, e_size_of]
  refine ⟨t, rfl, h1, fun o => ?_⟩
  simp [wSeq, wIf, wTV, wAnd, wOr, wNot, wAndV, wOrV, wNotV, wIfE, wRd, wCons, wNil, woVar, woE, wVar, wMove, wC, wvCons, wvNil, wTup, wLst, wNext, wRet, wRetN, wDrop, wBrk, wCt, wAsg, wgN, wgNil, wgCons, wgT, wPar, wFor, wYes, wLc, wipeE, backE, wCall, wMeth, wDictNew, wgSub, wSlB, wZipL, wiSeq, wiR1, wiR2, wiStr, wiEnum, wiEnumS, bodyK, takeM, putM, msOf, M.fz, Res.m, M.seq, M.lseq, M.mseq, M.dict, isL, isK, gList, gTuple, gAppend, gGet2, gSetd, setD, gEq, gNe, eqD_ss, eqD_ii, eqD_bb, gIn, gNi, gZip, gAll, gAny, gMul, gInt, cPos, cDiv, cMul, gAdd, slD, sliceF, D.key, List.length_cons, List.length_nil, List.getElem?_cons_succ, List.getElem?_cons_zero, List.getElem?_nil, List.set_cons_succ, List.set_cons_zero, List.getD_cons_succ, List.getD_cons_zero, Option.bind_some, Option.map_some, Option.map_none, Option.bind_none, ixN, atI, HT.sIx, cutD, Option.isSome_some, if_true, if_false, ite_true, ite_false, Bool.false_eq_true, decide_eq_true_eq, Bool.not_true, Bool.not_false, true_and, and_true, ofS_inj, String.reduceEq, reduceIte, decide_true, decide_false, Int.reduceAdd, Nat.reduceLeDiff, Nat.reduceAdd, Nat.zero_add, Nat.le_refl, Nat.zero_le, gLen, o_size_of]
  exact h _
end BV

namespace BV
open PySem L2 PyProof.Rows
instance : DecidableEq Nm := fun a b => decidable_of_iff (a.1 = b.1) ⟨fun h => Subtype.ext h, fun h => by rw [h]⟩
/-! ### the letters, each once -/
def addN (acc : List Nm) (x : Nm) : List Nm := if x ∈ acc then acc else acc ++ [x]
def ddp (l : List Nm) : List Nm := l.foldl addN []
theorem ddp_snoc (l : List Nm) (x : Nm) : ddp (l ++ [x]) = addN (ddp l) x := by simp [ddp]
theorem mem_fold (x : Nm) : ∀ (l acc : List Nm), x ∈ l.foldl addN acc ↔ x ∈ acc ∨ x ∈ l
  | [], acc => by simp
  | y :: l, acc => by
    rw [List.foldl_cons, mem_fold x l]
    unfold addN
    split
    · rename_i h
      simp only [List.mem_cons]
      constructor
      · rintro (h1 | h1)
        · exact .inl h1
        · exact .inr (.inr h1)
      · rintro (h1 | rfl | h1)
        · exact .inl h1
        · exact .inl h
        · exact .inr h1
    · simp [or_assoc]
theorem mem_ddp (x : Nm) (l : List Nm) : x ∈ ddp l ↔ x ∈ l := by simp [ddp, mem_fold]
theorem len_fold : ∀ (l acc : List Nm), (l.foldl addN acc).length ≤ acc.length + l.length
  | [], acc => by simp
  | y :: l, acc => by
    rw [List.foldl_cons]
    have := len_fold l (addN acc y)
    have h2 : (addN acc y).length ≤ acc.length + 1 := by unfold addN; split <;> simp
    simp; omega
theorem len_ddp (l : List Nm) : (ddp l).length ≤ l.length := by have := len_fold l []; simpa [ddp] using this
def lettK : Kk → List Nm
  | .letter s => [s]
  | _ => []
def letsK (ks : List Kk) : List Nm := ks.flatMap lettK
def ksN (l : List Nm) : List Key := l.map fun n => .inr n.1
def vsN (l : List Nm) : List D := l.map fun _ => .bl true
def strN (l : List Nm) : List D := l.map fun n => .str n.1
theorem key_N (l : List Nm) : (ksN l).map keyD = strN l := by simp [ksN, strN, keyD]
theorem repl_N (k : Key) : ∀ l : List Nm, replD k (.bl true) (ksN l) (vsN l) = vsN l
  | [] => rfl
  | x :: l => by
    have := repl_N k l
    simp [ksN, vsN, replD] at this ⊢
    exact this
theorem put_N (l : List Nm) (x : Nm) : putD (ksN l) (vsN l) (.inr x.1) (.bl true) = (ksN (addN l x), vsN (addN l x)) := by
  unfold putD addN
  have e : ((ksN l).any fun y => decide (y = .inr x.1)) = true ↔ x ∈ l := by
    simp only [ksN, List.any_map, List.any_eq_true, Function.comp]
    constructor
    · rintro ⟨y, hy, h⟩
      have : y = x := Subtype.ext (Sum.inr.inj (of_decide_eq_true h))
      rw [← this]; exact hy
    · intro h; exact ⟨x, h, by simp⟩
  by_cases h : x ∈ l
  · rw [if_pos (e.mpr h), if_pos h, repl_N]
  · rw [if_neg (fun q => h (e.mp q)), if_neg h]
    simp [ksN, vsN]
theorem lf_letters {C : KS} {X : KX} {a : Option M} : ∀ (ks : List Kk) (acc : List Nm) (x : Option M), acc.length + ks.length ≤ 2000 → (∀ x, C.nx [a, some (.k (ksN ((letsK ks).foldl addN acc)) (vsN ((letsK ks).foldl addN acc))), x]) →
    wForL w_letters_in_g1 w_letters_in_b1 C X (ks.map enK) [a, some (.k (ksN acc) (vsN acc)), x] := by
  intro ks
  induction ks with
  | nil => intro acc x _ h; exact h x
  | cons k ks ih =>
    intro acc x hl h
    have hl2 : (ksN acc).length < 100000 := by simp [ksN] at hl ⊢; omega
    cases k with
    | letter s =>
      have hh : (addN acc s).length ≤ acc.length + 1 := by unfold addN; split <;> simp
      simp [wForL, w_letters_in_g1, w_letters_in_b1, wSeq, wIf, wTV, wAnd, wOr, wNot, wAndV, wOrV, wNotV, wIfE, wRd, wCons, wNil, woVar, woE, wVar, wMove, wC, wvCons, wvNil, wTup, wLst, wNext, wRet, wRetN, wDrop, wBrk, wCt, wAsg, wgN, wgNil, wgCons, wgT, wPar, wFor, wYes, wLc, wipeE, backE, wCall, wMeth, wDictNew, wgSub, wSlB, wZipL, wiSeq, wiR1, wiR2, wiStr, wiEnum, wiEnumS, bodyK, takeM, putM, msOf, M.fz, Res.m, M.seq, M.lseq, M.mseq, M.dict, isL, isK, gList, gTuple, gAppend, gGet2, gSetd, setD, gEq, gNe, eqD_ss, eqD_ii, eqD_bb, gIn, gNi, gZip, gAll, gAny, gMul, gInt, cPos, cDiv, cMul, gAdd, slD, sliceF, D.key, List.length_cons, List.length_nil, List.getElem?_cons_succ, List.getElem?_cons_zero, List.getElem?_nil, List.set_cons_succ, List.set_cons_zero, List.getD_cons_succ, List.getD_cons_zero, Option.bind_some, Option.map_some, Option.map_none, Option.bind_none, ixN, atI, HT.sIx, cutD, Option.isSome_some, if_true, if_false, ite_true, ite_false, Bool.false_eq_true, decide_eq_true_eq, Bool.not_true, Bool.not_false, true_and, and_true, ofS_inj, String.reduceEq, reduceIte, decide_true, decide_false, Int.reduceAdd, Nat.reduceLeDiff, Nat.reduceAdd, Nat.zero_add, Nat.le_refl, Nat.zero_le, w_letters_in_s2, w_letters_in_s1, enK, gIx, hl2, put_N]
      exact ih _ _ (by simp at hl; omega) (by simpa [letsK, lettK] using h)
    | _ =>
      simp [wForL, w_letters_in_g1, w_letters_in_b1, wSeq, wIf, wTV, wAnd, wOr, wNot, wAndV, wOrV, wNotV, wIfE, wRd, wCons, wNil, woVar, woE, wVar, wMove, wC, wvCons, wvNil, wTup, wLst, wNext, wRet, wRetN, wDrop, wBrk, wCt, wAsg, wgN, wgNil, wgCons, wgT, wPar, wFor, wYes, wLc, wipeE, backE, wCall, wMeth, wDictNew, wgSub, wSlB, wZipL, wiSeq, wiR1, wiR2, wiStr, wiEnum, wiEnumS, bodyK, takeM, putM, msOf, M.fz, Res.m, M.seq, M.lseq, M.mseq, M.dict, isL, isK, gList, gTuple, gAppend, gGet2, gSetd, setD, gEq, gNe, eqD_ss, eqD_ii, eqD_bb, gIn, gNi, gZip, gAll, gAny, gMul, gInt, cPos, cDiv, cMul, gAdd, slD, sliceF, D.key, List.length_cons, List.length_nil, List.getElem?_cons_succ, List.getElem?_cons_zero, List.getElem?_nil, List.set_cons_succ, List.set_cons_zero, List.getD_cons_succ, List.getD_cons_zero, Option.bind_some, Option.map_some, Option.map_none, Option.bind_none, ixN, atI, HT.sIx, cutD, Option.isSome_some, if_true, if_false, ite_true, ite_false, Bool.false_eq_true, decide_eq_true_eq, Bool.not_true, Bool.not_false, true_and, and_true, ofS_inj, String.reduceEq, reduceIte, decide_true, decide_false, Int.reduceAdd, Nat.reduceLeDiff, Nat.reduceAdd, Nat.zero_add, Nat.le_refl, Nat.zero_le, w_letters_in_s2, enK, gIx]
      exact ih _ _ (by simp at hl; omega) (by simpa [letsK, lettK] using h)
def sp_letters_in : WF := fun ms C CX => ∃ t : Kk, ms = [.p (enK t)] ∧ (paK t).length ≤ 1000 ∧ ∀ o, C (.l (strN (ddp (letsK (paK t))))) [o]
theorem hw_letters_in : ∀ ms C CX, ms.length = 1 → sp_letters_in ms C CX → w_letters_in sp_kind_parts (env0 N_letters_in ms) (bodyK pr_letters_in 1 C) (fun x e => CX x (outs pr_letters_in 1 e)) := by
  intro ms C CX _ h
  obtain ⟨t, rfl, h1, h⟩ := h
  unfold w_letters_in
  simp [wSeq, wIf, wTV, wAnd, wOr, wNot, wAndV, wOrV, wNotV, wIfE, wRd, wCons, wNil, woVar, woE, wVar, wMove, wC, wvCons, wvNil, wTup, wLst, wNext, wRet, wRetN, wDrop, wBrk, wCt, wAsg, wgN, wgNil, wgCons, wgT, wPar, wFor, wYes, wLc, wipeE, backE, wCall, wMeth, wDictNew, wgSub, wSlB, wZipL, wiSeq, wiR1, wiR2, wiStr, wiEnum, wiEnumS, bodyK, takeM, putM, msOf, M.fz, Res.m, M.seq, M.lseq, M.mseq, M.dict, isL, isK, gList, gTuple, gAppend, gGet2, gSetd, setD, gEq, gNe, eqD_ss, eqD_ii, eqD_bb, gIn, gNi, gZip, gAll, gAny, gMul, gInt, cPos, cDiv, cMul, gAdd, slD, sliceF, D.key, List.length_cons, List.length_nil, List.getElem?_cons_succ, List.getElem?_cons_zero, List.getElem?_nil, List.set_cons_succ, List.set_cons_zero, List.getD_cons_succ, List.getD_cons_zero, Option.bind_some, Option.map_some, Option.map_none, Option.bind_none, ixN, atI, HT.sIx, cutD, Option.isSome_some, if_true, if_false, ite_true, ite_false, Bool.false_eq_true, decide_eq_true_eq, Bool.not_true, Bool.not_false, true_and, and_true, ofS_inj, String.reduceEq, reduceIte, decide_true, decide_false, Int.reduceAdd, Nat.reduceLeDiff, Nat.reduceAdd, Nat.zero_add, Nat.le_refl, Nat.zero_le, w_letters_in_s1, w_letters_in_s2, w_letters_in_s3, e_letters_in]
  refine ⟨t, rfl, h1, fun o => ?_⟩
  simp [wSeq, wIf, wTV, wAnd, wOr, wNot, wAndV, wOrV, wNotV, wIfE, wRd, wCons, wNil, woVar, woE, wVar, wMove, wC, wvCons, wvNil, wTup, wLst, wNext, wRet, wRetN, wDrop, wBrk, wCt, wAsg, wgN, wgNil, wgCons, wgT, wPar, wFor, wYes, wLc, wipeE, backE, wCall, wMeth, wDictNew, wgSub, wSlB, wZipL, wiSeq, wiR1, wiR2, wiStr, wiEnum, wiEnumS, bodyK, takeM, putM, msOf, M.fz, Res.m, M.seq, M.lseq, M.mseq, M.dict, isL, isK, gList, gTuple, gAppend, gGet2, gSetd, setD, gEq, gNe, eqD_ss, eqD_ii, eqD_bb, gIn, gNi, gZip, gAll, gAny, gMul, gInt, cPos, cDiv, cMul, gAdd, slD, sliceF, D.key, List.length_cons, List.length_nil, List.getElem?_cons_succ, List.getElem?_cons_zero, List.getElem?_nil, List.set_cons_succ, List.set_cons_zero, List.getD_cons_succ, List.getD_cons_zero, Option.bind_some, Option.map_some, Option.map_none, Option.bind_none, ixN, atI, HT.sIx, cutD, Option.isSome_some, if_true, if_false, ite_true, ite_false, Bool.false_eq_true, decide_eq_true_eq, Bool.not_true, Bool.not_false, true_and, and_true, ofS_inj, String.reduceEq, reduceIte, decide_true, decide_false, Int.reduceAdd, Nat.reduceLeDiff, Nat.reduceAdd, Nat.zero_add, Nat.le_refl, Nat.zero_le]
  refine lf_letters (paK t) [] none (by simp; omega) fun x => ?_
  have e : (letsK (paK t)).foldl addN [] = ddp (letsK (paK t)) := rfl
  simp [wSeq, wIf, wTV, wAnd, wOr, wNot, wAndV, wOrV, wNotV, wIfE, wRd, wCons, wNil, woVar, woE, wVar, wMove, wC, wvCons, wvNil, wTup, wLst, wNext, wRet, wRetN, wDrop, wBrk, wCt, wAsg, wgN, wgNil, wgCons, wgT, wPar, wFor, wYes, wLc, wipeE, backE, wCall, wMeth, wDictNew, wgSub, wSlB, wZipL, wiSeq, wiR1, wiR2, wiStr, wiEnum, wiEnumS, bodyK, takeM, putM, msOf, M.fz, Res.m, M.seq, M.lseq, M.mseq, M.dict, isL, isK, gList, gTuple, gAppend, gGet2, gSetd, setD, gEq, gNe, eqD_ss, eqD_ii, eqD_bb, gIn, gNi, gZip, gAll, gAny, gMul, gInt, cPos, cDiv, cMul, gAdd, slD, sliceF, D.key, List.length_cons, List.length_nil, List.getElem?_cons_succ, List.getElem?_cons_zero, List.getElem?_nil, List.set_cons_succ, List.set_cons_zero, List.getD_cons_succ, List.getD_cons_zero, Option.bind_some, Option.map_some, Option.map_none, Option.bind_none, ixN, atI, HT.sIx, cutD, Option.isSome_some, if_true, if_false, ite_true, ite_false, Bool.false_eq_true, decide_eq_true_eq, Bool.not_true, Bool.not_false, true_and, and_true, ofS_inj, String.reduceEq, reduceIte, decide_true, decide_false, Int.reduceAdd, Nat.reduceLeDiff, Nat.reduceAdd, Nat.zero_add, Nat.le_refl, Nat.zero_le, o_letters_in, e, key_N]
  exact h _
/-! ### the state of what is drawn -/
def Sd (cs : List Int) (at0 : Int) : M := .k [.inr "cells", .inr "at"] [.fl (cs.map .int), .int at0]
end BV

namespace BV
open PySem L2 PyProof.Rows
theorem fl_nil {cs : List Int} : eqD (.fl (cs.map .int)) (.lst []) = some cs.isEmpty := by
  have h : ∀ cs : List Int, D.pyA (cs.map D.int) = some (cs.map PyData.int) := by
    intro cs
    induction cs with
    | nil => rfl
    | cons c cs ih => simp [D.pyA, D.py, ih]
  have h2 : ∀ cs : List Int, PyData.canLayAll0 (cs.map PyData.int) = true := by
    intro cs
    induction cs with
    | nil => rfl
    | cons c cs ih => simp [PyData.canLayAll0, PyData.canLay0, ih]
  refine eqD_py (p := .list (cs.map .int)) (q := .list []) (by simp [D.py, h]) (by simp [D.py, D.pyA]) (by simp [shape2, PyData.canLay0, h2, PyData.canLayAll0, PyData.depth, PyData.depthAll]) ?_
  cases cs with
  | nil => rw [PyData.eqv]; rfl
  | cons c cs => rw [PyData.eqv]; rfl
def sp__law_next : WF := fun ms C CX => ∃ (cs : List Int) (a m : Int), ms = [Sd cs a, .p (.int m)] ∧ 0 < m ∧ 0 ≤ a ∧ a < 1000000000000 ∧ ∀ r : Int, 0 ≤ r → r < m → ∀ o2, C (.p (.int r)) [some (Sd cs (a + 1)), o2]
theorem next_at {cs : List Int} {a : Int} : gIx [Sd cs a, .p (.str "at")] = some (.val (.int a)) := by simp [gIx, Sd, M.seq, M.dict, D.key, getK, ofS_inj]
theorem next_cells {cs : List Int} {a : Int} : gIx [Sd cs a, .p (.str "cells")] = some (.val (.fl (cs.map .int))) := by simp [gIx, Sd, M.seq, M.dict, D.key, getK, ofS_inj]
theorem next_set {cs : List Int} {a b : Int} : setD (Sd cs a) (.str "at") (.int b) = some (Sd cs b) := by simp [setD, Sd, D.key, putD, replD, ofS_inj]
theorem gIx_ints {cs : List Int} {i : Int} (h0 : 0 ≤ i) (h1 : i < cs.length) : ∃ c : Int, gIx [.p (.fl (cs.map .int)), .p (.int i)] = some (.val (.int c)) := by
  have hi : i.toNat < cs.length := by omega
  refine ⟨cs[i.toNat], ?_⟩
  simp [gIx, M.seq, atI, ixN, h0, h1, List.getElem?_eq_getElem hi]
theorem SdM (cs : List Int) (a : Int) : ∃ ks vs, Sd cs a = .k ks vs := ⟨_, _, rfl⟩
variable {C : KS} {X : KX} {cs : List Int} {a m : Int} {x2 x3 x4 x5 : Option M}
theorem next_s4 {k : Int} (hk : 0 ≤ k) (h : ∀ c : Int, C.nx [some (Sd cs a), some (.p (.int m)), some (.p (.int k)), some (.p (.fl (cs.map .int))), some (.p (.int c)), x5]) :
    w_L_next_s4 [some (Sd cs a), some (.p (.int m)), some (.p (.int k)), some (.p (.fl (cs.map .int))), x4, x5] C X := by
  generalize Sd cs a = S at *
  cases hc : cs.isEmpty with
  | true => simp [wSeq, wIf, wTV, wAnd, wOr, wNot, wAndV, wOrV, wNotV, wIfE, wRd, wCons, wNil, woVar, woE, wVar, wMove, wC, wvCons, wvNil, wTup, wLst, wNext, wRet, wRetN, wDrop, wBrk, wCt, wAsg, wgN, wgNil, wgCons, wgT, wPar, wFor, wYes, wLc, wipeE, backE, wCall, wMeth, wDictNew, wgSub, wSlB, wZipL, wiSeq, wiR1, wiR2, wiStr, wiEnum, wiEnumS, bodyK, takeM, putM, msOf, M.fz, Res.m, M.seq, M.lseq, M.mseq, M.dict, isL, isK, gList, gTuple, gAppend, gGet2, gSetd, setD, gEq, gNe, eqD_ss, eqD_ii, eqD_bb, gIn, gNi, gZip, gAll, gAny, gMul, gInt, cPos, cDiv, cMul, gAdd, slD, sliceF, D.key, List.length_cons, List.length_nil, List.getElem?_cons_succ, List.getElem?_cons_zero, List.getElem?_nil, List.set_cons_succ, List.set_cons_zero, List.getD_cons_succ, List.getD_cons_zero, Option.bind_some, Option.map_some, Option.map_none, Option.bind_none, ixN, atI, HT.sIx, cutD, Option.isSome_some, if_true, if_false, ite_true, ite_false, Bool.false_eq_true, decide_eq_true_eq, Bool.not_true, Bool.not_false, true_and, and_true, ofS_inj, String.reduceEq, reduceIte, decide_true, decide_false, Int.reduceAdd, Nat.reduceLeDiff, Nat.reduceAdd, Nat.zero_add, Nat.le_refl, Nat.zero_le, w_L_next_s4, fl_nil, hc]; exact h 0
  | false =>
    have hp : 0 < cs.length := by cases cs with
      | nil => cases hc
      | cons => simp
    have hpi : (0 : Int) < cs.length := by omega
    obtain ⟨c, e⟩ := gIx_ints (cs := cs) (i := k % cs.length) (Int.emod_nonneg _ (by omega)) (Int.emod_lt_of_pos _ hpi)
    simp [wSeq, wIf, wTV, wAnd, wOr, wNot, wAndV, wOrV, wNotV, wIfE, wRd, wCons, wNil, woVar, woE, wVar, wMove, wC, wvCons, wvNil, wTup, wLst, wNext, wRet, wRetN, wDrop, wBrk, wCt, wAsg, wgN, wgNil, wgCons, wgT, wPar, wFor, wYes, wLc, wipeE, backE, wCall, wMeth, wDictNew, wgSub, wSlB, wZipL, wiSeq, wiR1, wiR2, wiStr, wiEnum, wiEnumS, bodyK, takeM, putM, msOf, M.fz, Res.m, M.seq, M.lseq, M.mseq, M.dict, isL, isK, gList, gTuple, gAppend, gGet2, gSetd, setD, gEq, gNe, eqD_ss, eqD_ii, eqD_bb, gIn, gNi, gZip, gAll, gAny, gMul, gInt, cPos, cDiv, cMul, gAdd, slD, sliceF, D.key, List.length_cons, List.length_nil, List.getElem?_cons_succ, List.getElem?_cons_zero, List.getElem?_nil, List.set_cons_succ, List.set_cons_zero, List.getD_cons_succ, List.getD_cons_zero, Option.bind_some, Option.map_some, Option.map_none, Option.bind_none, ixN, atI, HT.sIx, cutD, Option.isSome_some, if_true, if_false, ite_true, ite_false, Bool.false_eq_true, decide_eq_true_eq, Bool.not_true, Bool.not_false, true_and, and_true, ofS_inj, String.reduceEq, reduceIte, decide_true, decide_false, Int.reduceAdd, Nat.reduceLeDiff, Nat.reduceAdd, Nat.zero_add, Nat.le_refl, Nat.zero_le, w_L_next_s4, fl_nil, hc, gLen, hp, e]
    exact h c
theorem hw_L_next : ∀ ms C CX, ms.length = 2 → sp__law_next ms C CX → w_L_next (env0 N_L_next ms) (bodyK pr_L_next 2 C) (fun x e => CX x (outs pr_L_next 2 e)) := by
  intro ms C CX _ h
  obtain ⟨cs, a, m, rfl, hm, ha, ha2, h⟩ := h
  unfold w_L_next
  rw [e_L_next]
  simp only [wSeq]
  have hM : ∀ b, (Sd cs b).fz = (Sd cs b).fz := fun _ => rfl
  have s1 : ∀ K X, w_L_next_s1 [some (Sd cs a), some (.p (.int m)), none, none, none, none] K X = K.nx [some (Sd cs (a + 1)), some (.p (.int m)), none, none, none, none] := by
    intro K X
    simp only [w_L_next_s1]
    have e1 := next_at (cs := cs) (a := a)
    have e2 := next_set (cs := cs) (a := a) (b := a + 1)
    generalize Sd cs a = S at *
    generalize Sd cs (a + 1) = S2 at *
    simp [wAsg, wRd, wCons, wNil, woVar, woE, wC, msOf, gAdd, wgSub, M.fz, Res.m, e1, e2]
  have s2 : ∀ K X, w_L_next_s2 [some (Sd cs (a + 1)), some (.p (.int m)), none, none, none, none] K X = K.nx [some (Sd cs (a + 1)), some (.p (.int m)), some (.p (.int (a + 1))), none, none, none] := by
    intro K X
    have e1 := next_at (cs := cs) (a := a + 1)
    generalize Sd cs (a + 1) = S at *
    simp [wSeq, wIf, wTV, wAnd, wOr, wNot, wAndV, wOrV, wNotV, wIfE, wRd, wCons, wNil, woVar, woE, wVar, wMove, wC, wvCons, wvNil, wTup, wLst, wNext, wRet, wRetN, wDrop, wBrk, wCt, wAsg, wgN, wgNil, wgCons, wgT, wPar, wFor, wYes, wLc, wipeE, backE, wCall, wMeth, wDictNew, wgSub, wSlB, wZipL, wiSeq, wiR1, wiR2, wiStr, wiEnum, wiEnumS, bodyK, takeM, putM, msOf, M.fz, Res.m, M.seq, M.lseq, M.mseq, M.dict, isL, isK, gList, gTuple, gAppend, gGet2, gSetd, setD, gEq, gNe, eqD_ss, eqD_ii, eqD_bb, gIn, gNi, gZip, gAll, gAny, gMul, gInt, cPos, cDiv, cMul, gAdd, slD, sliceF, D.key, List.length_cons, List.length_nil, List.getElem?_cons_succ, List.getElem?_cons_zero, List.getElem?_nil, List.set_cons_succ, List.set_cons_zero, List.getD_cons_succ, List.getD_cons_zero, Option.bind_some, Option.map_some, Option.map_none, Option.bind_none, ixN, atI, HT.sIx, cutD, Option.isSome_some, if_true, if_false, ite_true, ite_false, Bool.false_eq_true, decide_eq_true_eq, Bool.not_true, Bool.not_false, true_and, and_true, ofS_inj, String.reduceEq, reduceIte, decide_true, decide_false, Int.reduceAdd, Nat.reduceLeDiff, Nat.reduceAdd, Nat.zero_add, Nat.le_refl, Nat.zero_le, w_L_next_s2, e1]
  have s3 : ∀ K X, w_L_next_s3 [some (Sd cs (a + 1)), some (.p (.int m)), some (.p (.int (a + 1))), none, none, none] K X = K.nx [some (Sd cs (a + 1)), some (.p (.int m)), some (.p (.int (a + 1))), some (.p (.fl (cs.map .int))), none, none] := by
    intro K X
    have e1 := next_cells (cs := cs) (a := a + 1)
    generalize Sd cs (a + 1) = S at *
    simp [wSeq, wIf, wTV, wAnd, wOr, wNot, wAndV, wOrV, wNotV, wIfE, wRd, wCons, wNil, woVar, woE, wVar, wMove, wC, wvCons, wvNil, wTup, wLst, wNext, wRet, wRetN, wDrop, wBrk, wCt, wAsg, wgN, wgNil, wgCons, wgT, wPar, wFor, wYes, wLc, wipeE, backE, wCall, wMeth, wDictNew, wgSub, wSlB, wZipL, wiSeq, wiR1, wiR2, wiStr, wiEnum, wiEnumS, bodyK, takeM, putM, msOf, M.fz, Res.m, M.seq, M.lseq, M.mseq, M.dict, isL, isK, gList, gTuple, gAppend, gGet2, gSetd, setD, gEq, gNe, eqD_ss, eqD_ii, eqD_bb, gIn, gNi, gZip, gAll, gAny, gMul, gInt, cPos, cDiv, cMul, gAdd, slD, sliceF, D.key, List.length_cons, List.length_nil, List.getElem?_cons_succ, List.getElem?_cons_zero, List.getElem?_nil, List.set_cons_succ, List.set_cons_zero, List.getD_cons_succ, List.getD_cons_zero, Option.bind_some, Option.map_some, Option.map_none, Option.bind_none, ixN, atI, HT.sIx, cutD, Option.isSome_some, if_true, if_false, ite_true, ite_false, Bool.false_eq_true, decide_eq_true_eq, Bool.not_true, Bool.not_false, true_and, and_true, ofS_inj, String.reduceEq, reduceIte, decide_true, decide_false, Int.reduceAdd, Nat.reduceLeDiff, Nat.reduceAdd, Nat.zero_add, Nat.le_refl, Nat.zero_le, w_L_next_s3, e1]
  simp only [s1, s2, s3]
  refine next_s4 (by omega) fun c => ?_
  have b1 : -18446744073709551616 < a + 1 := by omega
  have b2 : a + 1 < 18446744073709551616 := by omega
  have q0 : ∀ z : Int, 0 ≤ z % 2147483647 := fun z => Int.emod_nonneg _ (by decide)
  have q1 : ∀ z : Int, z % 2147483647 < 2147483647 := fun z => Int.emod_lt_of_pos _ (by decide)
  have q2 : ∀ z : Int, -18446744073709551616 < z % 2147483647 := fun z => by have := q0 z; omega
  have q3 : ∀ z : Int, z % 2147483647 < 18446744073709551616 := fun z => by have := q1 z; omega
  generalize hS : Sd cs (a + 1) = S at *
  simp [wSeq, wIf, wTV, wAnd, wOr, wNot, wAndV, wOrV, wNotV, wIfE, wRd, wCons, wNil, woVar, woE, wVar, wMove, wC, wvCons, wvNil, wTup, wLst, wNext, wRet, wRetN, wDrop, wBrk, wCt, wAsg, wgN, wgNil, wgCons, wgT, wPar, wFor, wYes, wLc, wipeE, backE, wCall, wMeth, wDictNew, wgSub, wSlB, wZipL, wiSeq, wiR1, wiR2, wiStr, wiEnum, wiEnumS, bodyK, takeM, putM, msOf, M.fz, Res.m, M.seq, M.lseq, M.mseq, M.dict, isL, isK, gList, gTuple, gAppend, gGet2, gSetd, setD, gEq, gNe, eqD_ss, eqD_ii, eqD_bb, gIn, gNi, gZip, gAll, gAny, gMul, gInt, cPos, cDiv, cMul, gAdd, slD, sliceF, D.key, List.length_cons, List.length_nil, List.getElem?_cons_succ, List.getElem?_cons_zero, List.getElem?_nil, List.set_cons_succ, List.set_cons_zero, List.getD_cons_succ, List.getD_cons_zero, Option.bind_some, Option.map_some, Option.map_none, Option.bind_none, ixN, atI, HT.sIx, cutD, Option.isSome_some, if_true, if_false, ite_true, ite_false, Bool.false_eq_true, decide_eq_true_eq, Bool.not_true, Bool.not_false, true_and, and_true, ofS_inj, String.reduceEq, reduceIte, decide_true, decide_false, Int.reduceAdd, Nat.reduceLeDiff, Nat.reduceAdd, Nat.zero_add, Nat.le_refl, Nat.zero_le, w_L_next_s5, b1, b2]
  simp [wSeq, wIf, wTV, wAnd, wOr, wNot, wAndV, wOrV, wNotV, wIfE, wRd, wCons, wNil, woVar, woE, wVar, wMove, wC, wvCons, wvNil, wTup, wLst, wNext, wRet, wRetN, wDrop, wBrk, wCt, wAsg, wgN, wgNil, wgCons, wgT, wPar, wFor, wYes, wLc, wipeE, backE, wCall, wMeth, wDictNew, wgSub, wSlB, wZipL, wiSeq, wiR1, wiR2, wiStr, wiEnum, wiEnumS, bodyK, takeM, putM, msOf, M.fz, Res.m, M.seq, M.lseq, M.mseq, M.dict, isL, isK, gList, gTuple, gAppend, gGet2, gSetd, setD, gEq, gNe, eqD_ss, eqD_ii, eqD_bb, gIn, gNi, gZip, gAll, gAny, gMul, gInt, cPos, cDiv, cMul, gAdd, slD, sliceF, D.key, List.length_cons, List.length_nil, List.getElem?_cons_succ, List.getElem?_cons_zero, List.getElem?_nil, List.set_cons_succ, List.set_cons_zero, List.getD_cons_succ, List.getD_cons_zero, Option.bind_some, Option.map_some, Option.map_none, Option.bind_none, ixN, atI, HT.sIx, cutD, Option.isSome_some, if_true, if_false, ite_true, ite_false, Bool.false_eq_true, decide_eq_true_eq, Bool.not_true, Bool.not_false, true_and, and_true, ofS_inj, String.reduceEq, reduceIte, decide_true, decide_false, Int.reduceAdd, Nat.reduceLeDiff, Nat.reduceAdd, Nat.zero_add, Nat.le_refl, Nat.zero_le, w_L_next_s6, q2, q3, b1, b2, hm, o_L_next]
  exact h _ (Int.emod_nonneg _ (by omega)) (Int.emod_lt_of_pos _ hm) _
end BV

namespace BV
open PySem L2 PyProof.Rows
theorem strOk_app {x y : Str} (h1 : PyData.strOk x = true) (h2 : PyData.strOk y = true) : PyData.strOk (x ++ y) = true := by
  show ((x.cps ++ y.cps).all _) = true
  unfold PyData.strOk at h1 h2
  rw [Array.all_append, h1, h2]; rfl
theorem strOk_iff {x : Str} : PyData.strOk x = true ↔ ∀ c ∈ x.cps.toList, c < 0x110000 := by
  unfold PyData.strOk
  rw [← Array.all_toList, List.all_eq_true]
  constructor
  · intro h c hc; exact of_decide_eq_true (h c hc)
  · intro h c hc; exact decide_eq_true (h c hc)
theorem strOk_cut {x : Str} (h : PyData.strOk x = true) (lo hi : Option Int) : PyData.strOk (cutS x lo hi) = true := by
  rw [strOk_iff] at h ⊢
  intro c hc
  have hc : c ∈ (x.cps.toList.drop (HT.sIx x.length 0 lo)).take (HT.sIx x.length x.length hi - HT.sIx x.length 0 lo) := hc
  exact h c (List.mem_of_mem_drop (List.mem_of_mem_take hc))
theorem len_cut (x : Str) (lo hi : Option Int) : (cutS x lo hi).length ≤ x.length := by
  have e : (cutS x lo hi).length = ((x.cps.toList.drop (HT.sIx x.length 0 lo)).take (HT.sIx x.length x.length hi - HT.sIx x.length 0 lo)).length := rfl
  have e2 : x.length = x.cps.toList.length := rfl
  rw [e, List.length_take, List.length_drop]
  omega
theorem gIx_sg {s : Str} {i : Int} (h0 : 0 ≤ i) (h1 : i < s.cps.size) (hl : s.length ≤ 100000) (hok : PyData.strOk s = true) : ∃ n : Nm, gIx [.p (.str s), .p (.int i)] = some (.val (.str n.1)) ∧ n.1.length = 1 := by
  have hi : i.toNat < s.cps.toList.length := by simp; omega
  have hc : s.cps.toList[i.toNat]? = some s.cps.toList[i.toNat] := List.getElem?_eq_getElem hi
  have hb : s.cps.toList[i.toNat] < 0x110000 := by
    simp only [PyData.strOk, Array.all_eq_true] at hok
    have := hok i.toNat (by simpa using hi)
    simpa using this
  refine ⟨⟨⟨#[s.cps.toList[i.toNat]]⟩, by simpa [PyData.strOk] using hb⟩, ?_, rfl⟩
  have h1' : i < (s.cps.toList.length : Nat) := by simpa using h1
  simp only [gIx, if_pos hl, atI, ixN, if_pos h0, if_pos h1', Option.bind_some, hc, Option.map_some]
theorem sz8 : (Str.ofString "qzjvqzjv").cps.size = 8 := by decide +kernel
theorem sz26 : (Str.ofString "abcdefghijklmnopqrstuvwxyz").cps.size = 26 := by decide +kernel
theorem sz26A : (Str.ofString "ABCDEFGHIJKLMNOPQRSTUVWXYZ").cps.size = 26 := by decide +kernel
theorem gIx_last {cs : List Int} (h : cs ≠ []) : ∃ c : Int, gIx [.p (.fl (cs.map .int)), .p (.int (-1))] = some (.val (.int c)) := by
  have hl : 0 < cs.length := List.length_pos_iff.mpr h
  have e : ((-1 : Int) + (cs.length : Int)).toNat = cs.length - 1 := by omega
  have hi : cs.length - 1 < cs.length := by omega
  have h2 : -(cs.length : Int) ≤ -1 := by omega
  refine ⟨cs[cs.length - 1], ?_⟩
  simp [gIx, M.seq, atI, ixN, h2, e, List.getElem?_eq_getElem hi]
def sp__law_name : WF := fun ms C CX => ∃ (cs : List Int) (a k : Int), ms = [Sd cs a, .p (.int k)] ∧ 0 ≤ k ∧ k < 1000 ∧ ∀ s : Nm, s.1.length ≤ 17 → ∀ o2, C (.p (.str s.1)) [some (Sd cs a), o2]
variable {C : KS} {X : KX} {cs : List Int} {a k : Int} {x2 x3 x4 : Option M}
theorem name_s1 (h : ∀ z : Int, 2 ≤ z → z ≤ 8 → C.nx [some (Sd cs a), some (.p (.int k)), some (.p (.int z)), x3, x4]) : w_L_name_s1 [some (Sd cs a), some (.p (.int k)), x2, x3, x4] C X := by
  have e1 := next_cells (cs := cs) (a := a)
  generalize Sd cs a = S at *
  cases cs with
  | nil =>
    have := fl_nil (cs := [])
    simp [wSeq, wIf, wTV, wAnd, wOr, wNot, wAndV, wOrV, wNotV, wIfE, wRd, wCons, wNil, woVar, woE, wVar, wMove, wC, wvCons, wvNil, wTup, wLst, wNext, wRet, wRetN, wDrop, wBrk, wCt, wAsg, wgN, wgNil, wgCons, wgT, wPar, wFor, wYes, wLc, wipeE, backE, wCall, wMeth, wDictNew, wgSub, wSlB, wZipL, wiSeq, wiR1, wiR2, wiStr, wiEnum, wiEnumS, bodyK, takeM, putM, msOf, M.fz, Res.m, M.seq, M.lseq, M.mseq, M.dict, isL, isK, gList, gTuple, gAppend, gGet2, gSetd, setD, gEq, gNe, eqD_ss, eqD_ii, eqD_bb, gIn, gNi, gZip, gAll, gAny, gMul, gInt, cPos, cDiv, cMul, gAdd, slD, sliceF, D.key, List.length_cons, List.length_nil, List.getElem?_cons_succ, List.getElem?_cons_zero, List.getElem?_nil, List.set_cons_succ, List.set_cons_zero, List.getD_cons_succ, List.getD_cons_zero, Option.bind_some, Option.map_some, Option.map_none, Option.bind_none, ixN, atI, HT.sIx, cutD, Option.isSome_some, if_true, if_false, ite_true, ite_false, Bool.false_eq_true, decide_eq_true_eq, Bool.not_true, Bool.not_false, true_and, and_true, ofS_inj, String.reduceEq, reduceIte, decide_true, decide_false, Int.reduceAdd, Nat.reduceLeDiff, Nat.reduceAdd, Nat.zero_add, Nat.le_refl, Nat.zero_le, w_L_name_s1, e1, this] at this ⊢
    simp [wSeq, wIf, wTV, wAnd, wOr, wNot, wAndV, wOrV, wNotV, wIfE, wRd, wCons, wNil, woVar, woE, wVar, wMove, wC, wvCons, wvNil, wTup, wLst, wNext, wRet, wRetN, wDrop, wBrk, wCt, wAsg, wgN, wgNil, wgCons, wgT, wPar, wFor, wYes, wLc, wipeE, backE, wCall, wMeth, wDictNew, wgSub, wSlB, wZipL, wiSeq, wiR1, wiR2, wiStr, wiEnum, wiEnumS, bodyK, takeM, putM, msOf, M.fz, Res.m, M.seq, M.lseq, M.mseq, M.dict, isL, isK, gList, gTuple, gAppend, gGet2, gSetd, setD, gEq, gNe, eqD_ss, eqD_ii, eqD_bb, gIn, gNi, gZip, gAll, gAny, gMul, gInt, cPos, cDiv, cMul, gAdd, slD, sliceF, D.key, List.length_cons, List.length_nil, List.getElem?_cons_succ, List.getElem?_cons_zero, List.getElem?_nil, List.set_cons_succ, List.set_cons_zero, List.getD_cons_succ, List.getD_cons_zero, Option.bind_some, Option.map_some, Option.map_none, Option.bind_none, ixN, atI, HT.sIx, cutD, Option.isSome_some, if_true, if_false, ite_true, ite_false, Bool.false_eq_true, decide_eq_true_eq, Bool.not_true, Bool.not_false, true_and, and_true, ofS_inj, String.reduceEq, reduceIte, decide_true, decide_false, Int.reduceAdd, Nat.reduceLeDiff, Nat.reduceAdd, Nat.zero_add, Nat.le_refl, Nat.zero_le, this]
    exact h 3 (by decide) (by decide)
  | cons c cs =>
    have e2 := fl_nil (cs := c :: cs)
    have e3 : gIx [.p (.fl ((c :: cs).map .int)), .p (.int 0)] = some (.val (.int c)) := by simp [gIx, M.seq, atI, ixN]
    generalize (c :: cs).map D.int = L at *
    simp [wSeq, wIf, wTV, wAnd, wOr, wNot, wAndV, wOrV, wNotV, wIfE, wRd, wCons, wNil, woVar, woE, wVar, wMove, wC, wvCons, wvNil, wTup, wLst, wNext, wRet, wRetN, wDrop, wBrk, wCt, wAsg, wgN, wgNil, wgCons, wgT, wPar, wFor, wYes, wLc, wipeE, backE, wCall, wMeth, wDictNew, wgSub, wSlB, wZipL, wiSeq, wiR1, wiR2, wiStr, wiEnum, wiEnumS, bodyK, takeM, putM, msOf, M.fz, Res.m, M.seq, M.lseq, M.mseq, M.dict, isL, isK, gList, gTuple, gAppend, gGet2, gSetd, setD, gEq, gNe, eqD_ss, eqD_ii, eqD_bb, gIn, gNi, gZip, gAll, gAny, gMul, gInt, cPos, cDiv, cMul, gAdd, slD, sliceF, D.key, List.length_cons, List.length_nil, List.getElem?_cons_succ, List.getElem?_cons_zero, List.getElem?_nil, List.set_cons_succ, List.set_cons_zero, List.getD_cons_succ, List.getD_cons_zero, Option.bind_some, Option.map_some, Option.map_none, Option.bind_none, ixN, atI, HT.sIx, cutD, Option.isSome_some, if_true, if_false, ite_true, ite_false, Bool.false_eq_true, decide_eq_true_eq, Bool.not_true, Bool.not_false, true_and, and_true, ofS_inj, String.reduceEq, reduceIte, decide_true, decide_false, Int.reduceAdd, Nat.reduceLeDiff, Nat.reduceAdd, Nat.zero_add, Nat.le_refl, Nat.zero_le, w_L_name_s1, e1, e2, e3]
    exact h _ (by omega) (by omega)
theorem name_s2 {z : Int} (z0 : 2 ≤ z) (h : ∀ y : Int, 0 ≤ y → y < z → C.nx [some (Sd cs a), some (.p (.int k)), some (.p (.int z)), some (.p (.int y)), x4]) : w_L_name_s2 [some (Sd cs a), some (.p (.int k)), some (.p (.int z)), x3, x4] C X := by
  have e1 := next_cells (cs := cs) (a := a)
  generalize Sd cs a = S at *
  have zp : 0 < z := by omega
  cases cs with
  | nil =>
    have := fl_nil (cs := [])
    simp [wSeq, wIf, wTV, wAnd, wOr, wNot, wAndV, wOrV, wNotV, wIfE, wRd, wCons, wNil, woVar, woE, wVar, wMove, wC, wvCons, wvNil, wTup, wLst, wNext, wRet, wRetN, wDrop, wBrk, wCt, wAsg, wgN, wgNil, wgCons, wgT, wPar, wFor, wYes, wLc, wipeE, backE, wCall, wMeth, wDictNew, wgSub, wSlB, wZipL, wiSeq, wiR1, wiR2, wiStr, wiEnum, wiEnumS, bodyK, takeM, putM, msOf, M.fz, Res.m, M.seq, M.lseq, M.mseq, M.dict, isL, isK, gList, gTuple, gAppend, gGet2, gSetd, setD, gEq, gNe, eqD_ss, eqD_ii, eqD_bb, gIn, gNi, gZip, gAll, gAny, gMul, gInt, cPos, cDiv, cMul, gAdd, slD, sliceF, D.key, List.length_cons, List.length_nil, List.getElem?_cons_succ, List.getElem?_cons_zero, List.getElem?_nil, List.set_cons_succ, List.set_cons_zero, List.getD_cons_succ, List.getD_cons_zero, Option.bind_some, Option.map_some, Option.map_none, Option.bind_none, ixN, atI, HT.sIx, cutD, Option.isSome_some, if_true, if_false, ite_true, ite_false, Bool.false_eq_true, decide_eq_true_eq, Bool.not_true, Bool.not_false, true_and, and_true, ofS_inj, String.reduceEq, reduceIte, decide_true, decide_false, Int.reduceAdd, Nat.reduceLeDiff, Nat.reduceAdd, Nat.zero_add, Nat.le_refl, Nat.zero_le, w_L_name_s2, e1, this] at this ⊢
    simp [wSeq, wIf, wTV, wAnd, wOr, wNot, wAndV, wOrV, wNotV, wIfE, wRd, wCons, wNil, woVar, woE, wVar, wMove, wC, wvCons, wvNil, wTup, wLst, wNext, wRet, wRetN, wDrop, wBrk, wCt, wAsg, wgN, wgNil, wgCons, wgT, wPar, wFor, wYes, wLc, wipeE, backE, wCall, wMeth, wDictNew, wgSub, wSlB, wZipL, wiSeq, wiR1, wiR2, wiStr, wiEnum, wiEnumS, bodyK, takeM, putM, msOf, M.fz, Res.m, M.seq, M.lseq, M.mseq, M.dict, isL, isK, gList, gTuple, gAppend, gGet2, gSetd, setD, gEq, gNe, eqD_ss, eqD_ii, eqD_bb, gIn, gNi, gZip, gAll, gAny, gMul, gInt, cPos, cDiv, cMul, gAdd, slD, sliceF, D.key, List.length_cons, List.length_nil, List.getElem?_cons_succ, List.getElem?_cons_zero, List.getElem?_nil, List.set_cons_succ, List.set_cons_zero, List.getD_cons_succ, List.getD_cons_zero, Option.bind_some, Option.map_some, Option.map_none, Option.bind_none, ixN, atI, HT.sIx, cutD, Option.isSome_some, if_true, if_false, ite_true, ite_false, Bool.false_eq_true, decide_eq_true_eq, Bool.not_true, Bool.not_false, true_and, and_true, ofS_inj, String.reduceEq, reduceIte, decide_true, decide_false, Int.reduceAdd, Nat.reduceLeDiff, Nat.reduceAdd, Nat.zero_add, Nat.le_refl, Nat.zero_le, this]
    exact h 0 (by omega) (by omega)
  | cons c cs =>
    have e2 := fl_nil (cs := c :: cs)
    obtain ⟨y, e3⟩ := gIx_last (cs := c :: cs) (by simp)
    generalize (c :: cs).map D.int = L at *
    simp [wSeq, wIf, wTV, wAnd, wOr, wNot, wAndV, wOrV, wNotV, wIfE, wRd, wCons, wNil, woVar, woE, wVar, wMove, wC, wvCons, wvNil, wTup, wLst, wNext, wRet, wRetN, wDrop, wBrk, wCt, wAsg, wgN, wgNil, wgCons, wgT, wPar, wFor, wYes, wLc, wipeE, backE, wCall, wMeth, wDictNew, wgSub, wSlB, wZipL, wiSeq, wiR1, wiR2, wiStr, wiEnum, wiEnumS, bodyK, takeM, putM, msOf, M.fz, Res.m, M.seq, M.lseq, M.mseq, M.dict, isL, isK, gList, gTuple, gAppend, gGet2, gSetd, setD, gEq, gNe, eqD_ss, eqD_ii, eqD_bb, gIn, gNi, gZip, gAll, gAny, gMul, gInt, cPos, cDiv, cMul, gAdd, slD, sliceF, D.key, List.length_cons, List.length_nil, List.getElem?_cons_succ, List.getElem?_cons_zero, List.getElem?_nil, List.set_cons_succ, List.set_cons_zero, List.getD_cons_succ, List.getD_cons_zero, Option.bind_some, Option.map_some, Option.map_none, Option.bind_none, ixN, atI, HT.sIx, cutD, Option.isSome_some, if_true, if_false, ite_true, ite_false, Bool.false_eq_true, decide_eq_true_eq, Bool.not_true, Bool.not_false, true_and, and_true, ofS_inj, String.reduceEq, reduceIte, decide_true, decide_false, Int.reduceAdd, Nat.reduceLeDiff, Nat.reduceAdd, Nat.zero_add, Nat.le_refl, Nat.zero_le, w_L_name_s2, e1, e2, e3, gNeg, zp]
    exact h _ (Int.emod_nonneg _ (by omega)) (Int.emod_lt_of_pos _ zp)
theorem hw_L_name : ∀ ms C CX, ms.length = 2 → sp__law_name ms C CX → w_L_name (env0 N_L_name ms) (bodyK pr_L_name 2 C) (fun x e => CX x (outs pr_L_name 2 e)) := by
  intro ms C CX _ h
  obtain ⟨cs, a, k, rfl, k0, k1, h⟩ := h
  unfold w_L_name
  rw [e_L_name]
  refine name_s1 fun z z0 z1 => name_s2 z0 fun y y0 y1 => ?_
  generalize hS : Sd cs a = S at *
  have l8 : (Str.ofString "qzjvqzjv").length ≤ 100000 := by decide +kernel
  have okq : PyData.strOk "qzjvqzjv" = true := strOk_lit _ (by decide)
  obtain ⟨r, hr⟩ : ∃ r : Nm, r.1 = cutS "qzjvqzjv" none (some z) := ⟨⟨_, strOk_cut okq none (some z)⟩, rfl⟩
  have hrl : r.1.length ≤ 8 := by rw [hr]; exact Nat.le_trans (len_cut _ _ _) (Nat.le_of_eq sz8)
  have hrl2 : r.1.length ≤ 100000 := by omega
  have q0 : 0 ≤ (7 * k + z) % 26 := Int.emod_nonneg _ (by decide)
  have q1 : (7 * k + z) % 26 < 26 := Int.emod_lt_of_pos _ (by decide)
  obtain ⟨n, e, hn1⟩ := gIx_sg (s := "abcdefghijklmnopqrstuvwxyz") q0 (by rw [sz26]; exact q1) (by decide) (strOk_lit _ (by decide))
  simp [wSeq, wIf, wTV, wAnd, wOr, wNot, wAndV, wOrV, wNotV, wIfE, wRd, wCons, wNil, woVar, woE, wVar, wMove, wC, wvCons, wvNil, wTup, wLst, wNext, wRet, wRetN, wDrop, wBrk, wCt, wAsg, wgN, wgNil, wgCons, wgT, wPar, wFor, wYes, wLc, wipeE, backE, wCall, wMeth, wDictNew, wgSub, wSlB, wZipL, wiSeq, wiR1, wiR2, wiStr, wiEnum, wiEnumS, bodyK, takeM, putM, msOf, M.fz, Res.m, M.seq, M.lseq, M.mseq, M.dict, isL, isK, gList, gTuple, gAppend, gGet2, gSetd, setD, gEq, gNe, eqD_ss, eqD_ii, eqD_bb, gIn, gNi, gZip, gAll, gAny, gMul, gInt, cPos, cDiv, cMul, gAdd, slD, sliceF, D.key, List.length_cons, List.length_nil, List.getElem?_cons_succ, List.getElem?_cons_zero, List.getElem?_nil, List.set_cons_succ, List.set_cons_zero, List.getD_cons_succ, List.getD_cons_zero, Option.bind_some, Option.map_some, Option.map_none, Option.bind_none, ixN, atI, HT.sIx, cutD, Option.isSome_some, if_true, if_false, ite_true, ite_false, Bool.false_eq_true, decide_eq_true_eq, Bool.not_true, Bool.not_false, true_and, and_true, ofS_inj, String.reduceEq, reduceIte, decide_true, decide_false, Int.reduceAdd, Nat.reduceLeDiff, Nat.reduceAdd, Nat.zero_add, Nat.le_refl, Nat.zero_le, w_L_name_s3, l8, ← hr]
  obtain ⟨r1, hr1⟩ : ∃ q : Nm, q.1 = cutS r.1 none (some y) := ⟨⟨_, strOk_cut r.2 none (some y)⟩, rfl⟩
  obtain ⟨r2, hr2⟩ : ∃ q : Nm, q.1 = cutS r.1 (some (y + 1)) none := ⟨⟨_, strOk_cut r.2 (some (y + 1)) none⟩, rfl⟩
  have l1 : r1.1.length ≤ 8 := by rw [hr1]; exact Nat.le_trans (len_cut _ _ _) hrl
  have l2 : r2.1.length ≤ 8 := by rw [hr2]; exact Nat.le_trans (len_cut _ _ _) hrl
  have la : ∀ x y : Str, (x ++ y).length = x.length + y.length := fun x y => Array.size_append
  obtain ⟨r3, hr3⟩ : ∃ q : Nm, q.1 = r1.1 ++ n.1 := ⟨⟨_, strOk_app r1.2 n.2⟩, rfl⟩
  obtain ⟨r4, hr4⟩ : ∃ q : Nm, q.1 = r3.1 ++ r2.1 := ⟨⟨_, strOk_app r3.2 r2.2⟩, rfl⟩
  have l3 : r3.1.length ≤ 9 := by rw [hr3, la]; omega
  have l4 : r4.1.length ≤ 17 := by rw [hr4, la]; omega
  have a1 : r1.1.length + n.1.length ≤ 100000 := by omega
  have a2 : r3.1.length + r2.1.length ≤ 100000 := by omega
  simp [wSeq, wIf, wTV, wAnd, wOr, wNot, wAndV, wOrV, wNotV, wIfE, wRd, wCons, wNil, woVar, woE, wVar, wMove, wC, wvCons, wvNil, wTup, wLst, wNext, wRet, wRetN, wDrop, wBrk, wCt, wAsg, wgN, wgNil, wgCons, wgT, wPar, wFor, wYes, wLc, wipeE, backE, wCall, wMeth, wDictNew, wgSub, wSlB, wZipL, wiSeq, wiR1, wiR2, wiStr, wiEnum, wiEnumS, bodyK, takeM, putM, msOf, M.fz, Res.m, M.seq, M.lseq, M.mseq, M.dict, isL, isK, gList, gTuple, gAppend, gGet2, gSetd, setD, gEq, gNe, eqD_ss, eqD_ii, eqD_bb, gIn, gNi, gZip, gAll, gAny, gMul, gInt, cPos, cDiv, cMul, gAdd, slD, sliceF, D.key, List.length_cons, List.length_nil, List.getElem?_cons_succ, List.getElem?_cons_zero, List.getElem?_nil, List.set_cons_succ, List.set_cons_zero, List.getD_cons_succ, List.getD_cons_zero, Option.bind_some, Option.map_some, Option.map_none, Option.bind_none, ixN, atI, HT.sIx, cutD, Option.isSome_some, if_true, if_false, ite_true, ite_false, Bool.false_eq_true, decide_eq_true_eq, Bool.not_true, Bool.not_false, true_and, and_true, ofS_inj, String.reduceEq, reduceIte, decide_true, decide_false, Int.reduceAdd, Nat.reduceLeDiff, Nat.reduceAdd, Nat.zero_add, Nat.le_refl, Nat.zero_le, w_L_name_s4, hrl2, ← hr1, ← hr2, e, a1, ← hr3, a2, ← hr4, o_L_name]
  exact h r4 l4 _
end BV

namespace BV
open PySem L2 PyProof.Rows
def sp__law_head : WF := fun ms C CX => ∃ (cs : List Int) (a k : Int), ms = [Sd cs a, .p (.int k)] ∧ 0 ≤ k ∧ k < 1000 ∧ ∀ s : Nm, s.1.length ≤ 18 → ∀ o2, C (.p (.str s.1)) [some (Sd cs a), o2]
theorem str_app_len (x y : Str) : (x ++ y).length = x.length + y.length := Array.size_append
theorem hw_L_head : ∀ ms C CX, ms.length = 2 → sp__law_head ms C CX → w_L_head sp__law_name (env0 N_L_head ms) (bodyK pr_L_head 2 C) (fun x e => CX x (outs pr_L_head 2 e)) := by
  intro ms C CX _ h
  obtain ⟨cs, a, k, rfl, k0, k1, h⟩ := h
  unfold w_L_head
  rw [e_L_head]
  have q0 : 0 ≤ (5 * k + 2) % 26 := Int.emod_nonneg _ (by decide)
  have q1 : (5 * k + 2) % 26 < 26 := Int.emod_lt_of_pos _ (by decide)
  obtain ⟨n, e, hn1⟩ := gIx_sg (s := "ABCDEFGHIJKLMNOPQRSTUVWXYZ") q0 (by rw [sz26A]; exact q1) (by decide) (strOk_lit _ (by decide))
  obtain ⟨ks, vs, hS⟩ := SdM cs a
  rw [hS]
  simp [wSeq, wIf, wTV, wAnd, wOr, wNot, wAndV, wOrV, wNotV, wIfE, wRd, wCons, wNil, woVar, woE, wVar, wMove, wC, wvCons, wvNil, wTup, wLst, wNext, wRet, wRetN, wDrop, wBrk, wCt, wAsg, wgN, wgNil, wgCons, wgT, wPar, wFor, wYes, wLc, wipeE, backE, wCall, wMeth, wDictNew, wgSub, wSlB, wZipL, wiSeq, wiR1, wiR2, wiStr, wiEnum, wiEnumS, bodyK, takeM, putM, msOf, M.fz, Res.m, M.seq, M.lseq, M.mseq, M.dict, isL, isK, gList, gTuple, gAppend, gGet2, gSetd, setD, gEq, gNe, eqD_ss, eqD_ii, eqD_bb, gIn, gNi, gZip, gAll, gAny, gMul, gInt, cPos, cDiv, cMul, gAdd, slD, sliceF, D.key, List.length_cons, List.length_nil, List.getElem?_cons_succ, List.getElem?_cons_zero, List.getElem?_nil, List.set_cons_succ, List.set_cons_zero, List.getD_cons_succ, List.getD_cons_zero, Option.bind_some, Option.map_some, Option.map_none, Option.bind_none, ixN, atI, HT.sIx, cutD, Option.isSome_some, if_true, if_false, ite_true, ite_false, Bool.false_eq_true, decide_eq_true_eq, Bool.not_true, Bool.not_false, true_and, and_true, ofS_inj, String.reduceEq, reduceIte, decide_true, decide_false, Int.reduceAdd, Nat.reduceLeDiff, Nat.reduceAdd, Nat.zero_add, Nat.le_refl, Nat.zero_le, w_L_head_s1, e]
  rw [← hS]
  refine ⟨cs, a, k, rfl, k0, k1, fun s hs o2 => ?_⟩
  have hs2 : s.1.length ≤ 100000 := by omega
  obtain ⟨r, hr⟩ : ∃ q : Nm, q.1 = cutS s.1 none (some 7) := ⟨⟨_, strOk_cut s.2 none (some 7)⟩, rfl⟩
  have hrl : r.1.length ≤ 17 := by rw [hr]; exact Nat.le_trans (len_cut _ _ _) hs
  have a1 : n.1.length + r.1.length ≤ 100000 := by omega
  obtain ⟨t, ht⟩ : ∃ q : Nm, q.1 = n.1 ++ r.1 := ⟨⟨_, strOk_app n.2 r.2⟩, rfl⟩
  have htl : t.1.length ≤ 18 := by rw [ht, str_app_len]; omega
  have h2 := h t htl
  generalize Sd cs a = S at *
  simp [wSeq, wIf, wTV, wAnd, wOr, wNot, wAndV, wOrV, wNotV, wIfE, wRd, wCons, wNil, woVar, woE, wVar, wMove, wC, wvCons, wvNil, wTup, wLst, wNext, wRet, wRetN, wDrop, wBrk, wCt, wAsg, wgN, wgNil, wgCons, wgT, wPar, wFor, wYes, wLc, wipeE, backE, wCall, wMeth, wDictNew, wgSub, wSlB, wZipL, wiSeq, wiR1, wiR2, wiStr, wiEnum, wiEnumS, bodyK, takeM, putM, msOf, M.fz, Res.m, M.seq, M.lseq, M.mseq, M.dict, isL, isK, gList, gTuple, gAppend, gGet2, gSetd, setD, gEq, gNe, eqD_ss, eqD_ii, eqD_bb, gIn, gNi, gZip, gAll, gAny, gMul, gInt, cPos, cDiv, cMul, gAdd, slD, sliceF, D.key, List.length_cons, List.length_nil, List.getElem?_cons_succ, List.getElem?_cons_zero, List.getElem?_nil, List.set_cons_succ, List.set_cons_zero, List.getD_cons_succ, List.getD_cons_zero, Option.bind_some, Option.map_some, Option.map_none, Option.bind_none, ixN, atI, HT.sIx, cutD, Option.isSome_some, if_true, if_false, ite_true, ite_false, Bool.false_eq_true, decide_eq_true_eq, Bool.not_true, Bool.not_false, true_and, and_true, ofS_inj, String.reduceEq, reduceIte, decide_true, decide_false, Int.reduceAdd, Nat.reduceLeDiff, Nat.reduceAdd, Nat.zero_add, Nat.le_refl, Nat.zero_le, hs2, ← hr, a1, ← ht, o_L_head]
  exact h2 _
/-! ### what is known of choices -/
structure KnOk (ns : List Nm) (vs : List D) : Prop where
  len : ns.length ≤ 10
  val : ∀ n ∈ ns, ∃ v : Int, getK (ksN ns) vs (.inr n.1) = some (.int v) ∧ (v = 0 ∨ v = 1 ∨ v = 3)
variable {ns : List Nm} {vs : List D} {C : List D → Env → Prop} {x0 x2 x3 x4 x5 x6 x7 x8 x10 x11 : Option M} {o : Obj} {kvs : List (Key × V)}
theorem ix_z (hk : kvs.map (·.1) = ksN ns) {n : Nm} {v : Int} (h : getK (ksN ns) vs (.inr n.1) = some (.int v)) : gIx [.z o kvs vs, .p (.str n.1)] = some (.val (.int v)) := by
  simp [gIx, M.seq, M.dict, D.key, hk, h]
theorem ix_k {n : Nm} {v : Int} (h : getK (ksN ns) vs (.inr n.1) = some (.int v)) : gIx [.k (ksN ns) vs, .p (.str n.1)] = some (.val (.int v)) := by
  simp [gIx, M.seq, M.dict, D.key, h]
theorem lf_kind1 (hk : kvs.map (·.1) = ksN ns) (K : KnOk ns vs) : ∀ (l acc : List Nm), (∀ n ∈ l, n ∈ ns) → acc.length + l.length ≤ 100 → (∀ n ∈ acc, n ∈ ns) →
    (∀ ms : List Nm, ms.length ≤ acc.length + l.length → (∀ n ∈ ms, n ∈ ns) → C (strN ms) [x0, some (.z o kvs vs), x2, x3, x4, x5, x6, x7, x8, none, x10, x11]) →
    wLcP (fun e2 => e2[1]? = some (some (.z o kvs vs))) [9] w_L_kind_g1 w_L_kind_t1 w_L_kind_e1 C (strN l) (strN acc) [x0, some (.z o kvs vs), x2, x3, x4, x5, x6, x7, x8, none, x10, x11] := by
  intro l
  induction l with
  | nil =>
    intro acc _ _ ha h
    have := h acc (by simp) ha
    exact ⟨rfl, this⟩
  | cons n l ih =>
    intro acc hl hn ha h
    obtain ⟨v, hv, _⟩ := K.val n (hl n (by simp))
    have e := ix_z (o := o) hk hv
    have hacc : (strN acc).length < 100000 := by simp [strN]; simp at hn; omega
    have e2 : strN acc ++ [.str n.1] = strN (acc ++ [n]) := by simp [strN]
    have e3 : strN (n :: l) = .str n.1 :: strN l := rfl
    rw [e3]
    by_cases h0 : v = 0
    · subst h0
      simp [wLcP, w_L_kind_g1, w_L_kind_t1, w_L_kind_e1, wSeq, wIf, wTV, wAnd, wOr, wNot, wAndV, wOrV, wNotV, wIfE, wRd, wCons, wNil, woVar, woE, wVar, wMove, wC, wvCons, wvNil, wTup, wLst, wNext, wRet, wRetN, wDrop, wBrk, wCt, wAsg, wgN, wgNil, wgCons, wgT, wPar, wFor, wYes, wLc, wipeE, backE, wCall, wMeth, wDictNew, wgSub, wSlB, wZipL, wiSeq, wiR1, wiR2, wiStr, wiEnum, wiEnumS, bodyK, takeM, putM, msOf, M.fz, Res.m, M.seq, M.lseq, M.mseq, M.dict, isL, isK, gList, gTuple, gAppend, gGet2, gSetd, setD, gEq, gNe, eqD_ss, eqD_ii, eqD_bb, gIn, gNi, gZip, gAll, gAny, gMul, gInt, cPos, cDiv, cMul, gAdd, slD, sliceF, D.key, List.length_cons, List.length_nil, List.getElem?_cons_succ, List.getElem?_cons_zero, List.getElem?_nil, List.set_cons_succ, List.set_cons_zero, List.getD_cons_succ, List.getD_cons_zero, Option.bind_some, Option.map_some, Option.map_none, Option.bind_none, ixN, atI, HT.sIx, cutD, Option.isSome_some, if_true, if_false, ite_true, ite_false, Bool.false_eq_true, decide_eq_true_eq, Bool.not_true, Bool.not_false, true_and, and_true, ofS_inj, String.reduceEq, reduceIte, decide_true, decide_false, Int.reduceAdd, Nat.reduceLeDiff, Nat.reduceAdd, Nat.zero_add, Nat.le_refl, Nat.zero_le, e, hacc]
      rw [e2]
      exact ih (acc ++ [n]) (fun m hm => hl m (by simp [hm])) (by simp at hn ⊢; omega) (fun m hm => by
        rcases List.mem_append.mp hm with hm | hm
        · exact ha m hm
        · rw [List.mem_singleton.mp hm]; exact hl n (by simp)) (fun ms hms hm => h ms (by simp at hms ⊢; omega) hm)
    · simp [wLcP, w_L_kind_g1, w_L_kind_t1, w_L_kind_e1, wSeq, wIf, wTV, wAnd, wOr, wNot, wAndV, wOrV, wNotV, wIfE, wRd, wCons, wNil, woVar, woE, wVar, wMove, wC, wvCons, wvNil, wTup, wLst, wNext, wRet, wRetN, wDrop, wBrk, wCt, wAsg, wgN, wgNil, wgCons, wgT, wPar, wFor, wYes, wLc, wipeE, backE, wCall, wMeth, wDictNew, wgSub, wSlB, wZipL, wiSeq, wiR1, wiR2, wiStr, wiEnum, wiEnumS, bodyK, takeM, putM, msOf, M.fz, Res.m, M.seq, M.lseq, M.mseq, M.dict, isL, isK, gList, gTuple, gAppend, gGet2, gSetd, setD, gEq, gNe, eqD_ss, eqD_ii, eqD_bb, gIn, gNi, gZip, gAll, gAny, gMul, gInt, cPos, cDiv, cMul, gAdd, slD, sliceF, D.key, List.length_cons, List.length_nil, List.getElem?_cons_succ, List.getElem?_cons_zero, List.getElem?_nil, List.set_cons_succ, List.set_cons_zero, List.getD_cons_succ, List.getD_cons_zero, Option.bind_some, Option.map_some, Option.map_none, Option.bind_none, ixN, atI, HT.sIx, cutD, Option.isSome_some, if_true, if_false, ite_true, ite_false, Bool.false_eq_true, decide_eq_true_eq, Bool.not_true, Bool.not_false, true_and, and_true, ofS_inj, String.reduceEq, reduceIte, decide_true, decide_false, Int.reduceAdd, Nat.reduceLeDiff, Nat.reduceAdd, Nat.zero_add, Nat.le_refl, Nat.zero_le, e, h0]
      exact ih acc (fun m hm => hl m (by simp [hm])) (by simp at hn ⊢; omega) ha (fun ms hms hm => h ms (by simp at hms ⊢; omega) hm)
end BV

namespace BV
open PySem L2 PyProof.Rows
variable {ns : List Nm} {vs : List D} {x0 x2 x3 x4 x5 x6 x7 x8 x9 x10 x11 : Option M} {o : Obj} {kvs : List (Key × V)} {room : Int}
theorem lf_kind3 {C : List D → Env → Prop} (hk : kvs.map (·.1) = ksN ns) (K : KnOk ns vs) : ∀ (l acc : List Nm), (∀ n ∈ l, n ∈ ns) → acc.length + l.length ≤ 100 → (∀ n ∈ acc, n ∈ ns ∧ ∃ v : Int, getK (ksN ns) vs (.inr n.1) = some (.int v) ∧ (v = 1 ∨ v = 3)) →
    (∀ ms : List Nm, ms.length ≤ acc.length + l.length → (∀ n ∈ ms, n ∈ ns ∧ ∃ v : Int, getK (ksN ns) vs (.inr n.1) = some (.int v) ∧ (v = 1 ∨ v = 3)) → C (strN ms) [x0, some (.z o kvs vs), some (.p (.int room)), x3, x4, x5, x6, x7, x8, none, x10, x11]) →
    wLcP (fun e2 => e2[1]? = some (some (.z o kvs vs))) [9] w_L_kind_g3 w_L_kind_t3 w_L_kind_e3 C (strN l) (strN acc) [x0, some (.z o kvs vs), some (.p (.int room)), x3, x4, x5, x6, x7, x8, none, x10, x11] := by
  intro l
  induction l with
  | nil =>
    intro acc _ _ ha h
    have := h acc (by simp) ha
    exact ⟨rfl, this⟩
  | cons n l ih =>
    intro acc hl hn ha h
    obtain ⟨v, hv, hv3⟩ := K.val n (hl n (by simp))
    have e := ix_z (o := o) hk hv
    have hacc : (strN acc).length < 100000 := by simp [strN]; simp at hn; omega
    have e2 : strN acc ++ [.str n.1] = strN (acc ++ [n]) := by simp [strN]
    have e3 : strN (n :: l) = .str n.1 :: strN l := rfl
    have skip := ih acc (fun m hm => hl m (by simp [hm])) (by simp at hn ⊢; omega) ha (fun ms hms hm => h ms (by simp at hms ⊢; omega) hm)
    have take : (v = 1 ∨ v = 3) → _ := fun hv13 => ih (acc ++ [n]) (fun m hm => hl m (by simp [hm])) (by simp at hn ⊢; omega) (fun m hm => by
        rcases List.mem_append.mp hm with hm | hm
        · exact ha m hm
        · rw [List.mem_singleton.mp hm]; exact ⟨hl n (by simp), v, hv, hv13⟩) (fun ms hms hm => h ms (by simp at hms ⊢; omega) hm)
    rw [e3]
    rcases hv3 with rfl | rfl | rfl
    · simp [wLcP, w_L_kind_g3, w_L_kind_t3, w_L_kind_e3, wSeq, wIf, wTV, wAnd, wOr, wNot, wAndV, wOrV, wNotV, wIfE, wRd, wCons, wNil, woVar, woE, wVar, wMove, wC, wvCons, wvNil, wTup, wLst, wNext, wRet, wRetN, wDrop, wBrk, wCt, wAsg, wgN, wgNil, wgCons, wgT, wPar, wFor, wYes, wLc, wipeE, backE, wCall, wMeth, wDictNew, wgSub, wSlB, wZipL, wiSeq, wiR1, wiR2, wiStr, wiEnum, wiEnumS, bodyK, takeM, putM, msOf, M.fz, Res.m, M.seq, M.lseq, M.mseq, M.dict, isL, isK, gList, gTuple, gAppend, gGet2, gSetd, setD, gEq, gNe, eqD_ss, eqD_ii, eqD_bb, gIn, gNi, gZip, gAll, gAny, gMul, gInt, cPos, cDiv, cMul, gAdd, slD, sliceF, D.key, List.length_cons, List.length_nil, List.getElem?_cons_succ, List.getElem?_cons_zero, List.getElem?_nil, List.set_cons_succ, List.set_cons_zero, List.getD_cons_succ, List.getD_cons_zero, Option.bind_some, Option.map_some, Option.map_none, Option.bind_none, ixN, atI, HT.sIx, cutD, Option.isSome_some, if_true, if_false, ite_true, ite_false, Bool.false_eq_true, decide_eq_true_eq, Bool.not_true, Bool.not_false, true_and, and_true, ofS_inj, String.reduceEq, reduceIte, decide_true, decide_false, Int.reduceAdd, Nat.reduceLeDiff, Nat.reduceAdd, Nat.zero_add, Nat.le_refl, Nat.zero_le, e, gCmp, pGt]
      exact skip
    · by_cases hr : 2 < room
      · simp [wLcP, w_L_kind_g3, w_L_kind_t3, w_L_kind_e3, wSeq, wIf, wTV, wAnd, wOr, wNot, wAndV, wOrV, wNotV, wIfE, wRd, wCons, wNil, woVar, woE, wVar, wMove, wC, wvCons, wvNil, wTup, wLst, wNext, wRet, wRetN, wDrop, wBrk, wCt, wAsg, wgN, wgNil, wgCons, wgT, wPar, wFor, wYes, wLc, wipeE, backE, wCall, wMeth, wDictNew, wgSub, wSlB, wZipL, wiSeq, wiR1, wiR2, wiStr, wiEnum, wiEnumS, bodyK, takeM, putM, msOf, M.fz, Res.m, M.seq, M.lseq, M.mseq, M.dict, isL, isK, gList, gTuple, gAppend, gGet2, gSetd, setD, gEq, gNe, eqD_ss, eqD_ii, eqD_bb, gIn, gNi, gZip, gAll, gAny, gMul, gInt, cPos, cDiv, cMul, gAdd, slD, sliceF, D.key, List.length_cons, List.length_nil, List.getElem?_cons_succ, List.getElem?_cons_zero, List.getElem?_nil, List.set_cons_succ, List.set_cons_zero, List.getD_cons_succ, List.getD_cons_zero, Option.bind_some, Option.map_some, Option.map_none, Option.bind_none, ixN, atI, HT.sIx, cutD, Option.isSome_some, if_true, if_false, ite_true, ite_false, Bool.false_eq_true, decide_eq_true_eq, Bool.not_true, Bool.not_false, true_and, and_true, ofS_inj, String.reduceEq, reduceIte, decide_true, decide_false, Int.reduceAdd, Nat.reduceLeDiff, Nat.reduceAdd, Nat.zero_add, Nat.le_refl, Nat.zero_le, e, gCmp, pGt, pLt, hr, hacc]
        rw [e2]; exact take (.inl rfl)
      · simp [wLcP, w_L_kind_g3, w_L_kind_t3, w_L_kind_e3, wSeq, wIf, wTV, wAnd, wOr, wNot, wAndV, wOrV, wNotV, wIfE, wRd, wCons, wNil, woVar, woE, wVar, wMove, wC, wvCons, wvNil, wTup, wLst, wNext, wRet, wRetN, wDrop, wBrk, wCt, wAsg, wgN, wgNil, wgCons, wgT, wPar, wFor, wYes, wLc, wipeE, backE, wCall, wMeth, wDictNew, wgSub, wSlB, wZipL, wiSeq, wiR1, wiR2, wiStr, wiEnum, wiEnumS, bodyK, takeM, putM, msOf, M.fz, Res.m, M.seq, M.lseq, M.mseq, M.dict, isL, isK, gList, gTuple, gAppend, gGet2, gSetd, setD, gEq, gNe, eqD_ss, eqD_ii, eqD_bb, gIn, gNi, gZip, gAll, gAny, gMul, gInt, cPos, cDiv, cMul, gAdd, slD, sliceF, D.key, List.length_cons, List.length_nil, List.getElem?_cons_succ, List.getElem?_cons_zero, List.getElem?_nil, List.set_cons_succ, List.set_cons_zero, List.getD_cons_succ, List.getD_cons_zero, Option.bind_some, Option.map_some, Option.map_none, Option.bind_none, ixN, atI, HT.sIx, cutD, Option.isSome_some, if_true, if_false, ite_true, ite_false, Bool.false_eq_true, decide_eq_true_eq, Bool.not_true, Bool.not_false, true_and, and_true, ofS_inj, String.reduceEq, reduceIte, decide_true, decide_false, Int.reduceAdd, Nat.reduceLeDiff, Nat.reduceAdd, Nat.zero_add, Nat.le_refl, Nat.zero_le, e, gCmp, pGt, pLt, hr]
        exact skip
    · by_cases hr : 6 < room
      · simp [wLcP, w_L_kind_g3, w_L_kind_t3, w_L_kind_e3, wSeq, wIf, wTV, wAnd, wOr, wNot, wAndV, wOrV, wNotV, wIfE, wRd, wCons, wNil, woVar, woE, wVar, wMove, wC, wvCons, wvNil, wTup, wLst, wNext, wRet, wRetN, wDrop, wBrk, wCt, wAsg, wgN, wgNil, wgCons, wgT, wPar, wFor, wYes, wLc, wipeE, backE, wCall, wMeth, wDictNew, wgSub, wSlB, wZipL, wiSeq, wiR1, wiR2, wiStr, wiEnum, wiEnumS, bodyK, takeM, putM, msOf, M.fz, Res.m, M.seq, M.lseq, M.mseq, M.dict, isL, isK, gList, gTuple, gAppend, gGet2, gSetd, setD, gEq, gNe, eqD_ss, eqD_ii, eqD_bb, gIn, gNi, gZip, gAll, gAny, gMul, gInt, cPos, cDiv, cMul, gAdd, slD, sliceF, D.key, List.length_cons, List.length_nil, List.getElem?_cons_succ, List.getElem?_cons_zero, List.getElem?_nil, List.set_cons_succ, List.set_cons_zero, List.getD_cons_succ, List.getD_cons_zero, Option.bind_some, Option.map_some, Option.map_none, Option.bind_none, ixN, atI, HT.sIx, cutD, Option.isSome_some, if_true, if_false, ite_true, ite_false, Bool.false_eq_true, decide_eq_true_eq, Bool.not_true, Bool.not_false, true_and, and_true, ofS_inj, String.reduceEq, reduceIte, decide_true, decide_false, Int.reduceAdd, Nat.reduceLeDiff, Nat.reduceAdd, Nat.zero_add, Nat.le_refl, Nat.zero_le, e, gCmp, pGt, pLt, hr, hacc]
        rw [e2]; exact take (.inr rfl)
      · simp [wLcP, w_L_kind_g3, w_L_kind_t3, w_L_kind_e3, wSeq, wIf, wTV, wAnd, wOr, wNot, wAndV, wOrV, wNotV, wIfE, wRd, wCons, wNil, woVar, woE, wVar, wMove, wC, wvCons, wvNil, wTup, wLst, wNext, wRet, wRetN, wDrop, wBrk, wCt, wAsg, wgN, wgNil, wgCons, wgT, wPar, wFor, wYes, wLc, wipeE, backE, wCall, wMeth, wDictNew, wgSub, wSlB, wZipL, wiSeq, wiR1, wiR2, wiStr, wiEnum, wiEnumS, bodyK, takeM, putM, msOf, M.fz, Res.m, M.seq, M.lseq, M.mseq, M.dict, isL, isK, gList, gTuple, gAppend, gGet2, gSetd, setD, gEq, gNe, eqD_ss, eqD_ii, eqD_bb, gIn, gNi, gZip, gAll, gAny, gMul, gInt, cPos, cDiv, cMul, gAdd, slD, sliceF, D.key, List.length_cons, List.length_nil, List.getElem?_cons_succ, List.getElem?_cons_zero, List.getElem?_nil, List.set_cons_succ, List.set_cons_zero, List.getD_cons_succ, List.getD_cons_zero, Option.bind_some, Option.map_some, Option.map_none, Option.bind_none, ixN, atI, HT.sIx, cutD, Option.isSome_some, if_true, if_false, ite_true, ite_false, Bool.false_eq_true, decide_eq_true_eq, Bool.not_true, Bool.not_false, true_and, and_true, ofS_inj, String.reduceEq, reduceIte, decide_true, decide_false, Int.reduceAdd, Nat.reduceLeDiff, Nat.reduceAdd, Nat.zero_add, Nat.le_refl, Nat.zero_le, e, gCmp, pGt, pLt, hr]
        exact skip
def nmD (l : List Nm) : List D := l.map fun n => enK (.nm0 n)
theorem lf_kind2 {C : List D → Env → Prop} {x1 : Option M} : ∀ (l acc : List Nm), acc.length + l.length ≤ 100 → (C (nmD (acc ++ l)) [x0, x1, x2, x3, x4, x5, x6, x7, x8, none, x10, x11]) →
    wLcL [9] w_L_kind_g2 wYes w_L_kind_e2 C (strN l) (nmD acc) [x0, x1, x2, x3, x4, x5, x6, x7, x8, none, x10, x11] := by
  intro l
  induction l with
  | nil =>
    intro acc _ h
    have h2 := h
    simp at h2
    exact h2
  | cons n l ih =>
    intro acc hn h
    have hacc : (nmD acc).length < 100000 := by simp [nmD]; simp at hn; omega
    have e3 : strN (n :: l) = .str n.1 :: strN l := rfl
    have e2 : nmD acc ++ [.tup [.str "named", .str n.1, .tup []]] = nmD (acc ++ [n]) := by simp [nmD, enK]
    rw [e3]
    simp [wLcL, w_L_kind_g2, w_L_kind_e2, wSeq, wIf, wTV, wAnd, wOr, wNot, wAndV, wOrV, wNotV, wIfE, wRd, wCons, wNil, woVar, woE, wVar, wMove, wC, wvCons, wvNil, wTup, wLst, wNext, wRet, wRetN, wDrop, wBrk, wCt, wAsg, wgN, wgNil, wgCons, wgT, wPar, wFor, wYes, wLc, wipeE, backE, wCall, wMeth, wDictNew, wgSub, wSlB, wZipL, wiSeq, wiR1, wiR2, wiStr, wiEnum, wiEnumS, bodyK, takeM, putM, msOf, M.fz, Res.m, M.seq, M.lseq, M.mseq, M.dict, isL, isK, gList, gTuple, gAppend, gGet2, gSetd, setD, gEq, gNe, eqD_ss, eqD_ii, eqD_bb, gIn, gNi, gZip, gAll, gAny, gMul, gInt, cPos, cDiv, cMul, gAdd, slD, sliceF, D.key, List.length_cons, List.length_nil, List.getElem?_cons_succ, List.getElem?_cons_zero, List.getElem?_nil, List.set_cons_succ, List.set_cons_zero, List.getD_cons_succ, List.getD_cons_zero, Option.bind_some, Option.map_some, Option.map_none, Option.bind_none, ixN, atI, HT.sIx, cutD, Option.isSome_some, if_true, if_false, ite_true, ite_false, Bool.false_eq_true, decide_eq_true_eq, Bool.not_true, Bool.not_false, true_and, and_true, ofS_inj, String.reduceEq, reduceIte, decide_true, decide_false, Int.reduceAdd, Nat.reduceLeDiff, Nat.reduceAdd, Nat.zero_add, Nat.le_refl, Nat.zero_le, hacc]
    rw [e2]
    exact ih (acc ++ [n]) (by simp at hn ⊢; omega) (by simpa using h)
def sp__law_kind (n : Nat) : WF := fun ms C CX => ∃ (cs : List Int) (a : Int) (ns : List Nm) (vs : List D) (room deep : Int), ms = [Sd cs a, .k (ksN ns) vs, .p (.int room), .p (.int deep)] ∧ KnOk ns vs ∧ 1 ≤ deep ∧ deep ≤ n ∧ 0 ≤ room ∧ room ≤ 1000 ∧ 0 ≤ a ∧ a + 4 * 4 ^ n ≤ 100000000000 ∧
  ∀ (t : Kk) (a' : Int), 2 * (paK t).length + 1 ≤ 3 ^ n → htK t ≤ 2 * n → a ≤ a' → a' ≤ a + 4 * 4 ^ n → ∀ o3 o4, C (.p (enK t)) [some (Sd cs a'), some (.k (ksN ns) vs), o3, o4]
theorem kd_s1 {C : KS} {X : KX} {cs : List Int} {a : Int} {x1 : Option M} (ha : 0 ≤ a) (ha2 : a < 1000000000000) (h : ∀ r : Int, 0 ≤ r → r < 8 → C.nx [some (Sd cs (a + 1)), x1, x2, x3, some (.p (.int r)), x5, x6, x7, x8, x9, x10, x11]) :
    w_L_kind_s1 sp__law_next [some (Sd cs a), x1, x2, x3, x4, x5, x6, x7, x8, x9, x10, x11] C X := by
  obtain ⟨ks, vs, hS⟩ := SdM cs a
  rw [hS]
  simp [wSeq, wIf, wTV, wAnd, wOr, wNot, wAndV, wOrV, wNotV, wIfE, wRd, wCons, wNil, woVar, woE, wVar, wMove, wC, wvCons, wvNil, wTup, wLst, wNext, wRet, wRetN, wDrop, wBrk, wCt, wAsg, wgN, wgNil, wgCons, wgT, wPar, wFor, wYes, wLc, wipeE, backE, wCall, wMeth, wDictNew, wgSub, wSlB, wZipL, wiSeq, wiR1, wiR2, wiStr, wiEnum, wiEnumS, bodyK, takeM, putM, msOf, M.fz, Res.m, M.seq, M.lseq, M.mseq, M.dict, isL, isK, gList, gTuple, gAppend, gGet2, gSetd, setD, gEq, gNe, eqD_ss, eqD_ii, eqD_bb, gIn, gNi, gZip, gAll, gAny, gMul, gInt, cPos, cDiv, cMul, gAdd, slD, sliceF, D.key, List.length_cons, List.length_nil, List.getElem?_cons_succ, List.getElem?_cons_zero, List.getElem?_nil, List.set_cons_succ, List.set_cons_zero, List.getD_cons_succ, List.getD_cons_zero, Option.bind_some, Option.map_some, Option.map_none, Option.bind_none, ixN, atI, HT.sIx, cutD, Option.isSome_some, if_true, if_false, ite_true, ite_false, Bool.false_eq_true, decide_eq_true_eq, Bool.not_true, Bool.not_false, true_and, and_true, ofS_inj, String.reduceEq, reduceIte, decide_true, decide_false, Int.reduceAdd, Nat.reduceLeDiff, Nat.reduceAdd, Nat.zero_add, Nat.le_refl, Nat.zero_le, w_L_kind_s1]
  rw [← hS]
  refine ⟨cs, a, 8, rfl, by decide, ha, ha2, fun r r0 r1 o2 => ?_⟩
  have := h r r0 r1
  generalize Sd cs (a + 1) = S at *
  simp [wSeq, wIf, wTV, wAnd, wOr, wNot, wAndV, wOrV, wNotV, wIfE, wRd, wCons, wNil, woVar, woE, wVar, wMove, wC, wvCons, wvNil, wTup, wLst, wNext, wRet, wRetN, wDrop, wBrk, wCt, wAsg, wgN, wgNil, wgCons, wgT, wPar, wFor, wYes, wLc, wipeE, backE, wCall, wMeth, wDictNew, wgSub, wSlB, wZipL, wiSeq, wiR1, wiR2, wiStr, wiEnum, wiEnumS, bodyK, takeM, putM, msOf, M.fz, Res.m, M.seq, M.lseq, M.mseq, M.dict, isL, isK, gList, gTuple, gAppend, gGet2, gSetd, setD, gEq, gNe, eqD_ss, eqD_ii, eqD_bb, gIn, gNi, gZip, gAll, gAny, gMul, gInt, cPos, cDiv, cMul, gAdd, slD, sliceF, D.key, List.length_cons, List.length_nil, List.getElem?_cons_succ, List.getElem?_cons_zero, List.getElem?_nil, List.set_cons_succ, List.set_cons_zero, List.getD_cons_succ, List.getD_cons_zero, Option.bind_some, Option.map_some, Option.map_none, Option.bind_none, ixN, atI, HT.sIx, cutD, Option.isSome_some, if_true, if_false, ite_true, ite_false, Bool.false_eq_true, decide_eq_true_eq, Bool.not_true, Bool.not_false, true_and, and_true, ofS_inj, String.reduceEq, reduceIte, decide_true, decide_false, Int.reduceAdd, Nat.reduceLeDiff, Nat.reduceAdd, Nat.zero_add, Nat.le_refl, Nat.zero_le]
  exact this
theorem ksN_key (ns : List Nm) : (ksN ns).map keyD = strN ns := key_N ns
theorem kd_s2 {C : KS} {X : KX} (K : KnOk ns vs) (h : ∀ ms : List Nm, ms.length ≤ 10 → (∀ n ∈ ms, n ∈ ns) → C.nx [x0, some (.k (ksN ns) vs), x2, x3, x4, x5, x6, some (.l (strN ms)), x8, x9, x10, x11]) :
    w_L_kind_s2 [x0, some (.k (ksN ns) vs), x2, x3, x4, x5, x6, x7, x8, x9, x10, x11] C X := by
  simp [w_L_kind_s2, wAsg, wLcK, wipeE, backE]
  intro o kvs hk
  rw [ksN_key]
  refine lf_kind1 hk K ns [] (fun n hn => hn) (by have := K.len; simp; omega) (by simp) fun ms hms hm => ?_
  have := h ms (by have := K.len; simp at hms; omega) hm
  simp [wSeq, wIf, wTV, wAnd, wOr, wNot, wAndV, wOrV, wNotV, wIfE, wRd, wCons, wNil, woVar, woE, wVar, wMove, wC, wvCons, wvNil, wTup, wLst, wNext, wRet, wRetN, wDrop, wBrk, wCt, wAsg, wgN, wgNil, wgCons, wgT, wPar, wFor, wYes, wLc, wipeE, backE, wCall, wMeth, wDictNew, wgSub, wSlB, wZipL, wiSeq, wiR1, wiR2, wiStr, wiEnum, wiEnumS, bodyK, takeM, putM, msOf, M.fz, Res.m, M.seq, M.lseq, M.mseq, M.dict, isL, isK, gList, gTuple, gAppend, gGet2, gSetd, setD, gEq, gNe, eqD_ss, eqD_ii, eqD_bb, gIn, gNi, gZip, gAll, gAny, gMul, gInt, cPos, cDiv, cMul, gAdd, slD, sliceF, D.key, List.length_cons, List.length_nil, List.getElem?_cons_succ, List.getElem?_cons_zero, List.getElem?_nil, List.set_cons_succ, List.set_cons_zero, List.getD_cons_succ, List.getD_cons_zero, Option.bind_some, Option.map_some, Option.map_none, Option.bind_none, ixN, atI, HT.sIx, cutD, Option.isSome_some, if_true, if_false, ite_true, ite_false, Bool.false_eq_true, decide_eq_true_eq, Bool.not_true, Bool.not_false, true_and, and_true, ofS_inj, String.reduceEq, reduceIte, decide_true, decide_false, Int.reduceAdd, Nat.reduceLeDiff, Nat.reduceAdd, Nat.zero_add, Nat.le_refl, Nat.zero_le]
  exact this
theorem kd_s9 {C : KS} {X : KX} (K : KnOk ns vs) (h : ∀ ms : List Nm, ms.length ≤ 10 → (∀ n ∈ ms, n ∈ ns ∧ ∃ v : Int, getK (ksN ns) vs (.inr n.1) = some (.int v) ∧ (v = 1 ∨ v = 3)) → C.nx [x0, some (.k (ksN ns) vs), some (.p (.int room)), x3, x4, some (.l (strN ms)), x6, x7, x8, x9, x10, x11]) :
    w_L_kind_s9 [x0, some (.k (ksN ns) vs), some (.p (.int room)), x3, x4, x5, x6, x7, x8, x9, x10, x11] C X := by
  simp [w_L_kind_s9, wAsg, wLcK, wipeE, backE]
  intro o kvs hk
  rw [ksN_key]
  refine lf_kind3 hk K ns [] (fun n hn => hn) (by have := K.len; simp; omega) (by simp) fun ms hms hm => ?_
  have := h ms (by have := K.len; simp at hms; omega) hm
  simp [wSeq, wIf, wTV, wAnd, wOr, wNot, wAndV, wOrV, wNotV, wIfE, wRd, wCons, wNil, woVar, woE, wVar, wMove, wC, wvCons, wvNil, wTup, wLst, wNext, wRet, wRetN, wDrop, wBrk, wCt, wAsg, wgN, wgNil, wgCons, wgT, wPar, wFor, wYes, wLc, wipeE, backE, wCall, wMeth, wDictNew, wgSub, wSlB, wZipL, wiSeq, wiR1, wiR2, wiStr, wiEnum, wiEnumS, bodyK, takeM, putM, msOf, M.fz, Res.m, M.seq, M.lseq, M.mseq, M.dict, isL, isK, gList, gTuple, gAppend, gGet2, gSetd, setD, gEq, gNe, eqD_ss, eqD_ii, eqD_bb, gIn, gNi, gZip, gAll, gAny, gMul, gInt, cPos, cDiv, cMul, gAdd, slD, sliceF, D.key, List.length_cons, List.length_nil, List.getElem?_cons_succ, List.getElem?_cons_zero, List.getElem?_nil, List.set_cons_succ, List.set_cons_zero, List.getD_cons_succ, List.getD_cons_zero, Option.bind_some, Option.map_some, Option.map_none, Option.bind_none, ixN, atI, HT.sIx, cutD, Option.isSome_some, if_true, if_false, ite_true, ite_false, Bool.false_eq_true, decide_eq_true_eq, Bool.not_true, Bool.not_false, true_and, and_true, ofS_inj, String.reduceEq, reduceIte, decide_true, decide_false, Int.reduceAdd, Nat.reduceLeDiff, Nat.reduceAdd, Nat.zero_add, Nat.le_refl, Nat.zero_le]
  exact this
def plD (s : Nm) (ms : List Nm) : List Kk := [.number, .truth, .letter s] ++ ms.map .nm0
theorem plD_ok {s : Nm} {ms : List Nm} {k : Kk} (h : k ∈ plD s ms) : (paK k).length = 1 ∧ htK k ≤ 2 := by
  simp [plD] at h
  rcases h with rfl | rfl | rfl | ⟨m, _, rfl⟩ <;> simp [paK, htK]
theorem kd_s3 {C : KS} {X : KX} {cs : List Int} {a : Int} {x1 : Option M} (ha : 0 ≤ a) (ha2 : a < 1000000000000) (h : ∀ s : Nm, C.nx [some (Sd cs (a + 1)), x1, x2, x3, x4, x5, x6, x7, some (.l ((plD s []).map enK)), x9, x10, x11]) :
    w_L_kind_s3 sp__law_name sp__law_next [some (Sd cs a), x1, x2, x3, x4, x5, x6, x7, x8, x9, x10, x11] C X := by
  obtain ⟨ks, vs, hS⟩ := SdM cs a
  rw [hS]
  simp [wSeq, wIf, wTV, wAnd, wOr, wNot, wAndV, wOrV, wNotV, wIfE, wRd, wCons, wNil, woVar, woE, wVar, wMove, wC, wvCons, wvNil, wTup, wLst, wNext, wRet, wRetN, wDrop, wBrk, wCt, wAsg, wgN, wgNil, wgCons, wgT, wPar, wFor, wYes, wLc, wipeE, backE, wCall, wMeth, wDictNew, wgSub, wSlB, wZipL, wiSeq, wiR1, wiR2, wiStr, wiEnum, wiEnumS, bodyK, takeM, putM, msOf, M.fz, Res.m, M.seq, M.lseq, M.mseq, M.dict, isL, isK, gList, gTuple, gAppend, gGet2, gSetd, setD, gEq, gNe, eqD_ss, eqD_ii, eqD_bb, gIn, gNi, gZip, gAll, gAny, gMul, gInt, cPos, cDiv, cMul, gAdd, slD, sliceF, D.key, List.length_cons, List.length_nil, List.getElem?_cons_succ, List.getElem?_cons_zero, List.getElem?_nil, List.set_cons_succ, List.set_cons_zero, List.getD_cons_succ, List.getD_cons_zero, Option.bind_some, Option.map_some, Option.map_none, Option.bind_none, ixN, atI, HT.sIx, cutD, Option.isSome_some, if_true, if_false, ite_true, ite_false, Bool.false_eq_true, decide_eq_true_eq, Bool.not_true, Bool.not_false, true_and, and_true, ofS_inj, String.reduceEq, reduceIte, decide_true, decide_false, Int.reduceAdd, Nat.reduceLeDiff, Nat.reduceAdd, Nat.zero_add, Nat.le_refl, Nat.zero_le, w_L_kind_s3]
  rw [← hS]
  refine ⟨cs, a, 4, rfl, by decide, ha, ha2, fun r r0 r1 o2 => ?_⟩
  obtain ⟨ks, vs, hS⟩ := SdM cs (a + 1)
  rw [hS]
  simp [wSeq, wIf, wTV, wAnd, wOr, wNot, wAndV, wOrV, wNotV, wIfE, wRd, wCons, wNil, woVar, woE, wVar, wMove, wC, wvCons, wvNil, wTup, wLst, wNext, wRet, wRetN, wDrop, wBrk, wCt, wAsg, wgN, wgNil, wgCons, wgT, wPar, wFor, wYes, wLc, wipeE, backE, wCall, wMeth, wDictNew, wgSub, wSlB, wZipL, wiSeq, wiR1, wiR2, wiStr, wiEnum, wiEnumS, bodyK, takeM, putM, msOf, M.fz, Res.m, M.seq, M.lseq, M.mseq, M.dict, isL, isK, gList, gTuple, gAppend, gGet2, gSetd, setD, gEq, gNe, eqD_ss, eqD_ii, eqD_bb, gIn, gNi, gZip, gAll, gAny, gMul, gInt, cPos, cDiv, cMul, gAdd, slD, sliceF, D.key, List.length_cons, List.length_nil, List.getElem?_cons_succ, List.getElem?_cons_zero, List.getElem?_nil, List.set_cons_succ, List.set_cons_zero, List.getD_cons_succ, List.getD_cons_zero, Option.bind_some, Option.map_some, Option.map_none, Option.bind_none, ixN, atI, HT.sIx, cutD, Option.isSome_some, if_true, if_false, ite_true, ite_false, Bool.false_eq_true, decide_eq_true_eq, Bool.not_true, Bool.not_false, true_and, and_true, ofS_inj, String.reduceEq, reduceIte, decide_true, decide_false, Int.reduceAdd, Nat.reduceLeDiff, Nat.reduceAdd, Nat.zero_add, Nat.le_refl, Nat.zero_le]
  rw [← hS]
  refine ⟨cs, a + 1, 20 + r, rfl, by omega, by omega, fun s hs o2 => ?_⟩
  have := h s
  generalize Sd cs (a + 1) = S at *
  simp [wSeq, wIf, wTV, wAnd, wOr, wNot, wAndV, wOrV, wNotV, wIfE, wRd, wCons, wNil, woVar, woE, wVar, wMove, wC, wvCons, wvNil, wTup, wLst, wNext, wRet, wRetN, wDrop, wBrk, wCt, wAsg, wgN, wgNil, wgCons, wgT, wPar, wFor, wYes, wLc, wipeE, backE, wCall, wMeth, wDictNew, wgSub, wSlB, wZipL, wiSeq, wiR1, wiR2, wiStr, wiEnum, wiEnumS, bodyK, takeM, putM, msOf, M.fz, Res.m, M.seq, M.lseq, M.mseq, M.dict, isL, isK, gList, gTuple, gAppend, gGet2, gSetd, setD, gEq, gNe, eqD_ss, eqD_ii, eqD_bb, gIn, gNi, gZip, gAll, gAny, gMul, gInt, cPos, cDiv, cMul, gAdd, slD, sliceF, D.key, List.length_cons, List.length_nil, List.getElem?_cons_succ, List.getElem?_cons_zero, List.getElem?_nil, List.set_cons_succ, List.set_cons_zero, List.getD_cons_succ, List.getD_cons_zero, Option.bind_some, Option.map_some, Option.map_none, Option.bind_none, ixN, atI, HT.sIx, cutD, Option.isSome_some, if_true, if_false, ite_true, ite_false, Bool.false_eq_true, decide_eq_true_eq, Bool.not_true, Bool.not_false, true_and, and_true, ofS_inj, String.reduceEq, reduceIte, decide_true, decide_false, Int.reduceAdd, Nat.reduceLeDiff, Nat.reduceAdd, Nat.zero_add, Nat.le_refl, Nat.zero_le]
  simpa [plD, enK] using this
theorem kd_s4 {C : KS} {X : KX} {x1 : Option M} {s : Nm} {ms : List Nm} (hm : ms.length ≤ 10) (h : ∀ y, C.nx [x0, x1, x2, x3, x4, x5, x6, y, some (.l ((plD s ms).map enK)), x9, x10, x11]) :
    w_L_kind_s4 [x0, x1, x2, x3, x4, x5, x6, some (.l (strN ms)), some (.l ((plD s []).map enK)), x9, x10, x11] C X := by
  simp [w_L_kind_s4, wSeq, wIf, wTV, wAnd, wOr, wNot, wAndV, wOrV, wNotV, wIfE, wRd, wCons, wNil, woVar, woE, wVar, wMove, wC, wvCons, wvNil, wTup, wLst, wNext, wRet, wRetN, wDrop, wBrk, wCt, wAsg, wgN, wgNil, wgCons, wgT, wPar, wFor, wYes, wLc, wipeE, backE, wCall, wMeth, wDictNew, wgSub, wSlB, wZipL, wiSeq, wiR1, wiR2, wiStr, wiEnum, wiEnumS, bodyK, takeM, putM, msOf, M.fz, Res.m, M.seq, M.lseq, M.mseq, M.dict, isL, isK, gList, gTuple, gAppend, gGet2, gSetd, setD, gEq, gNe, eqD_ss, eqD_ii, eqD_bb, gIn, gNi, gZip, gAll, gAny, gMul, gInt, cPos, cDiv, cMul, gAdd, slD, sliceF, D.key, List.length_cons, List.length_nil, List.getElem?_cons_succ, List.getElem?_cons_zero, List.getElem?_nil, List.set_cons_succ, List.set_cons_zero, List.getD_cons_succ, List.getD_cons_zero, Option.bind_some, Option.map_some, Option.map_none, Option.bind_none, ixN, atI, HT.sIx, cutD, Option.isSome_some, if_true, if_false, ite_true, ite_false, Bool.false_eq_true, decide_eq_true_eq, Bool.not_true, Bool.not_false, true_and, and_true, ofS_inj, String.reduceEq, reduceIte, decide_true, decide_false, Int.reduceAdd, Nat.reduceLeDiff, Nat.reduceAdd, Nat.zero_add, Nat.le_refl, Nat.zero_le]
  have e : nmD [] = [] := rfl
  rw [← e]
  refine lf_kind2 ms [] (by simp; omega) ?_
  have hl : ((plD s []).map enK).length + (nmD ms).length ≤ 100000 := by simp [plD, nmD]; omega
  have e2 : (plD s []).map enK ++ nmD ms = (plD s ms).map enK := by simp [plD, nmD]
  simp only [List.nil_append]
  simp only [List.length_map] at hl
  simp [wSeq, wIf, wTV, wAnd, wOr, wNot, wAndV, wOrV, wNotV, wIfE, wRd, wCons, wNil, woVar, woE, wVar, wMove, wC, wvCons, wvNil, wTup, wLst, wNext, wRet, wRetN, wDrop, wBrk, wCt, wAsg, wgN, wgNil, wgCons, wgT, wPar, wFor, wYes, wLc, wipeE, backE, wCall, wMeth, wDictNew, wgSub, wSlB, wZipL, wiSeq, wiR1, wiR2, wiStr, wiEnum, wiEnumS, bodyK, takeM, putM, msOf, M.fz, Res.m, M.seq, M.lseq, M.mseq, M.dict, isL, isK, gList, gTuple, gAppend, gGet2, gSetd, setD, gEq, gNe, eqD_ss, eqD_ii, eqD_bb, gIn, gNi, gZip, gAll, gAny, gMul, gInt, cPos, cDiv, cMul, gAdd, slD, sliceF, D.key, List.length_cons, List.length_nil, List.getElem?_cons_succ, List.getElem?_cons_zero, List.getElem?_nil, List.set_cons_succ, List.set_cons_zero, List.getD_cons_succ, List.getD_cons_zero, Option.bind_some, Option.map_some, Option.map_none, Option.bind_none, ixN, atI, HT.sIx, cutD, Option.isSome_some, if_true, if_false, ite_true, ite_false, Bool.false_eq_true, decide_eq_true_eq, Bool.not_true, Bool.not_false, true_and, and_true, ofS_inj, String.reduceEq, reduceIte, decide_true, decide_false, Int.reduceAdd, Nat.reduceLeDiff, Nat.reduceAdd, Nat.zero_add, Nat.le_refl, Nat.zero_le, hl, e2]
  exact h _
theorem gIx_kk {ks : List Kk} {i : Int} (h0 : 0 ≤ i) (h1 : i < ks.length) : ∃ k ∈ ks, gIx [.l (ks.map enK), .p (.int i)] = some (.val (enK k)) := by
  have hi : i.toNat < ks.length := by omega
  refine ⟨ks[i.toNat], List.getElem_mem hi, ?_⟩
  simp [gIx, M.seq, atI, ixN, h0, h1, List.getElem?_eq_getElem hi]
theorem kd_s5 {C : KS} {X : KX} {cs : List Int} {a : Int} {x1 : Option M} {s : Nm} {ms : List Nm} (ha : 0 ≤ a) (ha2 : a < 1000000000000) (h : ∀ k ∈ plD s ms, C.rt (.p (enK k)) [some (Sd cs (a + 1)), x1, x2, x3, x4, x5, x6, x7, some (.l ((plD s ms).map enK)), x9, x10, x11]) :
    w_L_kind_s5 sp__law_next [some (Sd cs a), x1, x2, x3, x4, x5, x6, x7, some (.l ((plD s ms).map enK)), x9, x10, x11] C X := by
  obtain ⟨ks, vs, hS⟩ := SdM cs a
  have hp : (0 : Int) < (plD s ms).length := by simp [plD]; omega
  generalize hpl : plD s ms = pl at *
  rw [hS]
  simp [wSeq, wIf, wTV, wAnd, wOr, wNot, wAndV, wOrV, wNotV, wIfE, wRd, wCons, wNil, woVar, woE, wVar, wMove, wC, wvCons, wvNil, wTup, wLst, wNext, wRet, wRetN, wDrop, wBrk, wCt, wAsg, wgN, wgNil, wgCons, wgT, wPar, wFor, wYes, wLc, wipeE, backE, wCall, wMeth, wDictNew, wgSub, wSlB, wZipL, wiSeq, wiR1, wiR2, wiStr, wiEnum, wiEnumS, bodyK, takeM, putM, msOf, M.fz, Res.m, M.seq, M.lseq, M.mseq, M.dict, isL, isK, gList, gTuple, gAppend, gGet2, gSetd, setD, gEq, gNe, eqD_ss, eqD_ii, eqD_bb, gIn, gNi, gZip, gAll, gAny, gMul, gInt, cPos, cDiv, cMul, gAdd, slD, sliceF, D.key, List.length_cons, List.length_nil, List.getElem?_cons_succ, List.getElem?_cons_zero, List.getElem?_nil, List.set_cons_succ, List.set_cons_zero, List.getD_cons_succ, List.getD_cons_zero, Option.bind_some, Option.map_some, Option.map_none, Option.bind_none, ixN, atI, HT.sIx, cutD, Option.isSome_some, if_true, if_false, ite_true, ite_false, Bool.false_eq_true, decide_eq_true_eq, Bool.not_true, Bool.not_false, true_and, and_true, ofS_inj, String.reduceEq, reduceIte, decide_true, decide_false, Int.reduceAdd, Nat.reduceLeDiff, Nat.reduceAdd, Nat.zero_add, Nat.le_refl, Nat.zero_le, w_L_kind_s5, gLen]
  rw [← hS]
  refine ⟨cs, a, pl.length, rfl, hp, ha, ha2, fun r r0 r1 o2 => ?_⟩
  obtain ⟨k, hk, e⟩ := gIx_kk r0 r1
  have := h k hk
  generalize Sd cs (a + 1) = S at *
  simp [wSeq, wIf, wTV, wAnd, wOr, wNot, wAndV, wOrV, wNotV, wIfE, wRd, wCons, wNil, woVar, woE, wVar, wMove, wC, wvCons, wvNil, wTup, wLst, wNext, wRet, wRetN, wDrop, wBrk, wCt, wAsg, wgN, wgNil, wgCons, wgT, wPar, wFor, wYes, wLc, wipeE, backE, wCall, wMeth, wDictNew, wgSub, wSlB, wZipL, wiSeq, wiR1, wiR2, wiStr, wiEnum, wiEnumS, bodyK, takeM, putM, msOf, M.fz, Res.m, M.seq, M.lseq, M.mseq, M.dict, isL, isK, gList, gTuple, gAppend, gGet2, gSetd, setD, gEq, gNe, eqD_ss, eqD_ii, eqD_bb, gIn, gNi, gZip, gAll, gAny, gMul, gInt, cPos, cDiv, cMul, gAdd, slD, sliceF, D.key, List.length_cons, List.length_nil, List.getElem?_cons_succ, List.getElem?_cons_zero, List.getElem?_nil, List.set_cons_succ, List.set_cons_zero, List.getD_cons_succ, List.getD_cons_zero, Option.bind_some, Option.map_some, Option.map_none, Option.bind_none, ixN, atI, HT.sIx, cutD, Option.isSome_some, if_true, if_false, ite_true, ite_false, Bool.false_eq_true, decide_eq_true_eq, Bool.not_true, Bool.not_false, true_and, and_true, ofS_inj, String.reduceEq, reduceIte, decide_true, decide_false, Int.reduceAdd, Nat.reduceLeDiff, Nat.reduceAdd, Nat.zero_add, Nat.le_refl, Nat.zero_le, e]
  exact this
end BV

namespace BV
open PySem L2 PyProof.Rows
variable {ns : List Nm} {vs : List D} {x0 x1 x2 x3 x4 x5 x6 x7 x8 x9 x10 x11 : Option M} {room deep r a : Int} {cs : List Int} {C : KS} {X : KX} {n : Nat}
theorem kd_s6 (K : KnOk ns vs) (ha : 0 ≤ a) (ha2 : a + 10 < 1000000000000)
    (hb : ∀ k : Kk, (paK k).length = 1 → htK k ≤ 2 → ∀ y7 y8 y9, C.rt (.p (enK k)) [some (Sd cs (a + 2)), some (.k (ksN ns) vs), some (.p (.int room)), some (.p (.int deep)), some (.p (.int r)), x5, x6, y7, y8, y9, x10, x11])
    (hs : 3 ≤ room → 2 ≤ deep → 2 ≤ r → C.nx [some (Sd cs a), some (.k (ksN ns) vs), some (.p (.int room)), some (.p (.int deep)), some (.p (.int r)), x5, x6, x7, x8, x9, x10, x11]) :
    w_L_kind_s6 sp__law_name sp__law_next [some (Sd cs a), some (.k (ksN ns) vs), some (.p (.int room)), some (.p (.int deep)), some (.p (.int r)), x5, x6, x7, x8, x9, x10, x11] C X := by
  have base : w_L_kind_s2 [some (Sd cs a), some (.k (ksN ns) vs), some (.p (.int room)), some (.p (.int deep)), some (.p (.int r)), x5, x6, x7, x8, x9, x10, x11]
      { C with nx := fun e1 => w_L_kind_s3 sp__law_name sp__law_next e1 { C with nx := fun e1 => w_L_kind_s4 e1 { C with nx := fun e1 => w_L_kind_s5 sp__law_next e1 C X } X } X } X := by
    refine kd_s2 K fun ms hms hm => ?_
    refine kd_s3 ha (by omega) fun s => ?_
    refine kd_s4 hms fun y => ?_
    refine kd_s5 (by omega) (by omega) fun k hk => ?_
    have e : a + 1 + 1 = a + 2 := by omega
    rw [e]
    exact hb k (plD_ok hk).1 (plD_ok hk).2 _ _ _
  obtain ⟨ks', vs', hS⟩ := SdM cs a
  by_cases h1 : room < 3
  · rw [hS] at base ⊢
    simp only [w_L_kind_s6, wIf, wOr, wTV, wRd, wCons, woVar, woE, wC, wNil, msOf, gCmp, pLt, List.getElem?_cons_succ, List.getElem?_cons_zero, Option.map_some, Option.bind_some, Res.m, decide_eq_true h1, if_true]
    exact base
  · have h1' : 3 ≤ room := by omega
    by_cases h2 : deep < 2
    · rw [hS] at base ⊢
      simp only [w_L_kind_s6, wIf, wOr, wTV, wRd, wCons, woVar, woE, wC, wNil, msOf, gCmp, pLt, List.getElem?_cons_succ, List.getElem?_cons_zero, Option.map_some, Option.bind_some, Res.m, decide_eq_false h1, decide_eq_true h2, if_true, if_false, Bool.false_eq_true]
      exact base
    · by_cases h3 : r < 2
      · rw [hS] at base ⊢
        simp only [w_L_kind_s6, wIf, wOr, wTV, wRd, wCons, woVar, woE, wC, wNil, msOf, gCmp, pLt, List.getElem?_cons_succ, List.getElem?_cons_zero, Option.map_some, Option.bind_some, Res.m, decide_eq_false h1, decide_eq_false h2, decide_eq_true h3, if_true, if_false, Bool.false_eq_true]
        exact base
      · have := hs h1' (by omega) (by omega)
        rw [hS] at this ⊢
        simp only [w_L_kind_s6, wIf, wOr, wTV, wRd, wCons, woVar, woE, wC, wNil, wNext, msOf, gCmp, pLt, List.getElem?_cons_succ, List.getElem?_cons_zero, Option.map_some, Option.bind_some, Res.m, decide_eq_false h1, decide_eq_false h2, decide_eq_false h3, if_true, if_false, Bool.false_eq_true]
        exact this
theorem kd_s8 (K : KnOk ns vs) (ha : 0 ≤ a) (hb : a + 4 * 4 ^ n ≤ 100000000000) (hd : 2 ≤ deep) (hdn : deep ≤ n + 1) (hr3 : 3 ≤ room) (hr : room ≤ 1000)
    (h1 : ∀ (t : Kk) (a' : Int), 2 * (paK t).length + 1 ≤ 3 ^ n → htK t ≤ 2 * n → a ≤ a' → a' ≤ a + 4 * 4 ^ n → C.rt (.p (enK (.list t))) [some (Sd cs a'), some (.k (ksN ns) vs), some (.p (.int room)), some (.p (.int deep)), some (.p (.int r)), x5, x6, x7, x8, x9, x10, x11])
    (h2 : r ≠ 2 → C.nx [some (Sd cs a), some (.k (ksN ns) vs), some (.p (.int room)), some (.p (.int deep)), some (.p (.int r)), x5, x6, x7, x8, x9, x10, x11]) :
    w_L_kind_s8 (sp__law_kind n) [some (Sd cs a), some (.k (ksN ns) vs), some (.p (.int room)), some (.p (.int deep)), some (.p (.int r)), x5, x6, x7, x8, x9, x10, x11] C X := by
  obtain ⟨ks', vs', hS⟩ := SdM cs a
  by_cases h : r = 2
  · subst h
    rw [hS]
    simp [wSeq, wIf, wTV, wAnd, wOr, wNot, wAndV, wOrV, wNotV, wIfE, wRd, wCons, wNil, woVar, woE, wVar, wMove, wC, wvCons, wvNil, wTup, wLst, wNext, wRet, wRetN, wDrop, wBrk, wCt, wAsg, wgN, wgNil, wgCons, wgT, wPar, wFor, wYes, wLc, wipeE, backE, wCall, wMeth, wDictNew, wgSub, wSlB, wZipL, wiSeq, wiR1, wiR2, wiStr, wiEnum, wiEnumS, bodyK, takeM, putM, msOf, M.fz, Res.m, M.seq, M.lseq, M.mseq, M.dict, isL, isK, gList, gTuple, gAppend, gGet2, gSetd, setD, gEq, gNe, eqD_ss, eqD_ii, eqD_bb, gIn, gNi, gZip, gAll, gAny, gMul, gInt, cPos, cDiv, cMul, gAdd, slD, sliceF, D.key, List.length_cons, List.length_nil, List.getElem?_cons_succ, List.getElem?_cons_zero, List.getElem?_nil, List.set_cons_succ, List.set_cons_zero, List.getD_cons_succ, List.getD_cons_zero, Option.bind_some, Option.map_some, Option.map_none, Option.bind_none, ixN, atI, HT.sIx, cutD, Option.isSome_some, if_true, if_false, ite_true, ite_false, Bool.false_eq_true, decide_eq_true_eq, Bool.not_true, Bool.not_false, true_and, and_true, ofS_inj, String.reduceEq, reduceIte, decide_true, decide_false, Int.reduceAdd, Nat.reduceLeDiff, Nat.reduceAdd, Nat.zero_add, Nat.le_refl, Nat.zero_le, w_L_kind_s8]
    simp [wSeq, wIf, wTV, wAnd, wOr, wNot, wAndV, wOrV, wNotV, wIfE, wRd, wCons, wNil, woVar, woE, wVar, wMove, wC, wvCons, wvNil, wTup, wLst, wNext, wRet, wRetN, wDrop, wBrk, wCt, wAsg, wgN, wgNil, wgCons, wgT, wPar, wFor, wYes, wLc, wipeE, backE, wCall, wMeth, wDictNew, wgSub, wSlB, wZipL, wiSeq, wiR1, wiR2, wiStr, wiEnum, wiEnumS, bodyK, takeM, putM, msOf, M.fz, Res.m, M.seq, M.lseq, M.mseq, M.dict, isL, isK, gList, gTuple, gAppend, gGet2, gSetd, setD, gEq, gNe, eqD_ss, eqD_ii, eqD_bb, gIn, gNi, gZip, gAll, gAny, gMul, gInt, cPos, cDiv, cMul, gAdd, slD, sliceF, D.key, List.length_cons, List.length_nil, List.getElem?_cons_succ, List.getElem?_cons_zero, List.getElem?_nil, List.set_cons_succ, List.set_cons_zero, List.getD_cons_succ, List.getD_cons_zero, Option.bind_some, Option.map_some, Option.map_none, Option.bind_none, ixN, atI, HT.sIx, cutD, Option.isSome_some, if_true, if_false, ite_true, ite_false, Bool.false_eq_true, decide_eq_true_eq, Bool.not_true, Bool.not_false, true_and, and_true, ofS_inj, String.reduceEq, reduceIte, decide_true, decide_false, Int.reduceAdd, Nat.reduceLeDiff, Nat.reduceAdd, Nat.zero_add, Nat.le_refl, Nat.zero_le, w_L_kind_s7]
    rw [← hS]
    refine ⟨cs, a, ns, vs, room - 1, deep - 1, rfl, K, by omega, by omega, by omega, by omega, ha, hb, fun t a' z1 z2 z3 z4 o3 o4 => ?_⟩
    have := h1 t a' z1 z2 z3 z4
    generalize Sd cs a' = S at *
    simp [wSeq, wIf, wTV, wAnd, wOr, wNot, wAndV, wOrV, wNotV, wIfE, wRd, wCons, wNil, woVar, woE, wVar, wMove, wC, wvCons, wvNil, wTup, wLst, wNext, wRet, wRetN, wDrop, wBrk, wCt, wAsg, wgN, wgNil, wgCons, wgT, wPar, wFor, wYes, wLc, wipeE, backE, wCall, wMeth, wDictNew, wgSub, wSlB, wZipL, wiSeq, wiR1, wiR2, wiStr, wiEnum, wiEnumS, bodyK, takeM, putM, msOf, M.fz, Res.m, M.seq, M.lseq, M.mseq, M.dict, isL, isK, gList, gTuple, gAppend, gGet2, gSetd, setD, gEq, gNe, eqD_ss, eqD_ii, eqD_bb, gIn, gNi, gZip, gAll, gAny, gMul, gInt, cPos, cDiv, cMul, gAdd, slD, sliceF, D.key, List.length_cons, List.length_nil, List.getElem?_cons_succ, List.getElem?_cons_zero, List.getElem?_nil, List.set_cons_succ, List.set_cons_zero, List.getD_cons_succ, List.getD_cons_zero, Option.bind_some, Option.map_some, Option.map_none, Option.bind_none, ixN, atI, HT.sIx, cutD, Option.isSome_some, if_true, if_false, ite_true, ite_false, Bool.false_eq_true, decide_eq_true_eq, Bool.not_true, Bool.not_false, true_and, and_true, ofS_inj, String.reduceEq, reduceIte, decide_true, decide_false, Int.reduceAdd, Nat.reduceLeDiff, Nat.reduceAdd, Nat.zero_add, Nat.le_refl, Nat.zero_le]
    exact this
  · have := h2 h
    generalize Sd cs a = S at *
    simp [wSeq, wIf, wTV, wAnd, wOr, wNot, wAndV, wOrV, wNotV, wIfE, wRd, wCons, wNil, woVar, woE, wVar, wMove, wC, wvCons, wvNil, wTup, wLst, wNext, wRet, wRetN, wDrop, wBrk, wCt, wAsg, wgN, wgNil, wgCons, wgT, wPar, wFor, wYes, wLc, wipeE, backE, wCall, wMeth, wDictNew, wgSub, wSlB, wZipL, wiSeq, wiR1, wiR2, wiStr, wiEnum, wiEnumS, bodyK, takeM, putM, msOf, M.fz, Res.m, M.seq, M.lseq, M.mseq, M.dict, isL, isK, gList, gTuple, gAppend, gGet2, gSetd, setD, gEq, gNe, eqD_ss, eqD_ii, eqD_bb, gIn, gNi, gZip, gAll, gAny, gMul, gInt, cPos, cDiv, cMul, gAdd, slD, sliceF, D.key, List.length_cons, List.length_nil, List.getElem?_cons_succ, List.getElem?_cons_zero, List.getElem?_nil, List.set_cons_succ, List.set_cons_zero, List.getD_cons_succ, List.getD_cons_zero, Option.bind_some, Option.map_some, Option.map_none, Option.bind_none, ixN, atI, HT.sIx, cutD, Option.isSome_some, if_true, if_false, ite_true, ite_false, Bool.false_eq_true, decide_eq_true_eq, Bool.not_true, Bool.not_false, true_and, and_true, ofS_inj, String.reduceEq, reduceIte, decide_true, decide_false, Int.reduceAdd, Nat.reduceLeDiff, Nat.reduceAdd, Nat.zero_add, Nat.le_refl, Nat.zero_le, w_L_kind_s8, h]
    exact this
theorem kd_s14 (K : KnOk ns vs) (ha : 0 ≤ a) (hb : a + 4 * 4 ^ n ≤ 100000000000) (hd : 2 ≤ deep) (hdn : deep ≤ n + 1) (hr3 : 3 ≤ room) (hr : room ≤ 1000)
    (h1 : ∀ (t : Kk) (a' : Int), 2 * (paK t).length + 1 ≤ 3 ^ n → htK t ≤ 2 * n → a ≤ a' → a' ≤ a + 4 * 4 ^ n → C.nx [some (Sd cs a'), some (.k (ksN ns) vs), some (.p (.int room)), some (.p (.int deep)), x4, x5, some (.p (enK t)), x7, x8, x9, x10, x11]) :
    w_L_kind_s14 (sp__law_kind n) [some (Sd cs a), some (.k (ksN ns) vs), some (.p (.int room)), some (.p (.int deep)), x4, x5, x6, x7, x8, x9, x10, x11] C X := by
  obtain ⟨ks', vs', hS⟩ := SdM cs a
  rw [hS]
  simp [wSeq, wIf, wTV, wAnd, wOr, wNot, wAndV, wOrV, wNotV, wIfE, wRd, wCons, wNil, woVar, woE, wVar, wMove, wC, wvCons, wvNil, wTup, wLst, wNext, wRet, wRetN, wDrop, wBrk, wCt, wAsg, wgN, wgNil, wgCons, wgT, wPar, wFor, wYes, wLc, wipeE, backE, wCall, wMeth, wDictNew, wgSub, wSlB, wZipL, wiSeq, wiR1, wiR2, wiStr, wiEnum, wiEnumS, bodyK, takeM, putM, msOf, M.fz, Res.m, M.seq, M.lseq, M.mseq, M.dict, isL, isK, gList, gTuple, gAppend, gGet2, gSetd, setD, gEq, gNe, eqD_ss, eqD_ii, eqD_bb, gIn, gNi, gZip, gAll, gAny, gMul, gInt, cPos, cDiv, cMul, gAdd, slD, sliceF, D.key, List.length_cons, List.length_nil, List.getElem?_cons_succ, List.getElem?_cons_zero, List.getElem?_nil, List.set_cons_succ, List.set_cons_zero, List.getD_cons_succ, List.getD_cons_zero, Option.bind_some, Option.map_some, Option.map_none, Option.bind_none, ixN, atI, HT.sIx, cutD, Option.isSome_some, if_true, if_false, ite_true, ite_false, Bool.false_eq_true, decide_eq_true_eq, Bool.not_true, Bool.not_false, true_and, and_true, ofS_inj, String.reduceEq, reduceIte, decide_true, decide_false, Int.reduceAdd, Nat.reduceLeDiff, Nat.reduceAdd, Nat.zero_add, Nat.le_refl, Nat.zero_le, w_L_kind_s14]
  rw [← hS]
  refine ⟨cs, a, ns, vs, room / 2, deep - 1, rfl, K, by omega, by omega, by omega, by omega, ha, hb, fun t a' z1 z2 z3 z4 o3 o4 => ?_⟩
  have := h1 t a' z1 z2 z3 z4
  generalize Sd cs a' = S at *
  simp [wSeq, wIf, wTV, wAnd, wOr, wNot, wAndV, wOrV, wNotV, wIfE, wRd, wCons, wNil, woVar, woE, wVar, wMove, wC, wvCons, wvNil, wTup, wLst, wNext, wRet, wRetN, wDrop, wBrk, wCt, wAsg, wgN, wgNil, wgCons, wgT, wPar, wFor, wYes, wLc, wipeE, backE, wCall, wMeth, wDictNew, wgSub, wSlB, wZipL, wiSeq, wiR1, wiR2, wiStr, wiEnum, wiEnumS, bodyK, takeM, putM, msOf, M.fz, Res.m, M.seq, M.lseq, M.mseq, M.dict, isL, isK, gList, gTuple, gAppend, gGet2, gSetd, setD, gEq, gNe, eqD_ss, eqD_ii, eqD_bb, gIn, gNi, gZip, gAll, gAny, gMul, gInt, cPos, cDiv, cMul, gAdd, slD, sliceF, D.key, List.length_cons, List.length_nil, List.getElem?_cons_succ, List.getElem?_cons_zero, List.getElem?_nil, List.set_cons_succ, List.set_cons_zero, List.getD_cons_succ, List.getD_cons_zero, Option.bind_some, Option.map_some, Option.map_none, Option.bind_none, ixN, atI, HT.sIx, cutD, Option.isSome_some, if_true, if_false, ite_true, ite_false, Bool.false_eq_true, decide_eq_true_eq, Bool.not_true, Bool.not_false, true_and, and_true, ofS_inj, String.reduceEq, reduceIte, decide_true, decide_false, Int.reduceAdd, Nat.reduceLeDiff, Nat.reduceAdd, Nat.zero_add, Nat.le_refl, Nat.zero_le]
  exact this
end BV

namespace BV
open PySem L2 PyProof.Rows
variable {ns : List Nm} {vs : List D} {x0 x1 x2 x3 x4 x5 x6 x7 x8 x9 x10 x11 : Option M} {room deep r a : Int} {cs : List Int} {C : KS} {X : KX} {n : Nat}
theorem kd_s15 {t1 : Kk} (K : KnOk ns vs) (ha : 0 ≤ a) (hb : a + 4 * 4 ^ n ≤ 100000000000) (hd : 2 ≤ deep) (hdn : deep ≤ n + 1) (hr3 : 3 ≤ room) (hr : room ≤ 1000)
    (h1 : ∀ (t2 t : Kk) (a' : Int), 2 * (paK t2).length + 1 ≤ 3 ^ n → htK t2 ≤ 2 * n → a ≤ a' → a' ≤ a + 4 * 4 ^ n → t = .to t1 t2 ∨ t = .pair t1 t2 → C.rt (.p (enK t)) [some (Sd cs a'), some (.k (ksN ns) vs), some (.p (.int room)), some (.p (.int deep)), some (.p (.int r)), x5, some (.p (enK t1)), x7, x8, x9, x10, x11]) :
    w_L_kind_s15 (sp__law_kind n) [some (Sd cs a), some (.k (ksN ns) vs), some (.p (.int room)), some (.p (.int deep)), some (.p (.int r)), x5, some (.p (enK t1)), x7, x8, x9, x10, x11] C X := by
  obtain ⟨ks', vs', hS⟩ := SdM cs a
  have m2 : r % 2 = 0 ∨ r % 2 = 1 := by omega
  rcases m2 with m2 | m2
  · rw [hS]
    simp [wSeq, wIf, wTV, wAnd, wOr, wNot, wAndV, wOrV, wNotV, wIfE, wRd, wCons, wNil, woVar, woE, wVar, wMove, wC, wvCons, wvNil, wTup, wLst, wNext, wRet, wRetN, wDrop, wBrk, wCt, wAsg, wgN, wgNil, wgCons, wgT, wPar, wFor, wYes, wLc, wipeE, backE, wCall, wMeth, wDictNew, wgSub, wSlB, wZipL, wiSeq, wiR1, wiR2, wiStr, wiEnum, wiEnumS, bodyK, takeM, putM, msOf, M.fz, Res.m, M.seq, M.lseq, M.mseq, M.dict, isL, isK, gList, gTuple, gAppend, gGet2, gSetd, setD, gEq, gNe, eqD_ss, eqD_ii, eqD_bb, gIn, gNi, gZip, gAll, gAny, gMul, gInt, cPos, cDiv, cMul, gAdd, slD, sliceF, D.key, List.length_cons, List.length_nil, List.getElem?_cons_succ, List.getElem?_cons_zero, List.getElem?_nil, List.set_cons_succ, List.set_cons_zero, List.getD_cons_succ, List.getD_cons_zero, Option.bind_some, Option.map_some, Option.map_none, Option.bind_none, ixN, atI, HT.sIx, cutD, Option.isSome_some, if_true, if_false, ite_true, ite_false, Bool.false_eq_true, decide_eq_true_eq, Bool.not_true, Bool.not_false, true_and, and_true, ofS_inj, String.reduceEq, reduceIte, decide_true, decide_false, Int.reduceAdd, Nat.reduceLeDiff, Nat.reduceAdd, Nat.zero_add, Nat.le_refl, Nat.zero_le, w_L_kind_s15, gIx, m2]
    rw [← hS]
    refine ⟨cs, a, ns, vs, room / 2, deep - 1, rfl, K, by omega, by omega, by omega, by omega, ha, hb, fun t a' z1 z2 z3 z4 o3 o4 => ?_⟩
    have := h1 t _ a' z1 z2 z3 z4 (.inl rfl)
    generalize Sd cs a' = S at *
    simp [wSeq, wIf, wTV, wAnd, wOr, wNot, wAndV, wOrV, wNotV, wIfE, wRd, wCons, wNil, woVar, woE, wVar, wMove, wC, wvCons, wvNil, wTup, wLst, wNext, wRet, wRetN, wDrop, wBrk, wCt, wAsg, wgN, wgNil, wgCons, wgT, wPar, wFor, wYes, wLc, wipeE, backE, wCall, wMeth, wDictNew, wgSub, wSlB, wZipL, wiSeq, wiR1, wiR2, wiStr, wiEnum, wiEnumS, bodyK, takeM, putM, msOf, M.fz, Res.m, M.seq, M.lseq, M.mseq, M.dict, isL, isK, gList, gTuple, gAppend, gGet2, gSetd, setD, gEq, gNe, eqD_ss, eqD_ii, eqD_bb, gIn, gNi, gZip, gAll, gAny, gMul, gInt, cPos, cDiv, cMul, gAdd, slD, sliceF, D.key, List.length_cons, List.length_nil, List.getElem?_cons_succ, List.getElem?_cons_zero, List.getElem?_nil, List.set_cons_succ, List.set_cons_zero, List.getD_cons_succ, List.getD_cons_zero, Option.bind_some, Option.map_some, Option.map_none, Option.bind_none, ixN, atI, HT.sIx, cutD, Option.isSome_some, if_true, if_false, ite_true, ite_false, Bool.false_eq_true, decide_eq_true_eq, Bool.not_true, Bool.not_false, true_and, and_true, ofS_inj, String.reduceEq, reduceIte, decide_true, decide_false, Int.reduceAdd, Nat.reduceLeDiff, Nat.reduceAdd, Nat.zero_add, Nat.le_refl, Nat.zero_le]
    exact this
  · rw [hS]
    simp [wSeq, wIf, wTV, wAnd, wOr, wNot, wAndV, wOrV, wNotV, wIfE, wRd, wCons, wNil, woVar, woE, wVar, wMove, wC, wvCons, wvNil, wTup, wLst, wNext, wRet, wRetN, wDrop, wBrk, wCt, wAsg, wgN, wgNil, wgCons, wgT, wPar, wFor, wYes, wLc, wipeE, backE, wCall, wMeth, wDictNew, wgSub, wSlB, wZipL, wiSeq, wiR1, wiR2, wiStr, wiEnum, wiEnumS, bodyK, takeM, putM, msOf, M.fz, Res.m, M.seq, M.lseq, M.mseq, M.dict, isL, isK, gList, gTuple, gAppend, gGet2, gSetd, setD, gEq, gNe, eqD_ss, eqD_ii, eqD_bb, gIn, gNi, gZip, gAll, gAny, gMul, gInt, cPos, cDiv, cMul, gAdd, slD, sliceF, D.key, List.length_cons, List.length_nil, List.getElem?_cons_succ, List.getElem?_cons_zero, List.getElem?_nil, List.set_cons_succ, List.set_cons_zero, List.getD_cons_succ, List.getD_cons_zero, Option.bind_some, Option.map_some, Option.map_none, Option.bind_none, ixN, atI, HT.sIx, cutD, Option.isSome_some, if_true, if_false, ite_true, ite_false, Bool.false_eq_true, decide_eq_true_eq, Bool.not_true, Bool.not_false, true_and, and_true, ofS_inj, String.reduceEq, reduceIte, decide_true, decide_false, Int.reduceAdd, Nat.reduceLeDiff, Nat.reduceAdd, Nat.zero_add, Nat.le_refl, Nat.zero_le, w_L_kind_s15, gIx, m2]
    rw [← hS]
    refine ⟨cs, a, ns, vs, room / 2, deep - 1, rfl, K, by omega, by omega, by omega, by omega, ha, hb, fun t a' z1 z2 z3 z4 o3 o4 => ?_⟩
    have := h1 t _ a' z1 z2 z3 z4 (.inr rfl)
    generalize Sd cs a' = S at *
    simp [wSeq, wIf, wTV, wAnd, wOr, wNot, wAndV, wOrV, wNotV, wIfE, wRd, wCons, wNil, woVar, woE, wVar, wMove, wC, wvCons, wvNil, wTup, wLst, wNext, wRet, wRetN, wDrop, wBrk, wCt, wAsg, wgN, wgNil, wgCons, wgT, wPar, wFor, wYes, wLc, wipeE, backE, wCall, wMeth, wDictNew, wgSub, wSlB, wZipL, wiSeq, wiR1, wiR2, wiStr, wiEnum, wiEnumS, bodyK, takeM, putM, msOf, M.fz, Res.m, M.seq, M.lseq, M.mseq, M.dict, isL, isK, gList, gTuple, gAppend, gGet2, gSetd, setD, gEq, gNe, eqD_ss, eqD_ii, eqD_bb, gIn, gNi, gZip, gAll, gAny, gMul, gInt, cPos, cDiv, cMul, gAdd, slD, sliceF, D.key, List.length_cons, List.length_nil, List.getElem?_cons_succ, List.getElem?_cons_zero, List.getElem?_nil, List.set_cons_succ, List.set_cons_zero, List.getD_cons_succ, List.getD_cons_zero, Option.bind_some, Option.map_some, Option.map_none, Option.bind_none, ixN, atI, HT.sIx, cutD, Option.isSome_some, if_true, if_false, ite_true, ite_false, Bool.false_eq_true, decide_eq_true_eq, Bool.not_true, Bool.not_false, true_and, and_true, ofS_inj, String.reduceEq, reduceIte, decide_true, decide_false, Int.reduceAdd, Nat.reduceLeDiff, Nat.reduceAdd, Nat.zero_add, Nat.le_refl, Nat.zero_le]
    exact this
theorem gIx_nms {ms : List Nm} {i : Int} (h0 : 0 ≤ i) (h1 : i < ms.length) : ∃ m ∈ ms, gIx [.l (strN ms), .p (.int i)] = some (.val (.str m.1)) := by
  have hi : i.toNat < ms.length := by omega
  refine ⟨ms[i.toNat], List.getElem_mem hi, ?_⟩
  simp [gIx, M.seq, atI, ixN, strN, h0, h1, List.getElem?_eq_getElem hi]
theorem kd_s10 {ms : List Nm} (hm : ms ≠ []) (ha : 0 ≤ a) (ha2 : a < 1000000000000) (h : ∀ m ∈ ms, C.nx [some (Sd cs (a + 1)), x1, x2, x3, x4, some (.l (strN ms)), x6, x7, x8, some (.p (.str m.1)), x10, x11]) :
    w_L_kind_s10 sp__law_next [some (Sd cs a), x1, x2, x3, x4, some (.l (strN ms)), x6, x7, x8, x9, x10, x11] C X := by
  obtain ⟨ks, vs, hS⟩ := SdM cs a
  have hp : (0 : Int) < ms.length := by have := List.length_pos_iff.mpr hm; omega
  have hl : (strN ms).length = ms.length := by simp [strN]
  rw [hS]
  simp [wSeq, wIf, wTV, wAnd, wOr, wNot, wAndV, wOrV, wNotV, wIfE, wRd, wCons, wNil, woVar, woE, wVar, wMove, wC, wvCons, wvNil, wTup, wLst, wNext, wRet, wRetN, wDrop, wBrk, wCt, wAsg, wgN, wgNil, wgCons, wgT, wPar, wFor, wYes, wLc, wipeE, backE, wCall, wMeth, wDictNew, wgSub, wSlB, wZipL, wiSeq, wiR1, wiR2, wiStr, wiEnum, wiEnumS, bodyK, takeM, putM, msOf, M.fz, Res.m, M.seq, M.lseq, M.mseq, M.dict, isL, isK, gList, gTuple, gAppend, gGet2, gSetd, setD, gEq, gNe, eqD_ss, eqD_ii, eqD_bb, gIn, gNi, gZip, gAll, gAny, gMul, gInt, cPos, cDiv, cMul, gAdd, slD, sliceF, D.key, List.length_cons, List.length_nil, List.getElem?_cons_succ, List.getElem?_cons_zero, List.getElem?_nil, List.set_cons_succ, List.set_cons_zero, List.getD_cons_succ, List.getD_cons_zero, Option.bind_some, Option.map_some, Option.map_none, Option.bind_none, ixN, atI, HT.sIx, cutD, Option.isSome_some, if_true, if_false, ite_true, ite_false, Bool.false_eq_true, decide_eq_true_eq, Bool.not_true, Bool.not_false, true_and, and_true, ofS_inj, String.reduceEq, reduceIte, decide_true, decide_false, Int.reduceAdd, Nat.reduceLeDiff, Nat.reduceAdd, Nat.zero_add, Nat.le_refl, Nat.zero_le, w_L_kind_s10, gLen, hl]
  rw [← hS]
  refine ⟨cs, a, ms.length, rfl, hp, ha, ha2, fun r r0 r1 o2 => ?_⟩
  obtain ⟨k, hk, e⟩ := gIx_nms r0 r1
  have := h k hk
  generalize Sd cs (a + 1) = S at *
  simp [wSeq, wIf, wTV, wAnd, wOr, wNot, wAndV, wOrV, wNotV, wIfE, wRd, wCons, wNil, woVar, woE, wVar, wMove, wC, wvCons, wvNil, wTup, wLst, wNext, wRet, wRetN, wDrop, wBrk, wCt, wAsg, wgN, wgNil, wgCons, wgT, wPar, wFor, wYes, wLc, wipeE, backE, wCall, wMeth, wDictNew, wgSub, wSlB, wZipL, wiSeq, wiR1, wiR2, wiStr, wiEnum, wiEnumS, bodyK, takeM, putM, msOf, M.fz, Res.m, M.seq, M.lseq, M.mseq, M.dict, isL, isK, gList, gTuple, gAppend, gGet2, gSetd, setD, gEq, gNe, eqD_ss, eqD_ii, eqD_bb, gIn, gNi, gZip, gAll, gAny, gMul, gInt, cPos, cDiv, cMul, gAdd, slD, sliceF, D.key, List.length_cons, List.length_nil, List.getElem?_cons_succ, List.getElem?_cons_zero, List.getElem?_nil, List.set_cons_succ, List.set_cons_zero, List.getD_cons_succ, List.getD_cons_zero, Option.bind_some, Option.map_some, Option.map_none, Option.bind_none, ixN, atI, HT.sIx, cutD, Option.isSome_some, if_true, if_false, ite_true, ite_false, Bool.false_eq_true, decide_eq_true_eq, Bool.not_true, Bool.not_false, true_and, and_true, ofS_inj, String.reduceEq, reduceIte, decide_true, decide_false, Int.reduceAdd, Nat.reduceLeDiff, Nat.reduceAdd, Nat.zero_add, Nat.le_refl, Nat.zero_le, e]
  exact this
theorem lf_kind4 {Cc : List D → Env → Prop} (K : KnOk ns vs) (hd : 2 ≤ deep) (hdn : deep ≤ n + 1) (hr3 : 3 ≤ room) (hr : room ≤ 1000) : ∀ (l : List D) (acc : List Kk) (a : Int), (∀ d ∈ l, ∃ j : Int, d = .int j) → acc.length + l.length ≤ 10 → 0 ≤ a → a + (l.length : Int) * (4 * 4 ^ n) ≤ 100000000000 →
    (∀ k ∈ acc, 2 * (paK k).length + 1 ≤ 3 ^ n ∧ htK k ≤ 2 * n) →
    (∀ (ks : List Kk) (a' : Int), ks.length = acc.length + l.length → (∀ k ∈ ks, 2 * (paK k).length + 1 ≤ 3 ^ n ∧ htK k ≤ 2 * n) → a ≤ a' → a' ≤ a + (l.length : Int) * (4 * 4 ^ n) → Cc (ks.map enK) [some (Sd cs a'), some (.k (ksN ns) vs), some (.p (.int room)), some (.p (.int deep)), x4, x5, x6, x7, x8, x9, x10, none]) →
    wLcL [11] w_L_kind_g4 wYes (w_L_kind_e4 (sp__law_kind n)) Cc l (acc.map enK) [some (Sd cs a), some (.k (ksN ns) vs), some (.p (.int room)), some (.p (.int deep)), x4, x5, x6, x7, x8, x9, x10, none] := by
  intro l
  induction l with
  | nil => intro acc a _ _ ha _ hk h; exact h acc a (by simp) hk (Int.le_refl _) (by simp)
  | cons d l ih =>
    intro acc a hl hn ha hb hk h
    obtain ⟨j, rfl⟩ := hl d (by simp)
    have hp : (0 : Int) < 4 * 4 ^ n := by
      have : (0 : Int) < 4 ^ n := Int.pow_pos (by decide)
      omega
    have e : (((D.int j :: l).length : Nat) : Int) * (4 * 4 ^ n) = (l.length : Int) * (4 * 4 ^ n) + 4 * 4 ^ n := by
      rw [List.length_cons, Int.natCast_add, Int.add_mul]; simp
    have hnn : 0 ≤ (l.length : Int) * (4 * 4 ^ n) := Int.mul_nonneg (by omega) (by omega)
    rw [e] at hb
    have hacc : (acc.map enK).length < 100000 := by simp at hn ⊢; omega
    simp only [List.length_map] at hacc
    obtain ⟨ks', vs', hS⟩ := SdM cs a
    rw [hS]
    simp [wLcL, w_L_kind_g4, wSeq, wIf, wTV, wAnd, wOr, wNot, wAndV, wOrV, wNotV, wIfE, wRd, wCons, wNil, woVar, woE, wVar, wMove, wC, wvCons, wvNil, wTup, wLst, wNext, wRet, wRetN, wDrop, wBrk, wCt, wAsg, wgN, wgNil, wgCons, wgT, wPar, wFor, wYes, wLc, wipeE, backE, wCall, wMeth, wDictNew, wgSub, wSlB, wZipL, wiSeq, wiR1, wiR2, wiStr, wiEnum, wiEnumS, bodyK, takeM, putM, msOf, M.fz, Res.m, M.seq, M.lseq, M.mseq, M.dict, isL, isK, gList, gTuple, gAppend, gGet2, gSetd, setD, gEq, gNe, eqD_ss, eqD_ii, eqD_bb, gIn, gNi, gZip, gAll, gAny, gMul, gInt, cPos, cDiv, cMul, gAdd, slD, sliceF, D.key, List.length_cons, List.length_nil, List.getElem?_cons_succ, List.getElem?_cons_zero, List.getElem?_nil, List.set_cons_succ, List.set_cons_zero, List.getD_cons_succ, List.getD_cons_zero, Option.bind_some, Option.map_some, Option.map_none, Option.bind_none, ixN, atI, HT.sIx, cutD, Option.isSome_some, if_true, if_false, ite_true, ite_false, Bool.false_eq_true, decide_eq_true_eq, Bool.not_true, Bool.not_false, true_and, and_true, ofS_inj, String.reduceEq, reduceIte, decide_true, decide_false, Int.reduceAdd, Nat.reduceLeDiff, Nat.reduceAdd, Nat.zero_add, Nat.le_refl, Nat.zero_le, w_L_kind_e4]
    rw [← hS]
    refine ⟨cs, a, ns, vs, room / 4, deep - 1, rfl, K, by omega, by omega, by omega, by omega, ha, by omega, fun t a' z1 z2 z3 z4 o3 o4 => ?_⟩
    have := ih (acc ++ [t]) a' (fun d hd => hl d (by simp [hd])) (by simp at hn ⊢; omega) (by omega) (by omega) (fun k hk' => by
      rcases List.mem_append.mp hk' with hk' | hk'
      · exact hk k hk'
      · rw [List.mem_singleton.mp hk']; exact ⟨z1, z2⟩) (fun ks a'' y1 y2 y3 y4 => h ks a'' (by simp at y1 ⊢; omega) y2 (by omega) (by rw [e]; omega))
    rw [List.map_append] at this
    generalize Sd cs a' = S at *
    simp [wSeq, wIf, wTV, wAnd, wOr, wNot, wAndV, wOrV, wNotV, wIfE, wRd, wCons, wNil, woVar, woE, wVar, wMove, wC, wvCons, wvNil, wTup, wLst, wNext, wRet, wRetN, wDrop, wBrk, wCt, wAsg, wgN, wgNil, wgCons, wgT, wPar, wFor, wYes, wLc, wipeE, backE, wCall, wMeth, wDictNew, wgSub, wSlB, wZipL, wiSeq, wiR1, wiR2, wiStr, wiEnum, wiEnumS, bodyK, takeM, putM, msOf, M.fz, Res.m, M.seq, M.lseq, M.mseq, M.dict, isL, isK, gList, gTuple, gAppend, gGet2, gSetd, setD, gEq, gNe, eqD_ss, eqD_ii, eqD_bb, gIn, gNi, gZip, gAll, gAny, gMul, gInt, cPos, cDiv, cMul, gAdd, slD, sliceF, D.key, List.length_cons, List.length_nil, List.getElem?_cons_succ, List.getElem?_cons_zero, List.getElem?_nil, List.set_cons_succ, List.set_cons_zero, List.getD_cons_succ, List.getD_cons_zero, Option.bind_some, Option.map_some, Option.map_none, Option.bind_none, ixN, atI, HT.sIx, cutD, Option.isSome_some, if_true, if_false, ite_true, ite_false, Bool.false_eq_true, decide_eq_true_eq, Bool.not_true, Bool.not_false, true_and, and_true, ofS_inj, String.reduceEq, reduceIte, decide_true, decide_false, Int.reduceAdd, Nat.reduceLeDiff, Nat.reduceAdd, Nat.zero_add, Nat.le_refl, Nat.zero_le, hacc]
    exact this
end BV

namespace BV
open PySem L2 PyProof.Rows
variable {ns : List Nm} {vs : List D} {x0 x1 x2 x3 x4 x5 x6 x7 x8 x9 x10 : Option M} {room deep r a : Int} {cs : List Int} {C : KS} {X : KX} {n : Nat}
theorem kd_s13 (K : KnOk ns vs) {ms : List Nm} (hms : ms.length ≤ 10) (hm : ∀ n ∈ ms, n ∈ ns ∧ ∃ v : Int, getK (ksN ns) vs (.inr n.1) = some (.int v) ∧ (v = 1 ∨ v = 3)) (ha : 0 ≤ a) (hb : a + 1 + 3 * (4 * 4 ^ n) ≤ 100000000000) (hd : 2 ≤ deep) (hdn : deep ≤ n + 1) (hr3 : 3 ≤ room) (hr : room ≤ 1000)
    (h1 : ∀ (t : Kk) (a' : Int), 2 * (paK t).length + 1 ≤ 3 ^ (n + 1) → htK t ≤ 2 * (n + 1) → a ≤ a' → a' ≤ a + 1 + 3 * (4 * 4 ^ n) → ∀ y5 y9 y10 y11, C.rt (.p (enK t)) [some (Sd cs a'), some (.k (ksN ns) vs), some (.p (.int room)), some (.p (.int deep)), some (.p (.int r)), y5, x6, x7, x8, y9, y10, y11])
    (h2 : C.nx [some (Sd cs a), some (.k (ksN ns) vs), some (.p (.int room)), some (.p (.int deep)), some (.p (.int r)), some (.l (strN ms)), x6, x7, x8, x9, x10, none]) :
    w_L_kind_s13 sp__law_next (sp__law_kind n) [some (Sd cs a), some (.k (ksN ns) vs), some (.p (.int room)), some (.p (.int deep)), some (.p (.int r)), some (.l (strN ms)), x6, x7, x8, x9, x10, none] C X := by
  have hp : (0 : Int) < 4 * 4 ^ n := by
    have : (0 : Int) < 4 ^ n := Int.pow_pos (by decide)
    omega
  have h3 : (3 : Nat) ^ (n + 1) = 3 * 3 ^ n := by rw [Nat.pow_succ, Nat.mul_comm]
  have eqm : eqD (.lst (strN ms)) (.lst []) = some ms.isEmpty := by
    rw [eqD_nil (fun x hx => by
      obtain ⟨m, _, rfl⟩ := List.mem_map.mp hx
      exact ⟨_, rfl, m.2⟩)]
    simp [strN]
  have body : ms ≠ [] → wSeq (w_L_kind_s10 sp__law_next) (wSeq (w_L_kind_s11 (sp__law_kind n)) w_L_kind_s12) [some (Sd cs a), some (.k (ksN ns) vs), some (.p (.int room)), some (.p (.int deep)), some (.p (.int r)), some (.l (strN ms)), x6, x7, x8, x9, x10, none] C X := by
    intro hne
    simp only [wSeq]
    refine kd_s10 hne ha (by omega) fun m hmm => ?_
    obtain ⟨hmn, v, hv, hv13⟩ := hm m hmm
    have e := ix_k hv
    have fin : ∀ (ks : List Kk) (a' : Int), (ks.length = 1 ∨ ks.length = 3) → (∀ k ∈ ks, 2 * (paK k).length + 1 ≤ 3 ^ n ∧ htK k ≤ 2 * n) → a + 1 ≤ a' → a' ≤ a + 1 + 3 * (4 * 4 ^ n) →
        w_L_kind_s12 [some (Sd cs a'), some (.k (ksN ns) vs), some (.p (.int room)), some (.p (.int deep)), some (.p (.int r)), some (.l (strN ms)), x6, x7, x8, some (.p (.str m.1)), some (.l (ks.map enK)), none] C X := by
      intro ks a' hks hk q1 q2
      rcases hks with hks | hks
      · match ks, hks with
        | [k], _ =>
          obtain ⟨k1, k2⟩ := hk k (by simp)
          have := h1 (.nm1 m k) a' (by simp [paK]; omega) (by simp [htK]; omega) (by omega) q2 (some (.l (strN ms))) (some (.p (.str m.1))) (some (.l [enK k])) none
          generalize Sd cs a' = S at *
          simp [wSeq, wIf, wTV, wAnd, wOr, wNot, wAndV, wOrV, wNotV, wIfE, wRd, wCons, wNil, woVar, woE, wVar, wMove, wC, wvCons, wvNil, wTup, wLst, wNext, wRet, wRetN, wDrop, wBrk, wCt, wAsg, wgN, wgNil, wgCons, wgT, wPar, wFor, wYes, wLc, wipeE, backE, wCall, wMeth, wDictNew, wgSub, wSlB, wZipL, wiSeq, wiR1, wiR2, wiStr, wiEnum, wiEnumS, bodyK, takeM, putM, msOf, M.fz, Res.m, M.seq, M.lseq, M.mseq, M.dict, isL, isK, gList, gTuple, gAppend, gGet2, gSetd, setD, gEq, gNe, eqD_ss, eqD_ii, eqD_bb, gIn, gNi, gZip, gAll, gAny, gMul, gInt, cPos, cDiv, cMul, gAdd, slD, sliceF, D.key, List.length_cons, List.length_nil, List.getElem?_cons_succ, List.getElem?_cons_zero, List.getElem?_nil, List.set_cons_succ, List.set_cons_zero, List.getD_cons_succ, List.getD_cons_zero, Option.bind_some, Option.map_some, Option.map_none, Option.bind_none, ixN, atI, HT.sIx, cutD, Option.isSome_some, if_true, if_false, ite_true, ite_false, Bool.false_eq_true, decide_eq_true_eq, Bool.not_true, Bool.not_false, true_and, and_true, ofS_inj, String.reduceEq, reduceIte, decide_true, decide_false, Int.reduceAdd, Nat.reduceLeDiff, Nat.reduceAdd, Nat.zero_add, Nat.le_refl, Nat.zero_le, w_L_kind_s12]
          exact this
      · match ks, hks with
        | [k, l, u], _ =>
          obtain ⟨k1, k2⟩ := hk k (by simp)
          obtain ⟨l1, l2⟩ := hk l (by simp)
          obtain ⟨u1, u2⟩ := hk u (by simp)
          have := h1 (.nm3 m k l u) a' (by simp [paK]; omega) (by simp [htK]; omega) (by omega) q2 (some (.l (strN ms))) (some (.p (.str m.1))) (some (.l [enK k, enK l, enK u])) none
          generalize Sd cs a' = S at *
          simp [wSeq, wIf, wTV, wAnd, wOr, wNot, wAndV, wOrV, wNotV, wIfE, wRd, wCons, wNil, woVar, woE, wVar, wMove, wC, wvCons, wvNil, wTup, wLst, wNext, wRet, wRetN, wDrop, wBrk, wCt, wAsg, wgN, wgNil, wgCons, wgT, wPar, wFor, wYes, wLc, wipeE, backE, wCall, wMeth, wDictNew, wgSub, wSlB, wZipL, wiSeq, wiR1, wiR2, wiStr, wiEnum, wiEnumS, bodyK, takeM, putM, msOf, M.fz, Res.m, M.seq, M.lseq, M.mseq, M.dict, isL, isK, gList, gTuple, gAppend, gGet2, gSetd, setD, gEq, gNe, eqD_ss, eqD_ii, eqD_bb, gIn, gNi, gZip, gAll, gAny, gMul, gInt, cPos, cDiv, cMul, gAdd, slD, sliceF, D.key, List.length_cons, List.length_nil, List.getElem?_cons_succ, List.getElem?_cons_zero, List.getElem?_nil, List.set_cons_succ, List.set_cons_zero, List.getD_cons_succ, List.getD_cons_zero, Option.bind_some, Option.map_some, Option.map_none, Option.bind_none, ixN, atI, HT.sIx, cutD, Option.isSome_some, if_true, if_false, ite_true, ite_false, Bool.false_eq_true, decide_eq_true_eq, Bool.not_true, Bool.not_false, true_and, and_true, ofS_inj, String.reduceEq, reduceIte, decide_true, decide_false, Int.reduceAdd, Nat.reduceLeDiff, Nat.reduceAdd, Nat.zero_add, Nat.le_refl, Nat.zero_le, w_L_kind_s12]
          exact this
    obtain ⟨ks', vs', hS⟩ := SdM cs (a + 1)
    rcases hv13 with rfl | rfl
    · rw [hS]
      simp [wSeq, wIf, wTV, wAnd, wOr, wNot, wAndV, wOrV, wNotV, wIfE, wRd, wCons, wNil, woVar, woE, wVar, wMove, wC, wvCons, wvNil, wTup, wLst, wNext, wRet, wRetN, wDrop, wBrk, wCt, wAsg, wgN, wgNil, wgCons, wgT, wPar, wFor, wYes, wLc, wipeE, backE, wCall, wMeth, wDictNew, wgSub, wSlB, wZipL, wiSeq, wiR1, wiR2, wiStr, wiEnum, wiEnumS, bodyK, takeM, putM, msOf, M.fz, Res.m, M.seq, M.lseq, M.mseq, M.dict, isL, isK, gList, gTuple, gAppend, gGet2, gSetd, setD, gEq, gNe, eqD_ss, eqD_ii, eqD_bb, gIn, gNi, gZip, gAll, gAny, gMul, gInt, cPos, cDiv, cMul, gAdd, slD, sliceF, D.key, List.length_cons, List.length_nil, List.getElem?_cons_succ, List.getElem?_cons_zero, List.getElem?_nil, List.set_cons_succ, List.set_cons_zero, List.getD_cons_succ, List.getD_cons_zero, Option.bind_some, Option.map_some, Option.map_none, Option.bind_none, ixN, atI, HT.sIx, cutD, Option.isSome_some, if_true, if_false, ite_true, ite_false, Bool.false_eq_true, decide_eq_true_eq, Bool.not_true, Bool.not_false, true_and, and_true, ofS_inj, String.reduceEq, reduceIte, decide_true, decide_false, Int.reduceAdd, Nat.reduceLeDiff, Nat.reduceAdd, Nat.zero_add, Nat.le_refl, Nat.zero_le, w_L_kind_s11, e]
      rw [← hS]
      refine lf_kind4 K hd hdn hr3 hr _ [] (a + 1) (fun d hd => ?_) (by simp [rangeD]) (by omega) (by simp [rangeD]; omega) (by simp) fun ks a' y1 y2 y3 y4 => ?_
      · simp [rangeD] at hd; exact ⟨_, hd⟩
      · have := fin ks a' (.inl (by simpa [rangeD] using y1)) y2 y3 (by simp [rangeD] at y4; omega)
        generalize Sd cs a' = S at *
        simp [wSeq, wIf, wTV, wAnd, wOr, wNot, wAndV, wOrV, wNotV, wIfE, wRd, wCons, wNil, woVar, woE, wVar, wMove, wC, wvCons, wvNil, wTup, wLst, wNext, wRet, wRetN, wDrop, wBrk, wCt, wAsg, wgN, wgNil, wgCons, wgT, wPar, wFor, wYes, wLc, wipeE, backE, wCall, wMeth, wDictNew, wgSub, wSlB, wZipL, wiSeq, wiR1, wiR2, wiStr, wiEnum, wiEnumS, bodyK, takeM, putM, msOf, M.fz, Res.m, M.seq, M.lseq, M.mseq, M.dict, isL, isK, gList, gTuple, gAppend, gGet2, gSetd, setD, gEq, gNe, eqD_ss, eqD_ii, eqD_bb, gIn, gNi, gZip, gAll, gAny, gMul, gInt, cPos, cDiv, cMul, gAdd, slD, sliceF, D.key, List.length_cons, List.length_nil, List.getElem?_cons_succ, List.getElem?_cons_zero, List.getElem?_nil, List.set_cons_succ, List.set_cons_zero, List.getD_cons_succ, List.getD_cons_zero, Option.bind_some, Option.map_some, Option.map_none, Option.bind_none, ixN, atI, HT.sIx, cutD, Option.isSome_some, if_true, if_false, ite_true, ite_false, Bool.false_eq_true, decide_eq_true_eq, Bool.not_true, Bool.not_false, true_and, and_true, ofS_inj, String.reduceEq, reduceIte, decide_true, decide_false, Int.reduceAdd, Nat.reduceLeDiff, Nat.reduceAdd, Nat.zero_add, Nat.le_refl, Nat.zero_le]
        exact this
    · rw [hS]
      simp [wSeq, wIf, wTV, wAnd, wOr, wNot, wAndV, wOrV, wNotV, wIfE, wRd, wCons, wNil, woVar, woE, wVar, wMove, wC, wvCons, wvNil, wTup, wLst, wNext, wRet, wRetN, wDrop, wBrk, wCt, wAsg, wgN, wgNil, wgCons, wgT, wPar, wFor, wYes, wLc, wipeE, backE, wCall, wMeth, wDictNew, wgSub, wSlB, wZipL, wiSeq, wiR1, wiR2, wiStr, wiEnum, wiEnumS, bodyK, takeM, putM, msOf, M.fz, Res.m, M.seq, M.lseq, M.mseq, M.dict, isL, isK, gList, gTuple, gAppend, gGet2, gSetd, setD, gEq, gNe, eqD_ss, eqD_ii, eqD_bb, gIn, gNi, gZip, gAll, gAny, gMul, gInt, cPos, cDiv, cMul, gAdd, slD, sliceF, D.key, List.length_cons, List.length_nil, List.getElem?_cons_succ, List.getElem?_cons_zero, List.getElem?_nil, List.set_cons_succ, List.set_cons_zero, List.getD_cons_succ, List.getD_cons_zero, Option.bind_some, Option.map_some, Option.map_none, Option.bind_none, ixN, atI, HT.sIx, cutD, Option.isSome_some, if_true, if_false, ite_true, ite_false, Bool.false_eq_true, decide_eq_true_eq, Bool.not_true, Bool.not_false, true_and, and_true, ofS_inj, String.reduceEq, reduceIte, decide_true, decide_false, Int.reduceAdd, Nat.reduceLeDiff, Nat.reduceAdd, Nat.zero_add, Nat.le_refl, Nat.zero_le, w_L_kind_s11, e]
      rw [← hS]
      refine lf_kind4 K hd hdn hr3 hr _ [] (a + 1) (fun d hd => ?_) (by simp [rangeD]) (by omega) (by simp [rangeD]; omega) (by simp) fun ks a' y1 y2 y3 y4 => ?_
      · simp [rangeD] at hd
        obtain ⟨i, _, rfl⟩ := hd
        exact ⟨_, rfl⟩
      · have := fin ks a' (.inr (by simpa [rangeD] using y1)) y2 y3 (by simp [rangeD] at y4; omega)
        generalize Sd cs a' = S at *
        simp [wSeq, wIf, wTV, wAnd, wOr, wNot, wAndV, wOrV, wNotV, wIfE, wRd, wCons, wNil, woVar, woE, wVar, wMove, wC, wvCons, wvNil, wTup, wLst, wNext, wRet, wRetN, wDrop, wBrk, wCt, wAsg, wgN, wgNil, wgCons, wgT, wPar, wFor, wYes, wLc, wipeE, backE, wCall, wMeth, wDictNew, wgSub, wSlB, wZipL, wiSeq, wiR1, wiR2, wiStr, wiEnum, wiEnumS, bodyK, takeM, putM, msOf, M.fz, Res.m, M.seq, M.lseq, M.mseq, M.dict, isL, isK, gList, gTuple, gAppend, gGet2, gSetd, setD, gEq, gNe, eqD_ss, eqD_ii, eqD_bb, gIn, gNi, gZip, gAll, gAny, gMul, gInt, cPos, cDiv, cMul, gAdd, slD, sliceF, D.key, List.length_cons, List.length_nil, List.getElem?_cons_succ, List.getElem?_cons_zero, List.getElem?_nil, List.set_cons_succ, List.set_cons_zero, List.getD_cons_succ, List.getD_cons_zero, Option.bind_some, Option.map_some, Option.map_none, Option.bind_none, ixN, atI, HT.sIx, cutD, Option.isSome_some, if_true, if_false, ite_true, ite_false, Bool.false_eq_true, decide_eq_true_eq, Bool.not_true, Bool.not_false, true_and, and_true, ofS_inj, String.reduceEq, reduceIte, decide_true, decide_false, Int.reduceAdd, Nat.reduceLeDiff, Nat.reduceAdd, Nat.zero_add, Nat.le_refl, Nat.zero_le]
        exact this
  obtain ⟨ks', vs', hS⟩ := SdM cs a
  by_cases h0 : r = 3
  · subst h0
    by_cases hne : ms = []
    · have e0 : eqD (.lst (strN ms)) (.lst []) = some true := by rw [eqm, hne]; rfl
      rw [hS] at h2 ⊢
      simp [w_L_kind_s13, wIf, wAnd, wTV, wRd, wCons, woVar, woE, wC, wNil, wLst, wvNil, wNext, msOf, gEq, gNe, M.fz, eqD_ii, e0, Res.m]
      exact h2
    · have e0 : eqD (.lst (strN ms)) (.lst []) = some false := by rw [eqm]; simp [hne]
      have := body hne
      rw [hS] at this ⊢
      simp [w_L_kind_s13, wIf, wAnd, wTV, wRd, wCons, woVar, woE, wC, wNil, wLst, wvNil, wNext, msOf, gEq, gNe, M.fz, eqD_ii, e0, Res.m]
      exact this
  · rw [hS] at h2 ⊢
    simp [w_L_kind_s13, wIf, wAnd, wTV, wRd, wCons, woVar, woE, wC, wNil, wLst, wvNil, wNext, msOf, gEq, gNe, M.fz, eqD_ii, h0, Res.m]
    exact h2
theorem hw_L_kind (n : Nat) : ∀ ms C CX, ms.length = 4 → sp__law_kind (n + 1) ms C CX → w_L_kind sp__law_next sp__law_name (sp__law_kind n) (env0 N_L_kind ms) (bodyK pr_L_kind 4 C) (fun x e => CX x (outs pr_L_kind 4 e)) := by
  intro ms C CX _ h
  obtain ⟨cs, a, ns, vs, room, deep, rfl, K, d1, d2, r0, r1, ha, hb, h⟩ := h
  have hp : (0 : Int) < 4 ^ n := Int.pow_pos (by decide)
  have h4 : (4 : Int) ^ (n + 1) = 4 * 4 ^ n := by rw [Int.pow_succ, Int.mul_comm]
  have h3 : (3 : Nat) ^ (n + 1) = 3 * 3 ^ n := by rw [Nat.pow_succ, Nat.mul_comm]
  have hq : 0 < 3 ^ n := Nat.pow_pos (by decide)
  rw [h4] at hb h
  have h' : ∀ (t : Kk) (a' : Int), 2 * (paK t).length + 1 ≤ 3 * 3 ^ n → htK t ≤ 2 * (n + 1) → a ≤ a' → a' ≤ a + 4 * (4 * 4 ^ n) → ∀ x2 x3 x4 x5 x6 x7 x8 x9 x10 x11, C (.p (enK t)) (outs pr_L_kind 4 [some (Sd cs a'), some (.k (ksN ns) vs), x2, x3, x4, x5, x6, x7, x8, x9, x10, x11]) := fun t a' z1 z2 z3 z4 _ _ _ _ _ _ _ _ _ _ => h t a' (by rw [h3]; exact z1) z2 z3 z4 _ _
  have dd : deep ≤ (n : Int) + 1 := by omega
  unfold w_L_kind
  rw [e_L_kind]
  simp only [wSeq]
  refine kd_s1 ha (by omega) fun r q0 q1 => ?_
  refine kd_s6 K (by omega) (by omega) (fun k k1 k2 y7 y8 y9 => ?_) fun w1 w2 w3 => ?_
  · have e : a + 1 + 2 = a + 3 := by omega
    rw [e]
    exact h' k (a + 3) (by omega) (by omega) (by omega) (by omega) _ _ _ _ _ _ _ _ _ _
  refine kd_s8 K (by omega) (by omega) w2 dd w1 r1 (fun t a' z1 z2 z3 z4 => ?_) fun w4 => ?_
  · exact h' (.list t) a' (by simp [paK]; omega) (by simp [htK]; omega) (by omega) (by omega) _ _ _ _ _ _ _ _ _ _
  refine kd_s9 (X := fun x e => CX x (outs pr_L_kind 4 e)) K fun ms hms hm => ?_
  refine kd_s13 (X := fun x e => CX x (outs pr_L_kind 4 e)) K hms hm (by omega) (by omega) w2 dd w1 r1 (fun t a' z1 z2 z3 z4 y5 y9 y10 y11 => ?_) ?_
  · exact h' t a' (by rw [← h3]; exact z1) z2 (by omega) (by omega) _ _ _ _ _ _ _ _ _ _
  refine kd_s14 (X := fun x e => CX x (outs pr_L_kind 4 e)) K (by omega) (by omega) w2 dd w1 r1 fun t1 a1 z1 z2 z3 z4 => ?_
  refine kd_s15 K (by omega) (by omega) w2 dd w1 r1 fun t2 t a2 y1 y2 y3 y4 ht => ?_
  rcases ht with rfl | rfl
  · exact h' (.to t1 t2) a2 (by simp [paK]; omega) (by simp [htK]; omega) (by omega) (by omega) _ _ _ _ _ _ _ _ _ _
  · exact h' (.pair t1 t2) a2 (by simp [paK]; omega) (by simp [htK]; omega) (by omega) (by omega) _ _ _ _ _ _ _ _ _ _
end BV

namespace BV
open PySem L2 PyProof.Rows
theorem ht_inK {t u : Kk} (h : u ∈ inK t) : htK u < htK t := by
  cases t <;> simp [inK] at h <;> simp [htK] <;> first | omega | (subst h; omega) | (rcases h with rfl | rfl <;> omega) | (rcases h with rfl | rfl | rfl <;> omega)
def sp__law_kind_parts (n : Nat) : WF := fun ms C CX => ∃ t : Kk, ms = [.p (enK t)] ∧ htK t ≤ n ∧ (paK t).length ≤ 1000 ∧ ∀ o, C (.l ((paK t).map enK)) [o]
theorem lf_kparts {n : Nat} {C : KS} {X : KX} {a : Option M} : ∀ (us fd : List Kk) (x : Option M), (∀ u ∈ us, htK u ≤ n) → fd.length + lnK us ≤ 1000 → (∀ x, C.nx [a, some (.l ((fd ++ us.flatMap paK).map enK)), x]) →
    wForL w_L_kind_parts_g1 (w_L_kind_parts_b1 (sp__law_kind_parts n)) C X (us.map enK) [a, some (.l (fd.map enK)), x] := by
  intro us
  induction us with
  | nil =>
    intro fd x _ _ h
    have := h x
    simp at this
    exact this
  | cons u us ih =>
    intro fd x hn hl h
    have e : lnK (u :: us) = (paK u).length + lnK us := by simp [lnK]
    rw [e] at hl
    simp [wForL, w_L_kind_parts_g1, w_L_kind_parts_b1, wSeq, wIf, wTV, wAnd, wOr, wNot, wAndV, wOrV, wNotV, wIfE, wRd, wCons, wNil, woVar, woE, wVar, wMove, wC, wvCons, wvNil, wTup, wLst, wNext, wRet, wRetN, wDrop, wBrk, wCt, wAsg, wgN, wgNil, wgCons, wgT, wPar, wFor, wYes, wLc, wipeE, backE, wCall, wMeth, wDictNew, wgSub, wSlB, wZipL, wiSeq, wiR1, wiR2, wiStr, wiEnum, wiEnumS, bodyK, takeM, putM, msOf, M.fz, Res.m, M.seq, M.lseq, M.mseq, M.dict, isL, isK, gList, gTuple, gAppend, gGet2, gSetd, setD, gEq, gNe, eqD_ss, eqD_ii, eqD_bb, gIn, gNi, gZip, gAll, gAny, gMul, gInt, cPos, cDiv, cMul, gAdd, slD, sliceF, D.key, List.length_cons, List.length_nil, List.getElem?_cons_succ, List.getElem?_cons_zero, List.getElem?_nil, List.set_cons_succ, List.set_cons_zero, List.getD_cons_succ, List.getD_cons_zero, Option.bind_some, Option.map_some, Option.map_none, Option.bind_none, ixN, atI, HT.sIx, cutD, Option.isSome_some, if_true, if_false, ite_true, ite_false, Bool.false_eq_true, decide_eq_true_eq, Bool.not_true, Bool.not_false, true_and, and_true, ofS_inj, String.reduceEq, reduceIte, decide_true, decide_false, Int.reduceAdd, Nat.reduceLeDiff, Nat.reduceAdd, Nat.zero_add, Nat.le_refl, Nat.zero_le, w_L_kind_parts_s1, w_L_kind_parts_s2]
    refine ⟨u, rfl, hn u (by simp), by omega, fun o => ?_⟩
    have hq : fd.length + (paK u).length ≤ 100000 := by omega
    simp [wSeq, wIf, wTV, wAnd, wOr, wNot, wAndV, wOrV, wNotV, wIfE, wRd, wCons, wNil, woVar, woE, wVar, wMove, wC, wvCons, wvNil, wTup, wLst, wNext, wRet, wRetN, wDrop, wBrk, wCt, wAsg, wgN, wgNil, wgCons, wgT, wPar, wFor, wYes, wLc, wipeE, backE, wCall, wMeth, wDictNew, wgSub, wSlB, wZipL, wiSeq, wiR1, wiR2, wiStr, wiEnum, wiEnumS, bodyK, takeM, putM, msOf, M.fz, Res.m, M.seq, M.lseq, M.mseq, M.dict, isL, isK, gList, gTuple, gAppend, gGet2, gSetd, setD, gEq, gNe, eqD_ss, eqD_ii, eqD_bb, gIn, gNi, gZip, gAll, gAny, gMul, gInt, cPos, cDiv, cMul, gAdd, slD, sliceF, D.key, List.length_cons, List.length_nil, List.getElem?_cons_succ, List.getElem?_cons_zero, List.getElem?_nil, List.set_cons_succ, List.set_cons_zero, List.getD_cons_succ, List.getD_cons_zero, Option.bind_some, Option.map_some, Option.map_none, Option.bind_none, ixN, atI, HT.sIx, cutD, Option.isSome_some, if_true, if_false, ite_true, ite_false, Bool.false_eq_true, decide_eq_true_eq, Bool.not_true, Bool.not_false, true_and, and_true, ofS_inj, String.reduceEq, reduceIte, decide_true, decide_false, Int.reduceAdd, Nat.reduceLeDiff, Nat.reduceAdd, Nat.zero_add, Nat.le_refl, Nat.zero_le, hq]
    rw [← List.map_append]
    refine ih (fd ++ paK u) _ (fun v hv => hn v (by simp [hv])) (by simp; omega) fun x => ?_
    have := h x
    simpa using this
theorem hw_L_kind_parts (n : Nat) : ∀ ms C CX, ms.length = 1 → sp__law_kind_parts (n + 1) ms C CX → w_L_kind_parts sp__law_kind_inner (sp__law_kind_parts n) (env0 N_L_kind_parts ms) (bodyK pr_L_kind_parts 1 C) (fun x e => CX x (outs pr_L_kind_parts 1 e)) := by
  intro ms C CX _ h
  obtain ⟨t, rfl, h1, h2, h⟩ := h
  unfold w_L_kind_parts
  simp [wSeq, wIf, wTV, wAnd, wOr, wNot, wAndV, wOrV, wNotV, wIfE, wRd, wCons, wNil, woVar, woE, wVar, wMove, wC, wvCons, wvNil, wTup, wLst, wNext, wRet, wRetN, wDrop, wBrk, wCt, wAsg, wgN, wgNil, wgCons, wgT, wPar, wFor, wYes, wLc, wipeE, backE, wCall, wMeth, wDictNew, wgSub, wSlB, wZipL, wiSeq, wiR1, wiR2, wiStr, wiEnum, wiEnumS, bodyK, takeM, putM, msOf, M.fz, Res.m, M.seq, M.lseq, M.mseq, M.dict, isL, isK, gList, gTuple, gAppend, gGet2, gSetd, setD, gEq, gNe, eqD_ss, eqD_ii, eqD_bb, gIn, gNi, gZip, gAll, gAny, gMul, gInt, cPos, cDiv, cMul, gAdd, slD, sliceF, D.key, List.length_cons, List.length_nil, List.getElem?_cons_succ, List.getElem?_cons_zero, List.getElem?_nil, List.set_cons_succ, List.set_cons_zero, List.getD_cons_succ, List.getD_cons_zero, Option.bind_some, Option.map_some, Option.map_none, Option.bind_none, ixN, atI, HT.sIx, cutD, Option.isSome_some, if_true, if_false, ite_true, ite_false, Bool.false_eq_true, decide_eq_true_eq, Bool.not_true, Bool.not_false, true_and, and_true, ofS_inj, String.reduceEq, reduceIte, decide_true, decide_false, Int.reduceAdd, Nat.reduceLeDiff, Nat.reduceAdd, Nat.zero_add, Nat.le_refl, Nat.zero_le, w_L_kind_parts_s1, w_L_kind_parts_s2, e_L_kind_parts]
  refine ⟨t, rfl, fun o => ?_⟩
  simp [wSeq, wIf, wTV, wAnd, wOr, wNot, wAndV, wOrV, wNotV, wIfE, wRd, wCons, wNil, woVar, woE, wVar, wMove, wC, wvCons, wvNil, wTup, wLst, wNext, wRet, wRetN, wDrop, wBrk, wCt, wAsg, wgN, wgNil, wgCons, wgT, wPar, wFor, wYes, wLc, wipeE, backE, wCall, wMeth, wDictNew, wgSub, wSlB, wZipL, wiSeq, wiR1, wiR2, wiStr, wiEnum, wiEnumS, bodyK, takeM, putM, msOf, M.fz, Res.m, M.seq, M.lseq, M.mseq, M.dict, isL, isK, gList, gTuple, gAppend, gGet2, gSetd, setD, gEq, gNe, eqD_ss, eqD_ii, eqD_bb, gIn, gNi, gZip, gAll, gAny, gMul, gInt, cPos, cDiv, cMul, gAdd, slD, sliceF, D.key, List.length_cons, List.length_nil, List.getElem?_cons_succ, List.getElem?_cons_zero, List.getElem?_nil, List.set_cons_succ, List.set_cons_zero, List.getD_cons_succ, List.getD_cons_zero, Option.bind_some, Option.map_some, Option.map_none, Option.bind_none, ixN, atI, HT.sIx, cutD, Option.isSome_some, if_true, if_false, ite_true, ite_false, Bool.false_eq_true, decide_eq_true_eq, Bool.not_true, Bool.not_false, true_and, and_true, ofS_inj, String.reduceEq, reduceIte, decide_true, decide_false, Int.reduceAdd, Nat.reduceLeDiff, Nat.reduceAdd, Nat.zero_add, Nat.le_refl, Nat.zero_le]
  have e := paK_eq t
  have hl : (paK t).length = 1 + lnK (inK t) := by rw [e, List.length_cons, lnK_flat]; omega
  refine lf_kparts (inK t) [t] none (fun u hu => by have := ht_inK hu; omega) (by simp; omega) fun x => ?_
  rw [show [t] ++ (inK t).flatMap paK = paK t from e.symm]
  simp [wSeq, wIf, wTV, wAnd, wOr, wNot, wAndV, wOrV, wNotV, wIfE, wRd, wCons, wNil, woVar, woE, wVar, wMove, wC, wvCons, wvNil, wTup, wLst, wNext, wRet, wRetN, wDrop, wBrk, wCt, wAsg, wgN, wgNil, wgCons, wgT, wPar, wFor, wYes, wLc, wipeE, backE, wCall, wMeth, wDictNew, wgSub, wSlB, wZipL, wiSeq, wiR1, wiR2, wiStr, wiEnum, wiEnumS, bodyK, takeM, putM, msOf, M.fz, Res.m, M.seq, M.lseq, M.mseq, M.dict, isL, isK, gList, gTuple, gAppend, gGet2, gSetd, setD, gEq, gNe, eqD_ss, eqD_ii, eqD_bb, gIn, gNi, gZip, gAll, gAny, gMul, gInt, cPos, cDiv, cMul, gAdd, slD, sliceF, D.key, List.length_cons, List.length_nil, List.getElem?_cons_succ, List.getElem?_cons_zero, List.getElem?_nil, List.set_cons_succ, List.set_cons_zero, List.getD_cons_succ, List.getD_cons_zero, Option.bind_some, Option.map_some, Option.map_none, Option.bind_none, ixN, atI, HT.sIx, cutD, Option.isSome_some, if_true, if_false, ite_true, ite_false, Bool.false_eq_true, decide_eq_true_eq, Bool.not_true, Bool.not_false, true_and, and_true, ofS_inj, String.reduceEq, reduceIte, decide_true, decide_false, Int.reduceAdd, Nat.reduceLeDiff, Nat.reduceAdd, Nat.zero_add, Nat.le_refl, Nat.zero_le, o_L_kind_parts]
  exact h _
end BV

namespace BV
open PySem L2 PyProof.Rows
def sp__law_leaf : WF := fun ms C CX => ∃ (cs : List Int) (a : Int) (ns hs : List Nm), ms = [Sd cs a, .l (strN ns), .l (strN hs)] ∧ ns ≠ [] ∧ 0 ≤ a ∧ a + 10 < 1000000000000 ∧
  ∀ (x : Lf) (a' : Int), a ≤ a' → a' ≤ a + 3 → C (.p (enT (.leaf x))) [some (Sd cs a'), some (.l (strN ns)), some (.l (strN hs))]
variable {ns hs : List Nm} {a : Int} {cs : List Int} {C : KS} {X : KX} {x1 x2 x3 : Option M} {r : Int}
theorem lf_s1 (ha : 0 ≤ a) (ha2 : a < 1000000000000) (h : ∀ r : Int, 0 ≤ r → r < 6 → C.nx [some (Sd cs (a + 1)), x1, x2, some (.p (.int r))]) : w_L_leaf_s1 sp__law_next [some (Sd cs a), x1, x2, x3] C X := by
  obtain ⟨ks, vs, hS⟩ := SdM cs a
  rw [hS]
  simp [wSeq, wIf, wTV, wAnd, wOr, wNot, wAndV, wOrV, wNotV, wIfE, wRd, wCons, wNil, woVar, woE, wVar, wMove, wC, wvCons, wvNil, wTup, wLst, wNext, wRet, wRetN, wDrop, wBrk, wCt, wAsg, wgN, wgNil, wgCons, wgT, wPar, wFor, wYes, wLc, wipeE, backE, wCall, wMeth, wDictNew, wgSub, wSlB, wZipL, wiSeq, wiR1, wiR2, wiStr, wiEnum, wiEnumS, bodyK, takeM, putM, msOf, M.fz, Res.m, M.seq, M.lseq, M.mseq, M.dict, isL, isK, gList, gTuple, gAppend, gGet2, gSetd, setD, gEq, gNe, eqD_ss, eqD_ii, eqD_bb, gIn, gNi, gZip, gAll, gAny, gMul, gInt, cPos, cDiv, cMul, gAdd, slD, sliceF, D.key, List.length_cons, List.length_nil, List.getElem?_cons_succ, List.getElem?_cons_zero, List.getElem?_nil, List.set_cons_succ, List.set_cons_zero, List.getD_cons_succ, List.getD_cons_zero, Option.bind_some, Option.map_some, Option.map_none, Option.bind_none, ixN, atI, HT.sIx, cutD, Option.isSome_some, if_true, if_false, ite_true, ite_false, Bool.false_eq_true, decide_eq_true_eq, Bool.not_true, Bool.not_false, true_and, and_true, ofS_inj, String.reduceEq, reduceIte, decide_true, decide_false, Int.reduceAdd, Nat.reduceLeDiff, Nat.reduceAdd, Nat.zero_add, Nat.le_refl, Nat.zero_le, w_L_leaf_s1]
  rw [← hS]
  refine ⟨cs, a, 6, rfl, by decide, ha, ha2, fun r r0 r1 o2 => ?_⟩
  have := h r r0 r1
  generalize Sd cs (a + 1) = S at *
  simp [wSeq, wIf, wTV, wAnd, wOr, wNot, wAndV, wOrV, wNotV, wIfE, wRd, wCons, wNil, woVar, woE, wVar, wMove, wC, wvCons, wvNil, wTup, wLst, wNext, wRet, wRetN, wDrop, wBrk, wCt, wAsg, wgN, wgNil, wgCons, wgT, wPar, wFor, wYes, wLc, wipeE, backE, wCall, wMeth, wDictNew, wgSub, wSlB, wZipL, wiSeq, wiR1, wiR2, wiStr, wiEnum, wiEnumS, bodyK, takeM, putM, msOf, M.fz, Res.m, M.seq, M.lseq, M.mseq, M.dict, isL, isK, gList, gTuple, gAppend, gGet2, gSetd, setD, gEq, gNe, eqD_ss, eqD_ii, eqD_bb, gIn, gNi, gZip, gAll, gAny, gMul, gInt, cPos, cDiv, cMul, gAdd, slD, sliceF, D.key, List.length_cons, List.length_nil, List.getElem?_cons_succ, List.getElem?_cons_zero, List.getElem?_nil, List.set_cons_succ, List.set_cons_zero, List.getD_cons_succ, List.getD_cons_zero, Option.bind_some, Option.map_some, Option.map_none, Option.bind_none, ixN, atI, HT.sIx, cutD, Option.isSome_some, if_true, if_false, ite_true, ite_false, Bool.false_eq_true, decide_eq_true_eq, Bool.not_true, Bool.not_false, true_and, and_true, ofS_inj, String.reduceEq, reduceIte, decide_true, decide_false, Int.reduceAdd, Nat.reduceLeDiff, Nat.reduceAdd, Nat.zero_add, Nat.le_refl, Nat.zero_le]
  exact this
theorem lf_s3 (ha : 0 ≤ a) (ha2 : a + 2 < 1000000000000) (h : ∀ x : Lf, C.rt (.p (enT (.leaf x))) [some (Sd cs (a + 2)), x1, x2, some (.p (.int r))]) (h2 : 2 ≤ r → C.nx [some (Sd cs a), x1, x2, some (.p (.int r))]) : w_L_leaf_s3 sp__law_next [some (Sd cs a), x1, x2, some (.p (.int r))] C X := by
  obtain ⟨ks, vs, hS⟩ := SdM cs a
  by_cases hr : r < 2
  · rw [hS]
    simp [wSeq, wIf, wTV, wAnd, wOr, wNot, wAndV, wOrV, wNotV, wIfE, wRd, wCons, wNil, woVar, woE, wVar, wMove, wC, wvCons, wvNil, wTup, wLst, wNext, wRet, wRetN, wDrop, wBrk, wCt, wAsg, wgN, wgNil, wgCons, wgT, wPar, wFor, wYes, wLc, wipeE, backE, wCall, wMeth, wDictNew, wgSub, wSlB, wZipL, wiSeq, wiR1, wiR2, wiStr, wiEnum, wiEnumS, bodyK, takeM, putM, msOf, M.fz, Res.m, M.seq, M.lseq, M.mseq, M.dict, isL, isK, gList, gTuple, gAppend, gGet2, gSetd, setD, gEq, gNe, eqD_ss, eqD_ii, eqD_bb, gIn, gNi, gZip, gAll, gAny, gMul, gInt, cPos, cDiv, cMul, gAdd, slD, sliceF, D.key, List.length_cons, List.length_nil, List.getElem?_cons_succ, List.getElem?_cons_zero, List.getElem?_nil, List.set_cons_succ, List.set_cons_zero, List.getD_cons_succ, List.getD_cons_zero, Option.bind_some, Option.map_some, Option.map_none, Option.bind_none, ixN, atI, HT.sIx, cutD, Option.isSome_some, if_true, if_false, ite_true, ite_false, Bool.false_eq_true, decide_eq_true_eq, Bool.not_true, Bool.not_false, true_and, and_true, ofS_inj, String.reduceEq, reduceIte, decide_true, decide_false, Int.reduceAdd, Nat.reduceLeDiff, Nat.reduceAdd, Nat.zero_add, Nat.le_refl, Nat.zero_le, w_L_leaf_s3, gCmp, pLt, hr]
    simp [wSeq, wIf, wTV, wAnd, wOr, wNot, wAndV, wOrV, wNotV, wIfE, wRd, wCons, wNil, woVar, woE, wVar, wMove, wC, wvCons, wvNil, wTup, wLst, wNext, wRet, wRetN, wDrop, wBrk, wCt, wAsg, wgN, wgNil, wgCons, wgT, wPar, wFor, wYes, wLc, wipeE, backE, wCall, wMeth, wDictNew, wgSub, wSlB, wZipL, wiSeq, wiR1, wiR2, wiStr, wiEnum, wiEnumS, bodyK, takeM, putM, msOf, M.fz, Res.m, M.seq, M.lseq, M.mseq, M.dict, isL, isK, gList, gTuple, gAppend, gGet2, gSetd, setD, gEq, gNe, eqD_ss, eqD_ii, eqD_bb, gIn, gNi, gZip, gAll, gAny, gMul, gInt, cPos, cDiv, cMul, gAdd, slD, sliceF, D.key, List.length_cons, List.length_nil, List.getElem?_cons_succ, List.getElem?_cons_zero, List.getElem?_nil, List.set_cons_succ, List.set_cons_zero, List.getD_cons_succ, List.getD_cons_zero, Option.bind_some, Option.map_some, Option.map_none, Option.bind_none, ixN, atI, HT.sIx, cutD, Option.isSome_some, if_true, if_false, ite_true, ite_false, Bool.false_eq_true, decide_eq_true_eq, Bool.not_true, Bool.not_false, true_and, and_true, ofS_inj, String.reduceEq, reduceIte, decide_true, decide_false, Int.reduceAdd, Nat.reduceLeDiff, Nat.reduceAdd, Nat.zero_add, Nat.le_refl, Nat.zero_le, w_L_leaf_s2]
    rw [← hS]
    refine ⟨cs, a, 10, rfl, by decide, ha, by omega, fun q q0 q1 o2 => ?_⟩
    obtain ⟨ks, vs, hS⟩ := SdM cs (a + 1)
    rw [hS]
    simp [wSeq, wIf, wTV, wAnd, wOr, wNot, wAndV, wOrV, wNotV, wIfE, wRd, wCons, wNil, woVar, woE, wVar, wMove, wC, wvCons, wvNil, wTup, wLst, wNext, wRet, wRetN, wDrop, wBrk, wCt, wAsg, wgN, wgNil, wgCons, wgT, wPar, wFor, wYes, wLc, wipeE, backE, wCall, wMeth, wDictNew, wgSub, wSlB, wZipL, wiSeq, wiR1, wiR2, wiStr, wiEnum, wiEnumS, bodyK, takeM, putM, msOf, M.fz, Res.m, M.seq, M.lseq, M.mseq, M.dict, isL, isK, gList, gTuple, gAppend, gGet2, gSetd, setD, gEq, gNe, eqD_ss, eqD_ii, eqD_bb, gIn, gNi, gZip, gAll, gAny, gMul, gInt, cPos, cDiv, cMul, gAdd, slD, sliceF, D.key, List.length_cons, List.length_nil, List.getElem?_cons_succ, List.getElem?_cons_zero, List.getElem?_nil, List.set_cons_succ, List.set_cons_zero, List.getD_cons_succ, List.getD_cons_zero, Option.bind_some, Option.map_some, Option.map_none, Option.bind_none, ixN, atI, HT.sIx, cutD, Option.isSome_some, if_true, if_false, ite_true, ite_false, Bool.false_eq_true, decide_eq_true_eq, Bool.not_true, Bool.not_false, true_and, and_true, ofS_inj, String.reduceEq, reduceIte, decide_true, decide_false, Int.reduceAdd, Nat.reduceLeDiff, Nat.reduceAdd, Nat.zero_add, Nat.le_refl, Nat.zero_le, cPow]
    rw [← hS]
    refine ⟨cs, a + 1, 3, rfl, by decide, by omega, by omega, fun i i0 i1 o2 => ?_⟩
    have e : a + 1 + 1 = a + 2 := by omega
    rw [e]
    have h10 := h (.num q)
    have h11 := h (.num (10 ^ 12 - 1))
    have h12 := h (.tru (decide (r = 1)))
    simp only [enT, Lf.d] at h10 h11 h12
    generalize Sd cs (a + 2) = S at *
    have i3 : i = 0 ∨ i = 1 ∨ i = 2 := by omega
    rcases i3 with rfl | rfl | rfl
    · simp [wSeq, wIf, wTV, wAnd, wOr, wNot, wAndV, wOrV, wNotV, wIfE, wRd, wCons, wNil, woVar, woE, wVar, wMove, wC, wvCons, wvNil, wTup, wLst, wNext, wRet, wRetN, wDrop, wBrk, wCt, wAsg, wgN, wgNil, wgCons, wgT, wPar, wFor, wYes, wLc, wipeE, backE, wCall, wMeth, wDictNew, wgSub, wSlB, wZipL, wiSeq, wiR1, wiR2, wiStr, wiEnum, wiEnumS, bodyK, takeM, putM, msOf, M.fz, Res.m, M.seq, M.lseq, M.mseq, M.dict, isL, isK, gList, gTuple, gAppend, gGet2, gSetd, setD, gEq, gNe, eqD_ss, eqD_ii, eqD_bb, gIn, gNi, gZip, gAll, gAny, gMul, gInt, cPos, cDiv, cMul, gAdd, slD, sliceF, D.key, List.length_cons, List.length_nil, List.getElem?_cons_succ, List.getElem?_cons_zero, List.getElem?_nil, List.set_cons_succ, List.set_cons_zero, List.getD_cons_succ, List.getD_cons_zero, Option.bind_some, Option.map_some, Option.map_none, Option.bind_none, ixN, atI, HT.sIx, cutD, Option.isSome_some, if_true, if_false, ite_true, ite_false, Bool.false_eq_true, decide_eq_true_eq, Bool.not_true, Bool.not_false, true_and, and_true, ofS_inj, String.reduceEq, reduceIte, decide_true, decide_false, Int.reduceAdd, Nat.reduceLeDiff, Nat.reduceAdd, Nat.zero_add, Nat.le_refl, Nat.zero_le, gIx]; exact h10
    · simp [wSeq, wIf, wTV, wAnd, wOr, wNot, wAndV, wOrV, wNotV, wIfE, wRd, wCons, wNil, woVar, woE, wVar, wMove, wC, wvCons, wvNil, wTup, wLst, wNext, wRet, wRetN, wDrop, wBrk, wCt, wAsg, wgN, wgNil, wgCons, wgT, wPar, wFor, wYes, wLc, wipeE, backE, wCall, wMeth, wDictNew, wgSub, wSlB, wZipL, wiSeq, wiR1, wiR2, wiStr, wiEnum, wiEnumS, bodyK, takeM, putM, msOf, M.fz, Res.m, M.seq, M.lseq, M.mseq, M.dict, isL, isK, gList, gTuple, gAppend, gGet2, gSetd, setD, gEq, gNe, eqD_ss, eqD_ii, eqD_bb, gIn, gNi, gZip, gAll, gAny, gMul, gInt, cPos, cDiv, cMul, gAdd, slD, sliceF, D.key, List.length_cons, List.length_nil, List.getElem?_cons_succ, List.getElem?_cons_zero, List.getElem?_nil, List.set_cons_succ, List.set_cons_zero, List.getD_cons_succ, List.getD_cons_zero, Option.bind_some, Option.map_some, Option.map_none, Option.bind_none, ixN, atI, HT.sIx, cutD, Option.isSome_some, if_true, if_false, ite_true, ite_false, Bool.false_eq_true, decide_eq_true_eq, Bool.not_true, Bool.not_false, true_and, and_true, ofS_inj, String.reduceEq, reduceIte, decide_true, decide_false, Int.reduceAdd, Nat.reduceLeDiff, Nat.reduceAdd, Nat.zero_add, Nat.le_refl, Nat.zero_le, gIx]; simpa using h11
    · simp [wSeq, wIf, wTV, wAnd, wOr, wNot, wAndV, wOrV, wNotV, wIfE, wRd, wCons, wNil, woVar, woE, wVar, wMove, wC, wvCons, wvNil, wTup, wLst, wNext, wRet, wRetN, wDrop, wBrk, wCt, wAsg, wgN, wgNil, wgCons, wgT, wPar, wFor, wYes, wLc, wipeE, backE, wCall, wMeth, wDictNew, wgSub, wSlB, wZipL, wiSeq, wiR1, wiR2, wiStr, wiEnum, wiEnumS, bodyK, takeM, putM, msOf, M.fz, Res.m, M.seq, M.lseq, M.mseq, M.dict, isL, isK, gList, gTuple, gAppend, gGet2, gSetd, setD, gEq, gNe, eqD_ss, eqD_ii, eqD_bb, gIn, gNi, gZip, gAll, gAny, gMul, gInt, cPos, cDiv, cMul, gAdd, slD, sliceF, D.key, List.length_cons, List.length_nil, List.getElem?_cons_succ, List.getElem?_cons_zero, List.getElem?_nil, List.set_cons_succ, List.set_cons_zero, List.getD_cons_succ, List.getD_cons_zero, Option.bind_some, Option.map_some, Option.map_none, Option.bind_none, ixN, atI, HT.sIx, cutD, Option.isSome_some, if_true, if_false, ite_true, ite_false, Bool.false_eq_true, decide_eq_true_eq, Bool.not_true, Bool.not_false, true_and, and_true, ofS_inj, String.reduceEq, reduceIte, decide_true, decide_false, Int.reduceAdd, Nat.reduceLeDiff, Nat.reduceAdd, Nat.zero_add, Nat.le_refl, Nat.zero_le, gIx]; exact h12
  · have := h2 (by omega)
    generalize Sd cs a = S at *
    simp [wSeq, wIf, wTV, wAnd, wOr, wNot, wAndV, wOrV, wNotV, wIfE, wRd, wCons, wNil, woVar, woE, wVar, wMove, wC, wvCons, wvNil, wTup, wLst, wNext, wRet, wRetN, wDrop, wBrk, wCt, wAsg, wgN, wgNil, wgCons, wgT, wPar, wFor, wYes, wLc, wipeE, backE, wCall, wMeth, wDictNew, wgSub, wSlB, wZipL, wiSeq, wiR1, wiR2, wiStr, wiEnum, wiEnumS, bodyK, takeM, putM, msOf, M.fz, Res.m, M.seq, M.lseq, M.mseq, M.dict, isL, isK, gList, gTuple, gAppend, gGet2, gSetd, setD, gEq, gNe, eqD_ss, eqD_ii, eqD_bb, gIn, gNi, gZip, gAll, gAny, gMul, gInt, cPos, cDiv, cMul, gAdd, slD, sliceF, D.key, List.length_cons, List.length_nil, List.getElem?_cons_succ, List.getElem?_cons_zero, List.getElem?_nil, List.set_cons_succ, List.set_cons_zero, List.getD_cons_succ, List.getD_cons_zero, Option.bind_some, Option.map_some, Option.map_none, Option.bind_none, ixN, atI, HT.sIx, cutD, Option.isSome_some, if_true, if_false, ite_true, ite_false, Bool.false_eq_true, decide_eq_true_eq, Bool.not_true, Bool.not_false, true_and, and_true, ofS_inj, String.reduceEq, reduceIte, decide_true, decide_false, Int.reduceAdd, Nat.reduceLeDiff, Nat.reduceAdd, Nat.zero_add, Nat.le_refl, Nat.zero_le, w_L_leaf_s3, gCmp, pLt, hr]
    exact this
theorem eq_strN (ms : List Nm) : eqD (.lst (strN ms)) (.lst []) = some ms.isEmpty := by
  rw [eqD_nil (fun x hx => by
    obtain ⟨m, _, rfl⟩ := List.mem_map.mp hx
    exact ⟨_, rfl, m.2⟩)]
  simp [strN]
theorem lf_s6 (hn : ns ≠ []) (ha : 0 ≤ a) (ha2 : a < 1000000000000) (h : ∀ m : Nm, C.rt (.p (enT (.leaf (.nam m)))) [some (Sd cs (a + 1)), some (.l (strN ns)), x2, x3]) : w_L_leaf_s6 sp__law_next [some (Sd cs a), some (.l (strN ns)), x2, x3] C X := by
  obtain ⟨ks, vs, hS⟩ := SdM cs a
  have hp : (0 : Int) < ns.length := by have := List.length_pos_iff.mpr hn; omega
  have hl : (strN ns).length = ns.length := by simp [strN]
  rw [hS]
  simp [wSeq, wIf, wTV, wAnd, wOr, wNot, wAndV, wOrV, wNotV, wIfE, wRd, wCons, wNil, woVar, woE, wVar, wMove, wC, wvCons, wvNil, wTup, wLst, wNext, wRet, wRetN, wDrop, wBrk, wCt, wAsg, wgN, wgNil, wgCons, wgT, wPar, wFor, wYes, wLc, wipeE, backE, wCall, wMeth, wDictNew, wgSub, wSlB, wZipL, wiSeq, wiR1, wiR2, wiStr, wiEnum, wiEnumS, bodyK, takeM, putM, msOf, M.fz, Res.m, M.seq, M.lseq, M.mseq, M.dict, isL, isK, gList, gTuple, gAppend, gGet2, gSetd, setD, gEq, gNe, eqD_ss, eqD_ii, eqD_bb, gIn, gNi, gZip, gAll, gAny, gMul, gInt, cPos, cDiv, cMul, gAdd, slD, sliceF, D.key, List.length_cons, List.length_nil, List.getElem?_cons_succ, List.getElem?_cons_zero, List.getElem?_nil, List.set_cons_succ, List.set_cons_zero, List.getD_cons_succ, List.getD_cons_zero, Option.bind_some, Option.map_some, Option.map_none, Option.bind_none, ixN, atI, HT.sIx, cutD, Option.isSome_some, if_true, if_false, ite_true, ite_false, Bool.false_eq_true, decide_eq_true_eq, Bool.not_true, Bool.not_false, true_and, and_true, ofS_inj, String.reduceEq, reduceIte, decide_true, decide_false, Int.reduceAdd, Nat.reduceLeDiff, Nat.reduceAdd, Nat.zero_add, Nat.le_refl, Nat.zero_le, w_L_leaf_s6, gLen, hl]
  rw [← hS]
  refine ⟨cs, a, ns.length, rfl, hp, ha, ha2, fun r r0 r1 o2 => ?_⟩
  obtain ⟨k, hk, e⟩ := gIx_nms r0 r1
  have := h k
  simp only [enT, Lf.d] at this
  generalize Sd cs (a + 1) = S at *
  simp [wSeq, wIf, wTV, wAnd, wOr, wNot, wAndV, wOrV, wNotV, wIfE, wRd, wCons, wNil, woVar, woE, wVar, wMove, wC, wvCons, wvNil, wTup, wLst, wNext, wRet, wRetN, wDrop, wBrk, wCt, wAsg, wgN, wgNil, wgCons, wgT, wPar, wFor, wYes, wLc, wipeE, backE, wCall, wMeth, wDictNew, wgSub, wSlB, wZipL, wiSeq, wiR1, wiR2, wiStr, wiEnum, wiEnumS, bodyK, takeM, putM, msOf, M.fz, Res.m, M.seq, M.lseq, M.mseq, M.dict, isL, isK, gList, gTuple, gAppend, gGet2, gSetd, setD, gEq, gNe, eqD_ss, eqD_ii, eqD_bb, gIn, gNi, gZip, gAll, gAny, gMul, gInt, cPos, cDiv, cMul, gAdd, slD, sliceF, D.key, List.length_cons, List.length_nil, List.getElem?_cons_succ, List.getElem?_cons_zero, List.getElem?_nil, List.set_cons_succ, List.set_cons_zero, List.getD_cons_succ, List.getD_cons_zero, Option.bind_some, Option.map_some, Option.map_none, Option.bind_none, ixN, atI, HT.sIx, cutD, Option.isSome_some, if_true, if_false, ite_true, ite_false, Bool.false_eq_true, decide_eq_true_eq, Bool.not_true, Bool.not_false, true_and, and_true, ofS_inj, String.reduceEq, reduceIte, decide_true, decide_false, Int.reduceAdd, Nat.reduceLeDiff, Nat.reduceAdd, Nat.zero_add, Nat.le_refl, Nat.zero_le, e]
  exact this
theorem lf_s5 (ha : 0 ≤ a) (ha2 : a < 1000000000000) (h : ∀ m : Nm, C.rt (.p (enT (.leaf (.hed m)))) [some (Sd cs (a + 1)), x1, some (.l (strN hs)), some (.p (.int r))]) (h2 : C.nx [some (Sd cs a), x1, some (.l (strN hs)), some (.p (.int r))]) :
    w_L_leaf_s5 sp__law_next [some (Sd cs a), x1, some (.l (strN hs)), some (.p (.int r))] C X := by
  obtain ⟨ks, vs, hS⟩ := SdM cs a
  have eqm := eq_strN hs
  by_cases hr : r = 2
  · subst hr
    cases hh : hs.isEmpty with
    | true =>
      rw [hh] at eqm
      generalize Sd cs a = S at *
      simp [wSeq, wIf, wTV, wAnd, wOr, wNot, wAndV, wOrV, wNotV, wIfE, wRd, wCons, wNil, woVar, woE, wVar, wMove, wC, wvCons, wvNil, wTup, wLst, wNext, wRet, wRetN, wDrop, wBrk, wCt, wAsg, wgN, wgNil, wgCons, wgT, wPar, wFor, wYes, wLc, wipeE, backE, wCall, wMeth, wDictNew, wgSub, wSlB, wZipL, wiSeq, wiR1, wiR2, wiStr, wiEnum, wiEnumS, bodyK, takeM, putM, msOf, M.fz, Res.m, M.seq, M.lseq, M.mseq, M.dict, isL, isK, gList, gTuple, gAppend, gGet2, gSetd, setD, gEq, gNe, eqD_ss, eqD_ii, eqD_bb, gIn, gNi, gZip, gAll, gAny, gMul, gInt, cPos, cDiv, cMul, gAdd, slD, sliceF, D.key, List.length_cons, List.length_nil, List.getElem?_cons_succ, List.getElem?_cons_zero, List.getElem?_nil, List.set_cons_succ, List.set_cons_zero, List.getD_cons_succ, List.getD_cons_zero, Option.bind_some, Option.map_some, Option.map_none, Option.bind_none, ixN, atI, HT.sIx, cutD, Option.isSome_some, if_true, if_false, ite_true, ite_false, Bool.false_eq_true, decide_eq_true_eq, Bool.not_true, Bool.not_false, true_and, and_true, ofS_inj, String.reduceEq, reduceIte, decide_true, decide_false, Int.reduceAdd, Nat.reduceLeDiff, Nat.reduceAdd, Nat.zero_add, Nat.le_refl, Nat.zero_le, w_L_leaf_s5, eqm]
      exact h2
    | false =>
      rw [hh] at eqm
      have hne : hs ≠ [] := by intro e; subst e; cases hh
      have hp : (0 : Int) < hs.length := by have := List.length_pos_iff.mpr hne; omega
      have hl : (strN hs).length = hs.length := by simp [strN]
      rw [hS]
      simp [wSeq, wIf, wTV, wAnd, wOr, wNot, wAndV, wOrV, wNotV, wIfE, wRd, wCons, wNil, woVar, woE, wVar, wMove, wC, wvCons, wvNil, wTup, wLst, wNext, wRet, wRetN, wDrop, wBrk, wCt, wAsg, wgN, wgNil, wgCons, wgT, wPar, wFor, wYes, wLc, wipeE, backE, wCall, wMeth, wDictNew, wgSub, wSlB, wZipL, wiSeq, wiR1, wiR2, wiStr, wiEnum, wiEnumS, bodyK, takeM, putM, msOf, M.fz, Res.m, M.seq, M.lseq, M.mseq, M.dict, isL, isK, gList, gTuple, gAppend, gGet2, gSetd, setD, gEq, gNe, eqD_ss, eqD_ii, eqD_bb, gIn, gNi, gZip, gAll, gAny, gMul, gInt, cPos, cDiv, cMul, gAdd, slD, sliceF, D.key, List.length_cons, List.length_nil, List.getElem?_cons_succ, List.getElem?_cons_zero, List.getElem?_nil, List.set_cons_succ, List.set_cons_zero, List.getD_cons_succ, List.getD_cons_zero, Option.bind_some, Option.map_some, Option.map_none, Option.bind_none, ixN, atI, HT.sIx, cutD, Option.isSome_some, if_true, if_false, ite_true, ite_false, Bool.false_eq_true, decide_eq_true_eq, Bool.not_true, Bool.not_false, true_and, and_true, ofS_inj, String.reduceEq, reduceIte, decide_true, decide_false, Int.reduceAdd, Nat.reduceLeDiff, Nat.reduceAdd, Nat.zero_add, Nat.le_refl, Nat.zero_le, w_L_leaf_s5, eqm]
      simp [wSeq, wIf, wTV, wAnd, wOr, wNot, wAndV, wOrV, wNotV, wIfE, wRd, wCons, wNil, woVar, woE, wVar, wMove, wC, wvCons, wvNil, wTup, wLst, wNext, wRet, wRetN, wDrop, wBrk, wCt, wAsg, wgN, wgNil, wgCons, wgT, wPar, wFor, wYes, wLc, wipeE, backE, wCall, wMeth, wDictNew, wgSub, wSlB, wZipL, wiSeq, wiR1, wiR2, wiStr, wiEnum, wiEnumS, bodyK, takeM, putM, msOf, M.fz, Res.m, M.seq, M.lseq, M.mseq, M.dict, isL, isK, gList, gTuple, gAppend, gGet2, gSetd, setD, gEq, gNe, eqD_ss, eqD_ii, eqD_bb, gIn, gNi, gZip, gAll, gAny, gMul, gInt, cPos, cDiv, cMul, gAdd, slD, sliceF, D.key, List.length_cons, List.length_nil, List.getElem?_cons_succ, List.getElem?_cons_zero, List.getElem?_nil, List.set_cons_succ, List.set_cons_zero, List.getD_cons_succ, List.getD_cons_zero, Option.bind_some, Option.map_some, Option.map_none, Option.bind_none, ixN, atI, HT.sIx, cutD, Option.isSome_some, if_true, if_false, ite_true, ite_false, Bool.false_eq_true, decide_eq_true_eq, Bool.not_true, Bool.not_false, true_and, and_true, ofS_inj, String.reduceEq, reduceIte, decide_true, decide_false, Int.reduceAdd, Nat.reduceLeDiff, Nat.reduceAdd, Nat.zero_add, Nat.le_refl, Nat.zero_le, w_L_leaf_s4, gLen, hl]
      rw [← hS]
      refine ⟨cs, a, hs.length, rfl, hp, ha, ha2, fun r r0 r1 o2 => ?_⟩
      obtain ⟨k, hk, e⟩ := gIx_nms r0 r1
      have := h k
      simp only [enT, Lf.d] at this
      generalize Sd cs (a + 1) = S at *
      simp [wSeq, wIf, wTV, wAnd, wOr, wNot, wAndV, wOrV, wNotV, wIfE, wRd, wCons, wNil, woVar, woE, wVar, wMove, wC, wvCons, wvNil, wTup, wLst, wNext, wRet, wRetN, wDrop, wBrk, wCt, wAsg, wgN, wgNil, wgCons, wgT, wPar, wFor, wYes, wLc, wipeE, backE, wCall, wMeth, wDictNew, wgSub, wSlB, wZipL, wiSeq, wiR1, wiR2, wiStr, wiEnum, wiEnumS, bodyK, takeM, putM, msOf, M.fz, Res.m, M.seq, M.lseq, M.mseq, M.dict, isL, isK, gList, gTuple, gAppend, gGet2, gSetd, setD, gEq, gNe, eqD_ss, eqD_ii, eqD_bb, gIn, gNi, gZip, gAll, gAny, gMul, gInt, cPos, cDiv, cMul, gAdd, slD, sliceF, D.key, List.length_cons, List.length_nil, List.getElem?_cons_succ, List.getElem?_cons_zero, List.getElem?_nil, List.set_cons_succ, List.set_cons_zero, List.getD_cons_succ, List.getD_cons_zero, Option.bind_some, Option.map_some, Option.map_none, Option.bind_none, ixN, atI, HT.sIx, cutD, Option.isSome_some, if_true, if_false, ite_true, ite_false, Bool.false_eq_true, decide_eq_true_eq, Bool.not_true, Bool.not_false, true_and, and_true, ofS_inj, String.reduceEq, reduceIte, decide_true, decide_false, Int.reduceAdd, Nat.reduceLeDiff, Nat.reduceAdd, Nat.zero_add, Nat.le_refl, Nat.zero_le, e]
      exact this
  · generalize Sd cs a = S at *
    simp [wSeq, wIf, wTV, wAnd, wOr, wNot, wAndV, wOrV, wNotV, wIfE, wRd, wCons, wNil, woVar, woE, wVar, wMove, wC, wvCons, wvNil, wTup, wLst, wNext, wRet, wRetN, wDrop, wBrk, wCt, wAsg, wgN, wgNil, wgCons, wgT, wPar, wFor, wYes, wLc, wipeE, backE, wCall, wMeth, wDictNew, wgSub, wSlB, wZipL, wiSeq, wiR1, wiR2, wiStr, wiEnum, wiEnumS, bodyK, takeM, putM, msOf, M.fz, Res.m, M.seq, M.lseq, M.mseq, M.dict, isL, isK, gList, gTuple, gAppend, gGet2, gSetd, setD, gEq, gNe, eqD_ss, eqD_ii, eqD_bb, gIn, gNi, gZip, gAll, gAny, gMul, gInt, cPos, cDiv, cMul, gAdd, slD, sliceF, D.key, List.length_cons, List.length_nil, List.getElem?_cons_succ, List.getElem?_cons_zero, List.getElem?_nil, List.set_cons_succ, List.set_cons_zero, List.getD_cons_succ, List.getD_cons_zero, Option.bind_some, Option.map_some, Option.map_none, Option.bind_none, ixN, atI, HT.sIx, cutD, Option.isSome_some, if_true, if_false, ite_true, ite_false, Bool.false_eq_true, decide_eq_true_eq, Bool.not_true, Bool.not_false, true_and, and_true, ofS_inj, String.reduceEq, reduceIte, decide_true, decide_false, Int.reduceAdd, Nat.reduceLeDiff, Nat.reduceAdd, Nat.zero_add, Nat.le_refl, Nat.zero_le, w_L_leaf_s5, hr]
    exact h2
theorem hw_L_leaf : ∀ ms C CX, ms.length = 3 → sp__law_leaf ms C CX → w_L_leaf sp__law_next (env0 N_L_leaf ms) (bodyK pr_L_leaf 3 C) (fun x e => CX x (outs pr_L_leaf 3 e)) := by
  intro ms C CX _ h
  obtain ⟨cs, a, ns, hs, rfl, hn, ha, ha2, h⟩ := h
  unfold w_L_leaf
  rw [e_L_leaf]
  simp only [wSeq]
  refine lf_s1 ha (by omega) fun r r0 r1 => ?_
  refine lf_s3 (by omega) (by omega) (fun x => ?_) fun h2 => ?_
  · have e : a + 1 + 2 = a + 3 := by omega
    rw [e]
    exact h x (a + 3) (by omega) (by omega)
  refine lf_s5 (X := fun x e => CX x (outs pr_L_leaf 3 e)) (by omega) (by omega) (fun m => ?_) ?_
  · exact h (.hed m) (a + 1 + 1) (by omega) (by omega)
  refine lf_s6 (X := fun x e => CX x (outs pr_L_leaf 3 e)) hn (by omega) (by omega) fun m => ?_
  exact h (.nam m) (a + 1 + 1) (by omega) (by omega)
end BV

namespace BV
open PySem L2 PyProof.Rows
variable {ns hs : List Nm} {cs : List Int} {C : KS} {X : KX} {x1 x2 x3 x4 x5 : Option M} {r : Int}
theorem lf_pat {Cc : List D → Env → Prop} : ∀ (l : List D) (acc : List Nm) (a : Int), (∀ d ∈ l, ∃ j : Int, d = .int j ∧ 0 ≤ j ∧ j < 100) → acc.length + l.length ≤ 10 → 0 ≤ a → a + l.length < 1000000000000 →
    (∀ ks : List Nm, ks.length = acc.length + l.length → Cc (strN ks) [some (Sd cs (a + l.length)), x1, x2, x3, x4, x5, none]) →
    wLcL [6] w_L_pattern_g1 wYes (w_L_pattern_e1 sp__law_name sp__law_next) Cc l (strN acc) [some (Sd cs a), x1, x2, x3, x4, x5, none] := by
  intro l
  induction l with
  | nil =>
    intro acc a _ _ ha _ h
    have := h acc (by simp)
    simp at this
    exact this
  | cons d l ih =>
    intro acc a hl hn ha hb h
    obtain ⟨j, rfl, j0, j1⟩ := hl d (by simp)
    have hacc : (strN acc).length < 100000 := by simp [strN]; simp at hn; omega
    have hb' : a + ((l.length : Int) + 1) < 1000000000000 := by simpa using hb
    have c4 : (-18446744073709551616 < (4 : Int) ∧ (4 : Int) < 18446744073709551616) := by decide
    obtain ⟨ks', vs', hS⟩ := SdM cs a
    rw [hS]
    simp [wLcL, w_L_pattern_g1, wSeq, wIf, wTV, wAnd, wOr, wNot, wAndV, wOrV, wNotV, wIfE, wRd, wCons, wNil, woVar, woE, wVar, wMove, wC, wvCons, wvNil, wTup, wLst, wNext, wRet, wRetN, wDrop, wBrk, wCt, wAsg, wgN, wgNil, wgCons, wgT, wPar, wFor, wYes, wLc, wipeE, backE, wCall, wMeth, wDictNew, wgSub, wSlB, wZipL, wiSeq, wiR1, wiR2, wiStr, wiEnum, wiEnumS, bodyK, takeM, putM, msOf, M.fz, Res.m, M.seq, M.lseq, M.mseq, M.dict, isL, isK, gList, gTuple, gAppend, gGet2, gSetd, setD, gEq, gNe, eqD_ss, eqD_ii, eqD_bb, gIn, gNi, gZip, gAll, gAny, gMul, gInt, cPos, cDiv, cMul, gAdd, slD, sliceF, D.key, List.length_cons, List.length_nil, List.getElem?_cons_succ, List.getElem?_cons_zero, List.getElem?_nil, List.set_cons_succ, List.set_cons_zero, List.getD_cons_succ, List.getD_cons_zero, Option.bind_some, Option.map_some, Option.map_none, Option.bind_none, ixN, atI, HT.sIx, cutD, Option.isSome_some, if_true, if_false, ite_true, ite_false, Bool.false_eq_true, decide_eq_true_eq, Bool.not_true, Bool.not_false, true_and, and_true, ofS_inj, String.reduceEq, reduceIte, decide_true, decide_false, Int.reduceAdd, Nat.reduceLeDiff, Nat.reduceAdd, Nat.zero_add, Nat.le_refl, Nat.zero_le, w_L_pattern_e1]
    rw [← hS]
    refine ⟨cs, a, 4, rfl, by decide, ha, by omega, fun q q0 q1 o2 => ?_⟩
    obtain ⟨ks', vs', hS2⟩ := SdM cs (a + 1)
    rw [hS2]
    simp [wSeq, wIf, wTV, wAnd, wOr, wNot, wAndV, wOrV, wNotV, wIfE, wRd, wCons, wNil, woVar, woE, wVar, wMove, wC, wvCons, wvNil, wTup, wLst, wNext, wRet, wRetN, wDrop, wBrk, wCt, wAsg, wgN, wgNil, wgCons, wgT, wPar, wFor, wYes, wLc, wipeE, backE, wCall, wMeth, wDictNew, wgSub, wSlB, wZipL, wiSeq, wiR1, wiR2, wiStr, wiEnum, wiEnumS, bodyK, takeM, putM, msOf, M.fz, Res.m, M.seq, M.lseq, M.mseq, M.dict, isL, isK, gList, gTuple, gAppend, gGet2, gSetd, setD, gEq, gNe, eqD_ss, eqD_ii, eqD_bb, gIn, gNi, gZip, gAll, gAny, gMul, gInt, cPos, cDiv, cMul, gAdd, slD, sliceF, D.key, List.length_cons, List.length_nil, List.getElem?_cons_succ, List.getElem?_cons_zero, List.getElem?_nil, List.set_cons_succ, List.set_cons_zero, List.getD_cons_succ, List.getD_cons_zero, Option.bind_some, Option.map_some, Option.map_none, Option.bind_none, ixN, atI, HT.sIx, cutD, Option.isSome_some, if_true, if_false, ite_true, ite_false, Bool.false_eq_true, decide_eq_true_eq, Bool.not_true, Bool.not_false, true_and, and_true, ofS_inj, String.reduceEq, reduceIte, decide_true, decide_false, Int.reduceAdd, Nat.reduceLeDiff, Nat.reduceAdd, Nat.zero_add, Nat.le_refl, Nat.zero_le]
    rw [← hS2]
    refine ⟨cs, a + 1, 4 + 4 * j + q, rfl, by omega, by omega, fun s hs o2 => ?_⟩
    have e2 : strN acc ++ [.str s.1] = strN (acc ++ [s]) := by simp [strN]
    have := ih (acc ++ [s]) (a + 1) (fun d hd => hl d (by simp [hd])) (by simp at hn ⊢; omega) (by omega) (by omega) (fun ks hk => by
      have := h ks (by simp at hk ⊢; omega)
      have e : a + (((D.int j :: l).length : Nat) : Int) = a + 1 + l.length := by simp; omega
      rw [e] at this
      exact this)
    rw [← e2] at this
    generalize Sd cs (a + 1) = S at *
    simp [wSeq, wIf, wTV, wAnd, wOr, wNot, wAndV, wOrV, wNotV, wIfE, wRd, wCons, wNil, woVar, woE, wVar, wMove, wC, wvCons, wvNil, wTup, wLst, wNext, wRet, wRetN, wDrop, wBrk, wCt, wAsg, wgN, wgNil, wgCons, wgT, wPar, wFor, wYes, wLc, wipeE, backE, wCall, wMeth, wDictNew, wgSub, wSlB, wZipL, wiSeq, wiR1, wiR2, wiStr, wiEnum, wiEnumS, bodyK, takeM, putM, msOf, M.fz, Res.m, M.seq, M.lseq, M.mseq, M.dict, isL, isK, gList, gTuple, gAppend, gGet2, gSetd, setD, gEq, gNe, eqD_ss, eqD_ii, eqD_bb, gIn, gNi, gZip, gAll, gAny, gMul, gInt, cPos, cDiv, cMul, gAdd, slD, sliceF, D.key, List.length_cons, List.length_nil, List.getElem?_cons_succ, List.getElem?_cons_zero, List.getElem?_nil, List.set_cons_succ, List.set_cons_zero, List.getD_cons_succ, List.getD_cons_zero, Option.bind_some, Option.map_some, Option.map_none, Option.bind_none, ixN, atI, HT.sIx, cutD, Option.isSome_some, if_true, if_false, ite_true, ite_false, Bool.false_eq_true, decide_eq_true_eq, Bool.not_true, Bool.not_false, true_and, and_true, ofS_inj, String.reduceEq, reduceIte, decide_true, decide_false, Int.reduceAdd, Nat.reduceLeDiff, Nat.reduceAdd, Nat.zero_add, Nat.le_refl, Nat.zero_le, hacc]
    exact this
end BV

namespace BV
open PySem L2 PyProof.Rows
def sp__law_pattern : WF := fun ms C CX => ∃ (cs : List Int) (a : Int) (hs : List Nm), ms = [Sd cs a, .l (strN hs)] ∧ 0 ≤ a ∧ a + 10 < 1000000000000 ∧ ∀ (p : Pt) (a' : Int), a ≤ a' → a' ≤ a + 6 → C (.p p.1) [some (Sd cs a'), some (.l (strN hs))]
variable {hs : List Nm} {cs : List Int} {C : KS} {X : KX} {x1 x2 x3 x4 x5 : Option M} {r a : Int}
theorem pat_s1 (ha : 0 ≤ a) (ha2 : a + 3 < 1000000000000) (h : ∀ s t u : Nm, C.nx [some (Sd cs (a + 3)), x1, x2, some (.p (.str s.1)), some (.p (.str t.1)), some (.p (.str u.1)), none]) : w_L_pattern_s1 sp__law_name sp__law_next [some (Sd cs a), x1, x2, x3, x4, x5, none] C X := by
  have e : rangeD 0 3 = [.int 0, .int 1, .int 2] := rfl
  have hr : (rangeD 0 3).length = 3 := rfl
  obtain ⟨ks', vs', hS⟩ := SdM cs a
  rw [hS]
  simp [wSeq, wIf, wTV, wAnd, wOr, wNot, wAndV, wOrV, wNotV, wIfE, wRd, wCons, wNil, woVar, woE, wVar, wMove, wC, wvCons, wvNil, wTup, wLst, wNext, wRet, wRetN, wDrop, wBrk, wCt, wAsg, wgN, wgNil, wgCons, wgT, wPar, wFor, wYes, wLc, wipeE, backE, wCall, wMeth, wDictNew, wgSub, wSlB, wZipL, wiSeq, wiR1, wiR2, wiStr, wiEnum, wiEnumS, bodyK, takeM, putM, msOf, M.fz, Res.m, M.seq, M.lseq, M.mseq, M.dict, isL, isK, gList, gTuple, gAppend, gGet2, gSetd, setD, gEq, gNe, eqD_ss, eqD_ii, eqD_bb, gIn, gNi, gZip, gAll, gAny, gMul, gInt, cPos, cDiv, cMul, gAdd, slD, sliceF, D.key, List.length_cons, List.length_nil, List.getElem?_cons_succ, List.getElem?_cons_zero, List.getElem?_nil, List.set_cons_succ, List.set_cons_zero, List.getD_cons_succ, List.getD_cons_zero, Option.bind_some, Option.map_some, Option.map_none, Option.bind_none, ixN, atI, HT.sIx, cutD, Option.isSome_some, if_true, if_false, ite_true, ite_false, Bool.false_eq_true, decide_eq_true_eq, Bool.not_true, Bool.not_false, true_and, and_true, ofS_inj, String.reduceEq, reduceIte, decide_true, decide_false, Int.reduceAdd, Nat.reduceLeDiff, Nat.reduceAdd, Nat.zero_add, Nat.le_refl, Nat.zero_le, w_L_pattern_s1]
  rw [← hS]
  refine lf_pat (rangeD 0 3) [] a (fun d hd => ?_) (by rw [hr]; decide) ha (by rw [hr]; omega) fun ks hk => ?_
  · rw [e] at hd
    simp at hd
    rcases hd with rfl | rfl | rfl
    · exact ⟨0, rfl, by decide, by decide⟩
    · exact ⟨1, rfl, by decide, by decide⟩
    · exact ⟨2, rfl, by decide, by decide⟩
  · rw [hr] at hk ⊢
    match ks, hk with
    | [s, t, u], _ =>
      have := h s t u
      have e3 : a + ((3 : Nat) : Int) = a + 3 := rfl
      rw [e3]
      generalize Sd cs (a + 3) = S at *
      simp [wSeq, wIf, wTV, wAnd, wOr, wNot, wAndV, wOrV, wNotV, wIfE, wRd, wCons, wNil, woVar, woE, wVar, wMove, wC, wvCons, wvNil, wTup, wLst, wNext, wRet, wRetN, wDrop, wBrk, wCt, wAsg, wgN, wgNil, wgCons, wgT, wPar, wFor, wYes, wLc, wipeE, backE, wCall, wMeth, wDictNew, wgSub, wSlB, wZipL, wiSeq, wiR1, wiR2, wiStr, wiEnum, wiEnumS, bodyK, takeM, putM, msOf, M.fz, Res.m, M.seq, M.lseq, M.mseq, M.dict, isL, isK, gList, gTuple, gAppend, gGet2, gSetd, setD, gEq, gNe, eqD_ss, eqD_ii, eqD_bb, gIn, gNi, gZip, gAll, gAny, gMul, gInt, cPos, cDiv, cMul, gAdd, slD, sliceF, D.key, List.length_cons, List.length_nil, List.getElem?_cons_succ, List.getElem?_cons_zero, List.getElem?_nil, List.set_cons_succ, List.set_cons_zero, List.getD_cons_succ, List.getD_cons_zero, Option.bind_some, Option.map_some, Option.map_none, Option.bind_none, ixN, atI, HT.sIx, cutD, Option.isSome_some, if_true, if_false, ite_true, ite_false, Bool.false_eq_true, decide_eq_true_eq, Bool.not_true, Bool.not_false, true_and, and_true, ofS_inj, String.reduceEq, reduceIte, decide_true, decide_false, Int.reduceAdd, Nat.reduceLeDiff, Nat.reduceAdd, Nat.zero_add, Nat.le_refl, Nat.zero_le, wgU, strN]
      exact this
end BV

namespace BV
open PySem L2 PyProof.Rows
variable {hs : List Nm} {cs : List Int} {C : KS} {X : KX} {x1 x2 x3 x4 x5 x6 : Option M} {r a : Int}
theorem pat_s2 (ha : 0 ≤ a) (ha2 : a < 1000000000000) (h : ∀ r : Int, 0 ≤ r → r < 4 → C.nx [some (Sd cs (a + 1)), x1, some (.p (.int r)), x3, x4, x5, x6]) : w_L_pattern_s2 sp__law_next [some (Sd cs a), x1, x2, x3, x4, x5, x6] C X := by
  obtain ⟨ks, vs, hS⟩ := SdM cs a
  rw [hS]
  simp [wSeq, wIf, wTV, wAnd, wOr, wNot, wAndV, wOrV, wNotV, wIfE, wRd, wCons, wNil, woVar, woE, wVar, wMove, wC, wvCons, wvNil, wTup, wLst, wNext, wRet, wRetN, wDrop, wBrk, wCt, wAsg, wgN, wgNil, wgCons, wgT, wPar, wFor, wYes, wLc, wipeE, backE, wCall, wMeth, wDictNew, wgSub, wSlB, wZipL, wiSeq, wiR1, wiR2, wiStr, wiEnum, wiEnumS, bodyK, takeM, putM, msOf, M.fz, Res.m, M.seq, M.lseq, M.mseq, M.dict, isL, isK, gList, gTuple, gAppend, gGet2, gSetd, setD, gEq, gNe, eqD_ss, eqD_ii, eqD_bb, gIn, gNi, gZip, gAll, gAny, gMul, gInt, cPos, cDiv, cMul, gAdd, slD, sliceF, D.key, List.length_cons, List.length_nil, List.getElem?_cons_succ, List.getElem?_cons_zero, List.getElem?_nil, List.set_cons_succ, List.set_cons_zero, List.getD_cons_succ, List.getD_cons_zero, Option.bind_some, Option.map_some, Option.map_none, Option.bind_none, ixN, atI, HT.sIx, cutD, Option.isSome_some, if_true, if_false, ite_true, ite_false, Bool.false_eq_true, decide_eq_true_eq, Bool.not_true, Bool.not_false, true_and, and_true, ofS_inj, String.reduceEq, reduceIte, decide_true, decide_false, Int.reduceAdd, Nat.reduceLeDiff, Nat.reduceAdd, Nat.zero_add, Nat.le_refl, Nat.zero_le, w_L_pattern_s2]
  rw [← hS]
  refine ⟨cs, a, 4, rfl, by decide, ha, ha2, fun r r0 r1 o2 => ?_⟩
  have := h r r0 r1
  generalize Sd cs (a + 1) = S at *
  simp [wSeq, wIf, wTV, wAnd, wOr, wNot, wAndV, wOrV, wNotV, wIfE, wRd, wCons, wNil, woVar, woE, wVar, wMove, wC, wvCons, wvNil, wTup, wLst, wNext, wRet, wRetN, wDrop, wBrk, wCt, wAsg, wgN, wgNil, wgCons, wgT, wPar, wFor, wYes, wLc, wipeE, backE, wCall, wMeth, wDictNew, wgSub, wSlB, wZipL, wiSeq, wiR1, wiR2, wiStr, wiEnum, wiEnumS, bodyK, takeM, putM, msOf, M.fz, Res.m, M.seq, M.lseq, M.mseq, M.dict, isL, isK, gList, gTuple, gAppend, gGet2, gSetd, setD, gEq, gNe, eqD_ss, eqD_ii, eqD_bb, gIn, gNi, gZip, gAll, gAny, gMul, gInt, cPos, cDiv, cMul, gAdd, slD, sliceF, D.key, List.length_cons, List.length_nil, List.getElem?_cons_succ, List.getElem?_cons_zero, List.getElem?_nil, List.set_cons_succ, List.set_cons_zero, List.getD_cons_succ, List.getD_cons_zero, Option.bind_some, Option.map_some, Option.map_none, Option.bind_none, ixN, atI, HT.sIx, cutD, Option.isSome_some, if_true, if_false, ite_true, ite_false, Bool.false_eq_true, decide_eq_true_eq, Bool.not_true, Bool.not_false, true_and, and_true, ofS_inj, String.reduceEq, reduceIte, decide_true, decide_false, Int.reduceAdd, Nat.reduceLeDiff, Nat.reduceAdd, Nat.zero_add, Nat.le_refl, Nat.zero_le]
  exact this
theorem pyn_names (l : List Nm) : Pyn 1 (.tup (strN l)) := pyn_t (n := 0) (fun y hy => by
  obtain ⟨m, _, rfl⟩ := List.mem_map.mp hy
  exact pyn_str m.2 _) rfl
theorem pat_head (s : Nm) (l : List Nm) : Pyn 2 (.tup [.str "head", .str s.1, .tup (strN l)]) := pyn_t (n := 1) (by
  intro y hy
  simp at hy
  rcases hy with rfl | rfl | rfl
  · exact pyn_lit _ _
  · exact pyn_str s.2 _
  · exact pyn_names l) rfl
theorem pat_empty : Pyn 2 (.tup [.str "empty"]) := (pyn_t (n := 0) (by intro y hy; simp at hy; subst hy; exact pyn_lit _ _) rfl).mono (by decide)
theorem pat_more (s t : Nm) : Pyn 2 (.tup [.str "more", .str s.1, .str t.1]) := (pyn_t (n := 0) (by intro y hy; simp at hy; rcases hy with rfl | rfl | rfl; exact pyn_lit _ _; exact pyn_str s.2 _; exact pyn_str t.2 _) rfl).mono (by decide)
theorem pat_both (s t : Nm) : Pyn 2 (.tup [.str "both", .str s.1, .str t.1]) := (pyn_t (n := 0) (by intro y hy; simp at hy; rcases hy with rfl | rfl | rfl; exact pyn_lit _ _; exact pyn_str s.2 _; exact pyn_str t.2 _) rfl).mono (by decide)
theorem pat_s5 {s t : Nm} (r0 : 0 ≤ r) (r1 : r < 4) (h : ∀ p : Pt, C.rt (.p p.1) [some (Sd cs a), x1, some (.p (.int r)), some (.p (.str s.1)), some (.p (.str t.1)), x5, x6]) : w_L_pattern_s5 [some (Sd cs a), x1, some (.p (.int r)), some (.p (.str s.1)), some (.p (.str t.1)), x5, x6] C X := by
  have h0 := h ⟨_, pat_empty⟩
  have h1 := h ⟨_, pat_more s t⟩
  have h2 := h ⟨_, pat_both s t⟩
  have r4 : r = 0 ∨ r = 1 ∨ r = 2 ∨ r = 3 := by omega
  generalize Sd cs a = S at *
  rcases r4 with rfl | rfl | rfl | rfl
  · simp [wSeq, wIf, wTV, wAnd, wOr, wNot, wAndV, wOrV, wNotV, wIfE, wRd, wCons, wNil, woVar, woE, wVar, wMove, wC, wvCons, wvNil, wTup, wLst, wNext, wRet, wRetN, wDrop, wBrk, wCt, wAsg, wgN, wgNil, wgCons, wgT, wPar, wFor, wYes, wLc, wipeE, backE, wCall, wMeth, wDictNew, wgSub, wSlB, wZipL, wiSeq, wiR1, wiR2, wiStr, wiEnum, wiEnumS, bodyK, takeM, putM, msOf, M.fz, Res.m, M.seq, M.lseq, M.mseq, M.dict, isL, isK, gList, gTuple, gAppend, gGet2, gSetd, setD, gEq, gNe, eqD_ss, eqD_ii, eqD_bb, gIn, gNi, gZip, gAll, gAny, gMul, gInt, cPos, cDiv, cMul, gAdd, slD, sliceF, D.key, List.length_cons, List.length_nil, List.getElem?_cons_succ, List.getElem?_cons_zero, List.getElem?_nil, List.set_cons_succ, List.set_cons_zero, List.getD_cons_succ, List.getD_cons_zero, Option.bind_some, Option.map_some, Option.map_none, Option.bind_none, ixN, atI, HT.sIx, cutD, Option.isSome_some, if_true, if_false, ite_true, ite_false, Bool.false_eq_true, decide_eq_true_eq, Bool.not_true, Bool.not_false, true_and, and_true, ofS_inj, String.reduceEq, reduceIte, decide_true, decide_false, Int.reduceAdd, Nat.reduceLeDiff, Nat.reduceAdd, Nat.zero_add, Nat.le_refl, Nat.zero_le, w_L_pattern_s5, gIx]; exact h0
  · simp [wSeq, wIf, wTV, wAnd, wOr, wNot, wAndV, wOrV, wNotV, wIfE, wRd, wCons, wNil, woVar, woE, wVar, wMove, wC, wvCons, wvNil, wTup, wLst, wNext, wRet, wRetN, wDrop, wBrk, wCt, wAsg, wgN, wgNil, wgCons, wgT, wPar, wFor, wYes, wLc, wipeE, backE, wCall, wMeth, wDictNew, wgSub, wSlB, wZipL, wiSeq, wiR1, wiR2, wiStr, wiEnum, wiEnumS, bodyK, takeM, putM, msOf, M.fz, Res.m, M.seq, M.lseq, M.mseq, M.dict, isL, isK, gList, gTuple, gAppend, gGet2, gSetd, setD, gEq, gNe, eqD_ss, eqD_ii, eqD_bb, gIn, gNi, gZip, gAll, gAny, gMul, gInt, cPos, cDiv, cMul, gAdd, slD, sliceF, D.key, List.length_cons, List.length_nil, List.getElem?_cons_succ, List.getElem?_cons_zero, List.getElem?_nil, List.set_cons_succ, List.set_cons_zero, List.getD_cons_succ, List.getD_cons_zero, Option.bind_some, Option.map_some, Option.map_none, Option.bind_none, ixN, atI, HT.sIx, cutD, Option.isSome_some, if_true, if_false, ite_true, ite_false, Bool.false_eq_true, decide_eq_true_eq, Bool.not_true, Bool.not_false, true_and, and_true, ofS_inj, String.reduceEq, reduceIte, decide_true, decide_false, Int.reduceAdd, Nat.reduceLeDiff, Nat.reduceAdd, Nat.zero_add, Nat.le_refl, Nat.zero_le, w_L_pattern_s5, gIx]; exact h1
  · simp [wSeq, wIf, wTV, wAnd, wOr, wNot, wAndV, wOrV, wNotV, wIfE, wRd, wCons, wNil, woVar, woE, wVar, wMove, wC, wvCons, wvNil, wTup, wLst, wNext, wRet, wRetN, wDrop, wBrk, wCt, wAsg, wgN, wgNil, wgCons, wgT, wPar, wFor, wYes, wLc, wipeE, backE, wCall, wMeth, wDictNew, wgSub, wSlB, wZipL, wiSeq, wiR1, wiR2, wiStr, wiEnum, wiEnumS, bodyK, takeM, putM, msOf, M.fz, Res.m, M.seq, M.lseq, M.mseq, M.dict, isL, isK, gList, gTuple, gAppend, gGet2, gSetd, setD, gEq, gNe, eqD_ss, eqD_ii, eqD_bb, gIn, gNi, gZip, gAll, gAny, gMul, gInt, cPos, cDiv, cMul, gAdd, slD, sliceF, D.key, List.length_cons, List.length_nil, List.getElem?_cons_succ, List.getElem?_cons_zero, List.getElem?_nil, List.set_cons_succ, List.set_cons_zero, List.getD_cons_succ, List.getD_cons_zero, Option.bind_some, Option.map_some, Option.map_none, Option.bind_none, ixN, atI, HT.sIx, cutD, Option.isSome_some, if_true, if_false, ite_true, ite_false, Bool.false_eq_true, decide_eq_true_eq, Bool.not_true, Bool.not_false, true_and, and_true, ofS_inj, String.reduceEq, reduceIte, decide_true, decide_false, Int.reduceAdd, Nat.reduceLeDiff, Nat.reduceAdd, Nat.zero_add, Nat.le_refl, Nat.zero_le, w_L_pattern_s5, gIx]; exact h2
  · simp [wSeq, wIf, wTV, wAnd, wOr, wNot, wAndV, wOrV, wNotV, wIfE, wRd, wCons, wNil, woVar, woE, wVar, wMove, wC, wvCons, wvNil, wTup, wLst, wNext, wRet, wRetN, wDrop, wBrk, wCt, wAsg, wgN, wgNil, wgCons, wgT, wPar, wFor, wYes, wLc, wipeE, backE, wCall, wMeth, wDictNew, wgSub, wSlB, wZipL, wiSeq, wiR1, wiR2, wiStr, wiEnum, wiEnumS, bodyK, takeM, putM, msOf, M.fz, Res.m, M.seq, M.lseq, M.mseq, M.dict, isL, isK, gList, gTuple, gAppend, gGet2, gSetd, setD, gEq, gNe, eqD_ss, eqD_ii, eqD_bb, gIn, gNi, gZip, gAll, gAny, gMul, gInt, cPos, cDiv, cMul, gAdd, slD, sliceF, D.key, List.length_cons, List.length_nil, List.getElem?_cons_succ, List.getElem?_cons_zero, List.getElem?_nil, List.set_cons_succ, List.set_cons_zero, List.getD_cons_succ, List.getD_cons_zero, Option.bind_some, Option.map_some, Option.map_none, Option.bind_none, ixN, atI, HT.sIx, cutD, Option.isSome_some, if_true, if_false, ite_true, ite_false, Bool.false_eq_true, decide_eq_true_eq, Bool.not_true, Bool.not_false, true_and, and_true, ofS_inj, String.reduceEq, reduceIte, decide_true, decide_false, Int.reduceAdd, Nat.reduceLeDiff, Nat.reduceAdd, Nat.zero_add, Nat.le_refl, Nat.zero_le, w_L_pattern_s5, gIx]; exact h0
end BV

namespace BV
open PySem L2 PyProof.Rows
variable {hs : List Nm} {cs : List Int} {C : KS} {X : KX} {x1 x2 x3 x4 x5 x6 : Option M} {r a : Int}
theorem pat_s4 {s t u : Nm} (ha : 0 ≤ a) (ha2 : a + 3 < 1000000000000) (h : ∀ p : Pt, C.rt (.p p.1) [some (Sd cs (a + 2)), some (.l (strN hs)), some (.p (.int r)), some (.p (.str s.1)), some (.p (.str t.1)), some (.p (.str u.1)), x6])
    (h2 : C.nx [some (Sd cs a), some (.l (strN hs)), some (.p (.int r)), some (.p (.str s.1)), some (.p (.str t.1)), some (.p (.str u.1)), x6]) :
    w_L_pattern_s4 sp__law_next [some (Sd cs a), some (.l (strN hs)), some (.p (.int r)), some (.p (.str s.1)), some (.p (.str t.1)), some (.p (.str u.1)), x6] C X := by
  obtain ⟨ks, vs, hS⟩ := SdM cs a
  have eqm := eq_strN hs
  by_cases hr : r = 3
  · subst hr
    cases hh : hs.isEmpty with
    | true =>
      rw [hh] at eqm
      generalize Sd cs a = S at *
      simp [wSeq, wIf, wTV, wAnd, wOr, wNot, wAndV, wOrV, wNotV, wIfE, wRd, wCons, wNil, woVar, woE, wVar, wMove, wC, wvCons, wvNil, wTup, wLst, wNext, wRet, wRetN, wDrop, wBrk, wCt, wAsg, wgN, wgNil, wgCons, wgT, wPar, wFor, wYes, wLc, wipeE, backE, wCall, wMeth, wDictNew, wgSub, wSlB, wZipL, wiSeq, wiR1, wiR2, wiStr, wiEnum, wiEnumS, bodyK, takeM, putM, msOf, M.fz, Res.m, M.seq, M.lseq, M.mseq, M.dict, isL, isK, gList, gTuple, gAppend, gGet2, gSetd, setD, gEq, gNe, eqD_ss, eqD_ii, eqD_bb, gIn, gNi, gZip, gAll, gAny, gMul, gInt, cPos, cDiv, cMul, gAdd, slD, sliceF, D.key, List.length_cons, List.length_nil, List.getElem?_cons_succ, List.getElem?_cons_zero, List.getElem?_nil, List.set_cons_succ, List.set_cons_zero, List.getD_cons_succ, List.getD_cons_zero, Option.bind_some, Option.map_some, Option.map_none, Option.bind_none, ixN, atI, HT.sIx, cutD, Option.isSome_some, if_true, if_false, ite_true, ite_false, Bool.false_eq_true, decide_eq_true_eq, Bool.not_true, Bool.not_false, true_and, and_true, ofS_inj, String.reduceEq, reduceIte, decide_true, decide_false, Int.reduceAdd, Nat.reduceLeDiff, Nat.reduceAdd, Nat.zero_add, Nat.le_refl, Nat.zero_le, w_L_pattern_s4, eqm]
      exact h2
    | false =>
      rw [hh] at eqm
      have hne : hs ≠ [] := by intro e; subst e; cases hh
      have hp : (0 : Int) < hs.length := by have := List.length_pos_iff.mpr hne; omega
      have hl : (strN hs).length = hs.length := by simp [strN]
      rw [hS]
      simp [wSeq, wIf, wTV, wAnd, wOr, wNot, wAndV, wOrV, wNotV, wIfE, wRd, wCons, wNil, woVar, woE, wVar, wMove, wC, wvCons, wvNil, wTup, wLst, wNext, wRet, wRetN, wDrop, wBrk, wCt, wAsg, wgN, wgNil, wgCons, wgT, wPar, wFor, wYes, wLc, wipeE, backE, wCall, wMeth, wDictNew, wgSub, wSlB, wZipL, wiSeq, wiR1, wiR2, wiStr, wiEnum, wiEnumS, bodyK, takeM, putM, msOf, M.fz, Res.m, M.seq, M.lseq, M.mseq, M.dict, isL, isK, gList, gTuple, gAppend, gGet2, gSetd, setD, gEq, gNe, eqD_ss, eqD_ii, eqD_bb, gIn, gNi, gZip, gAll, gAny, gMul, gInt, cPos, cDiv, cMul, gAdd, slD, sliceF, D.key, List.length_cons, List.length_nil, List.getElem?_cons_succ, List.getElem?_cons_zero, List.getElem?_nil, List.set_cons_succ, List.set_cons_zero, List.getD_cons_succ, List.getD_cons_zero, Option.bind_some, Option.map_some, Option.map_none, Option.bind_none, ixN, atI, HT.sIx, cutD, Option.isSome_some, if_true, if_false, ite_true, ite_false, Bool.false_eq_true, decide_eq_true_eq, Bool.not_true, Bool.not_false, true_and, and_true, ofS_inj, String.reduceEq, reduceIte, decide_true, decide_false, Int.reduceAdd, Nat.reduceLeDiff, Nat.reduceAdd, Nat.zero_add, Nat.le_refl, Nat.zero_le, w_L_pattern_s4, eqm]
      simp [wSeq, wIf, wTV, wAnd, wOr, wNot, wAndV, wOrV, wNotV, wIfE, wRd, wCons, wNil, woVar, woE, wVar, wMove, wC, wvCons, wvNil, wTup, wLst, wNext, wRet, wRetN, wDrop, wBrk, wCt, wAsg, wgN, wgNil, wgCons, wgT, wPar, wFor, wYes, wLc, wipeE, backE, wCall, wMeth, wDictNew, wgSub, wSlB, wZipL, wiSeq, wiR1, wiR2, wiStr, wiEnum, wiEnumS, bodyK, takeM, putM, msOf, M.fz, Res.m, M.seq, M.lseq, M.mseq, M.dict, isL, isK, gList, gTuple, gAppend, gGet2, gSetd, setD, gEq, gNe, eqD_ss, eqD_ii, eqD_bb, gIn, gNi, gZip, gAll, gAny, gMul, gInt, cPos, cDiv, cMul, gAdd, slD, sliceF, D.key, List.length_cons, List.length_nil, List.getElem?_cons_succ, List.getElem?_cons_zero, List.getElem?_nil, List.set_cons_succ, List.set_cons_zero, List.getD_cons_succ, List.getD_cons_zero, Option.bind_some, Option.map_some, Option.map_none, Option.bind_none, ixN, atI, HT.sIx, cutD, Option.isSome_some, if_true, if_false, ite_true, ite_false, Bool.false_eq_true, decide_eq_true_eq, Bool.not_true, Bool.not_false, true_and, and_true, ofS_inj, String.reduceEq, reduceIte, decide_true, decide_false, Int.reduceAdd, Nat.reduceLeDiff, Nat.reduceAdd, Nat.zero_add, Nat.le_refl, Nat.zero_le, w_L_pattern_s3, gLen, hl]
      rw [← hS]
      refine ⟨cs, a, hs.length, rfl, hp, ha, by omega, fun q q0 q1 o2 => ?_⟩
      obtain ⟨k, hk, e⟩ := gIx_nms q0 q1
      obtain ⟨ks, vs, hS2⟩ := SdM cs (a + 1)
      rw [hS2]
      simp [wSeq, wIf, wTV, wAnd, wOr, wNot, wAndV, wOrV, wNotV, wIfE, wRd, wCons, wNil, woVar, woE, wVar, wMove, wC, wvCons, wvNil, wTup, wLst, wNext, wRet, wRetN, wDrop, wBrk, wCt, wAsg, wgN, wgNil, wgCons, wgT, wPar, wFor, wYes, wLc, wipeE, backE, wCall, wMeth, wDictNew, wgSub, wSlB, wZipL, wiSeq, wiR1, wiR2, wiStr, wiEnum, wiEnumS, bodyK, takeM, putM, msOf, M.fz, Res.m, M.seq, M.lseq, M.mseq, M.dict, isL, isK, gList, gTuple, gAppend, gGet2, gSetd, setD, gEq, gNe, eqD_ss, eqD_ii, eqD_bb, gIn, gNi, gZip, gAll, gAny, gMul, gInt, cPos, cDiv, cMul, gAdd, slD, sliceF, D.key, List.length_cons, List.length_nil, List.getElem?_cons_succ, List.getElem?_cons_zero, List.getElem?_nil, List.set_cons_succ, List.set_cons_zero, List.getD_cons_succ, List.getD_cons_zero, Option.bind_some, Option.map_some, Option.map_none, Option.bind_none, ixN, atI, HT.sIx, cutD, Option.isSome_some, if_true, if_false, ite_true, ite_false, Bool.false_eq_true, decide_eq_true_eq, Bool.not_true, Bool.not_false, true_and, and_true, ofS_inj, String.reduceEq, reduceIte, decide_true, decide_false, Int.reduceAdd, Nat.reduceLeDiff, Nat.reduceAdd, Nat.zero_add, Nat.le_refl, Nat.zero_le, e]
      rw [← hS2]
      refine ⟨cs, a + 1, 4, rfl, by decide, by omega, by omega, fun i i0 i1 o2 => ?_⟩
      have e2 : a + 1 + 1 = a + 2 := by omega
      rw [e2]
      have g0 := h ⟨_, pat_head k []⟩
      have g1 := h ⟨_, pat_head k [s]⟩
      have g2 := h ⟨_, pat_head k [s, t]⟩
      have g3 := h ⟨_, pat_head k [s, t, u]⟩
      simp only [strN, List.map_cons, List.map_nil] at g0 g1 g2 g3
      generalize Sd cs (a + 2) = S at *
      have i4 : i = 0 ∨ i = 1 ∨ i = 2 ∨ i = 3 := by omega
      rcases i4 with rfl | rfl | rfl | rfl
      · simp [wSeq, wIf, wTV, wAnd, wOr, wNot, wAndV, wOrV, wNotV, wIfE, wRd, wCons, wNil, woVar, woE, wVar, wMove, wC, wvCons, wvNil, wTup, wLst, wNext, wRet, wRetN, wDrop, wBrk, wCt, wAsg, wgN, wgNil, wgCons, wgT, wPar, wFor, wYes, wLc, wipeE, backE, wCall, wMeth, wDictNew, wgSub, wSlB, wZipL, wiSeq, wiR1, wiR2, wiStr, wiEnum, wiEnumS, bodyK, takeM, putM, msOf, M.fz, Res.m, M.seq, M.lseq, M.mseq, M.dict, isL, isK, gList, gTuple, gAppend, gGet2, gSetd, setD, gEq, gNe, eqD_ss, eqD_ii, eqD_bb, gIn, gNi, gZip, gAll, gAny, gMul, gInt, cPos, cDiv, cMul, gAdd, slD, sliceF, D.key, List.length_cons, List.length_nil, List.getElem?_cons_succ, List.getElem?_cons_zero, List.getElem?_nil, List.set_cons_succ, List.set_cons_zero, List.getD_cons_succ, List.getD_cons_zero, Option.bind_some, Option.map_some, Option.map_none, Option.bind_none, ixN, atI, HT.sIx, cutD, Option.isSome_some, if_true, if_false, ite_true, ite_false, Bool.false_eq_true, decide_eq_true_eq, Bool.not_true, Bool.not_false, true_and, and_true, ofS_inj, String.reduceEq, reduceIte, decide_true, decide_false, Int.reduceAdd, Nat.reduceLeDiff, Nat.reduceAdd, Nat.zero_add, Nat.le_refl, Nat.zero_le]; exact g0
      · simp [wSeq, wIf, wTV, wAnd, wOr, wNot, wAndV, wOrV, wNotV, wIfE, wRd, wCons, wNil, woVar, woE, wVar, wMove, wC, wvCons, wvNil, wTup, wLst, wNext, wRet, wRetN, wDrop, wBrk, wCt, wAsg, wgN, wgNil, wgCons, wgT, wPar, wFor, wYes, wLc, wipeE, backE, wCall, wMeth, wDictNew, wgSub, wSlB, wZipL, wiSeq, wiR1, wiR2, wiStr, wiEnum, wiEnumS, bodyK, takeM, putM, msOf, M.fz, Res.m, M.seq, M.lseq, M.mseq, M.dict, isL, isK, gList, gTuple, gAppend, gGet2, gSetd, setD, gEq, gNe, eqD_ss, eqD_ii, eqD_bb, gIn, gNi, gZip, gAll, gAny, gMul, gInt, cPos, cDiv, cMul, gAdd, slD, sliceF, D.key, List.length_cons, List.length_nil, List.getElem?_cons_succ, List.getElem?_cons_zero, List.getElem?_nil, List.set_cons_succ, List.set_cons_zero, List.getD_cons_succ, List.getD_cons_zero, Option.bind_some, Option.map_some, Option.map_none, Option.bind_none, ixN, atI, HT.sIx, cutD, Option.isSome_some, if_true, if_false, ite_true, ite_false, Bool.false_eq_true, decide_eq_true_eq, Bool.not_true, Bool.not_false, true_and, and_true, ofS_inj, String.reduceEq, reduceIte, decide_true, decide_false, Int.reduceAdd, Nat.reduceLeDiff, Nat.reduceAdd, Nat.zero_add, Nat.le_refl, Nat.zero_le]; exact g1
      · simp [wSeq, wIf, wTV, wAnd, wOr, wNot, wAndV, wOrV, wNotV, wIfE, wRd, wCons, wNil, woVar, woE, wVar, wMove, wC, wvCons, wvNil, wTup, wLst, wNext, wRet, wRetN, wDrop, wBrk, wCt, wAsg, wgN, wgNil, wgCons, wgT, wPar, wFor, wYes, wLc, wipeE, backE, wCall, wMeth, wDictNew, wgSub, wSlB, wZipL, wiSeq, wiR1, wiR2, wiStr, wiEnum, wiEnumS, bodyK, takeM, putM, msOf, M.fz, Res.m, M.seq, M.lseq, M.mseq, M.dict, isL, isK, gList, gTuple, gAppend, gGet2, gSetd, setD, gEq, gNe, eqD_ss, eqD_ii, eqD_bb, gIn, gNi, gZip, gAll, gAny, gMul, gInt, cPos, cDiv, cMul, gAdd, slD, sliceF, D.key, List.length_cons, List.length_nil, List.getElem?_cons_succ, List.getElem?_cons_zero, List.getElem?_nil, List.set_cons_succ, List.set_cons_zero, List.getD_cons_succ, List.getD_cons_zero, Option.bind_some, Option.map_some, Option.map_none, Option.bind_none, ixN, atI, HT.sIx, cutD, Option.isSome_some, if_true, if_false, ite_true, ite_false, Bool.false_eq_true, decide_eq_true_eq, Bool.not_true, Bool.not_false, true_and, and_true, ofS_inj, String.reduceEq, reduceIte, decide_true, decide_false, Int.reduceAdd, Nat.reduceLeDiff, Nat.reduceAdd, Nat.zero_add, Nat.le_refl, Nat.zero_le]; exact g2
      · simp [wSeq, wIf, wTV, wAnd, wOr, wNot, wAndV, wOrV, wNotV, wIfE, wRd, wCons, wNil, woVar, woE, wVar, wMove, wC, wvCons, wvNil, wTup, wLst, wNext, wRet, wRetN, wDrop, wBrk, wCt, wAsg, wgN, wgNil, wgCons, wgT, wPar, wFor, wYes, wLc, wipeE, backE, wCall, wMeth, wDictNew, wgSub, wSlB, wZipL, wiSeq, wiR1, wiR2, wiStr, wiEnum, wiEnumS, bodyK, takeM, putM, msOf, M.fz, Res.m, M.seq, M.lseq, M.mseq, M.dict, isL, isK, gList, gTuple, gAppend, gGet2, gSetd, setD, gEq, gNe, eqD_ss, eqD_ii, eqD_bb, gIn, gNi, gZip, gAll, gAny, gMul, gInt, cPos, cDiv, cMul, gAdd, slD, sliceF, D.key, List.length_cons, List.length_nil, List.getElem?_cons_succ, List.getElem?_cons_zero, List.getElem?_nil, List.set_cons_succ, List.set_cons_zero, List.getD_cons_succ, List.getD_cons_zero, Option.bind_some, Option.map_some, Option.map_none, Option.bind_none, ixN, atI, HT.sIx, cutD, Option.isSome_some, if_true, if_false, ite_true, ite_false, Bool.false_eq_true, decide_eq_true_eq, Bool.not_true, Bool.not_false, true_and, and_true, ofS_inj, String.reduceEq, reduceIte, decide_true, decide_false, Int.reduceAdd, Nat.reduceLeDiff, Nat.reduceAdd, Nat.zero_add, Nat.le_refl, Nat.zero_le]; exact g3
  · generalize Sd cs a = S at *
    simp [wSeq, wIf, wTV, wAnd, wOr, wNot, wAndV, wOrV, wNotV, wIfE, wRd, wCons, wNil, woVar, woE, wVar, wMove, wC, wvCons, wvNil, wTup, wLst, wNext, wRet, wRetN, wDrop, wBrk, wCt, wAsg, wgN, wgNil, wgCons, wgT, wPar, wFor, wYes, wLc, wipeE, backE, wCall, wMeth, wDictNew, wgSub, wSlB, wZipL, wiSeq, wiR1, wiR2, wiStr, wiEnum, wiEnumS, bodyK, takeM, putM, msOf, M.fz, Res.m, M.seq, M.lseq, M.mseq, M.dict, isL, isK, gList, gTuple, gAppend, gGet2, gSetd, setD, gEq, gNe, eqD_ss, eqD_ii, eqD_bb, gIn, gNi, gZip, gAll, gAny, gMul, gInt, cPos, cDiv, cMul, gAdd, slD, sliceF, D.key, List.length_cons, List.length_nil, List.getElem?_cons_succ, List.getElem?_cons_zero, List.getElem?_nil, List.set_cons_succ, List.set_cons_zero, List.getD_cons_succ, List.getD_cons_zero, Option.bind_some, Option.map_some, Option.map_none, Option.bind_none, ixN, atI, HT.sIx, cutD, Option.isSome_some, if_true, if_false, ite_true, ite_false, Bool.false_eq_true, decide_eq_true_eq, Bool.not_true, Bool.not_false, true_and, and_true, ofS_inj, String.reduceEq, reduceIte, decide_true, decide_false, Int.reduceAdd, Nat.reduceLeDiff, Nat.reduceAdd, Nat.zero_add, Nat.le_refl, Nat.zero_le, w_L_pattern_s4, hr]
    exact h2
theorem hw_L_pattern : ∀ ms C CX, ms.length = 2 → sp__law_pattern ms C CX → w_L_pattern sp__law_name sp__law_next (env0 N_L_pattern ms) (bodyK pr_L_pattern 2 C) (fun x e => CX x (outs pr_L_pattern 2 e)) := by
  intro ms C CX _ h
  obtain ⟨cs, a, hs, rfl, ha, ha2, h⟩ := h
  unfold w_L_pattern
  rw [e_L_pattern]
  simp only [wSeq]
  refine pat_s1 ha (by omega) fun s t u => ?_
  refine pat_s2 (X := fun x e => CX x (outs pr_L_pattern 2 e)) (by omega) (by omega) fun r r0 r1 => ?_
  refine pat_s4 (X := fun x e => CX x (outs pr_L_pattern 2 e)) (by omega) (by omega) (fun p => h p (a + 3 + 1 + 2) (by omega) (by omega)) ?_
  exact pat_s5 (X := fun x e => CX x (outs pr_L_pattern 2 e)) r0 r1 fun p => h p (a + 3 + 1) (by omega) (by omega)
end BV

namespace BV
open PySem L2 PyProof.Rows
def TB (n : Nat) (t : Tt) : Prop := 2 * (paT t).length + 1 ≤ 3 ^ n ∧ htT t ≤ 3 * n
def sp__law_term (n : Nat) : WF := fun ms C CX => ∃ (cs : List Int) (a : Int) (ns hs : List Nm) (room deep : Int), ms = [Sd cs a, .l (strN ns), .l (strN hs), .p (.int room), .p (.int deep)] ∧ ns ≠ [] ∧ 1 ≤ deep ∧ deep ≤ n ∧ 0 ≤ room ∧ room ≤ 1000 ∧ 0 ≤ a ∧ a + 16 * 4 ^ n ≤ 100000000000 ∧
  ∀ (t : Tt) (a' : Int), TB n t → a ≤ a' → a' ≤ a + 16 * 4 ^ n → ∀ o4 o5, C (.p (enT t)) [some (Sd cs a'), some (.l (strN ns)), some (.l (strN hs)), o4, o5]
variable {ns hs : List Nm} {room deep r a : Int} {cs : List Int} {C : KS} {X : KX} {n : Nat} {x5 x6 x7 x8 x9 x10 x11 : Option M} {t u v : Tt}
theorem tm_s1 (ha : 0 ≤ a) (ha2 : a < 1000000000000) (h : ∀ r : Int, 0 ≤ r → r < 11 → C.nx [some (Sd cs (a + 1)), some (.l (strN ns)), some (.l (strN hs)), some (.p (.int room)), some (.p (.int deep)), some (.p (.int r)), x6, x7, x8, x9, x10, x11]) : w_L_term_s1 sp__law_next [some (Sd cs (a)), some (.l (strN ns)), some (.l (strN hs)), some (.p (.int room)), some (.p (.int deep)), x5, x6, x7, x8, x9, x10, x11] C X := by
  obtain ⟨ks, vs, hS⟩ := SdM cs a
  rw [hS]
  simp [wSeq, wIf, wTV, wAnd, wOr, wNot, wAndV, wOrV, wNotV, wIfE, wRd, wCons, wNil, woVar, woE, wVar, wMove, wC, wvCons, wvNil, wTup, wLst, wNext, wRet, wRetN, wDrop, wBrk, wCt, wAsg, wgN, wgNil, wgCons, wgT, wPar, wFor, wYes, wLc, wipeE, backE, wCall, wMeth, wDictNew, wgSub, wSlB, wZipL, wiSeq, wiR1, wiR2, wiStr, wiEnum, wiEnumS, bodyK, takeM, putM, msOf, M.fz, Res.m, M.seq, M.lseq, M.mseq, M.dict, isL, isK, gList, gTuple, gAppend, gGet2, gSetd, setD, gEq, gNe, eqD_ss, eqD_ii, eqD_bb, gIn, gNi, gZip, gAll, gAny, gMul, gInt, cPos, cDiv, cMul, gAdd, slD, sliceF, D.key, List.length_cons, List.length_nil, List.getElem?_cons_succ, List.getElem?_cons_zero, List.getElem?_nil, List.set_cons_succ, List.set_cons_zero, List.getD_cons_succ, List.getD_cons_zero, Option.bind_some, Option.map_some, Option.map_none, Option.bind_none, ixN, atI, HT.sIx, cutD, Option.isSome_some, if_true, if_false, ite_true, ite_false, Bool.false_eq_true, decide_eq_true_eq, Bool.not_true, Bool.not_false, true_and, and_true, ofS_inj, String.reduceEq, reduceIte, decide_true, decide_false, Int.reduceAdd, Nat.reduceLeDiff, Nat.reduceAdd, Nat.zero_add, Nat.le_refl, Nat.zero_le, w_L_term_s1]
  rw [← hS]
  refine ⟨cs, a, 11, rfl, by decide, ha, ha2, fun r r0 r1 o2 => ?_⟩
  have := h r r0 r1
  generalize Sd cs (a + 1) = S at *
  simp [wSeq, wIf, wTV, wAnd, wOr, wNot, wAndV, wOrV, wNotV, wIfE, wRd, wCons, wNil, woVar, woE, wVar, wMove, wC, wvCons, wvNil, wTup, wLst, wNext, wRet, wRetN, wDrop, wBrk, wCt, wAsg, wgN, wgNil, wgCons, wgT, wPar, wFor, wYes, wLc, wipeE, backE, wCall, wMeth, wDictNew, wgSub, wSlB, wZipL, wiSeq, wiR1, wiR2, wiStr, wiEnum, wiEnumS, bodyK, takeM, putM, msOf, M.fz, Res.m, M.seq, M.lseq, M.mseq, M.dict, isL, isK, gList, gTuple, gAppend, gGet2, gSetd, setD, gEq, gNe, eqD_ss, eqD_ii, eqD_bb, gIn, gNi, gZip, gAll, gAny, gMul, gInt, cPos, cDiv, cMul, gAdd, slD, sliceF, D.key, List.length_cons, List.length_nil, List.getElem?_cons_succ, List.getElem?_cons_zero, List.getElem?_nil, List.set_cons_succ, List.set_cons_zero, List.getD_cons_succ, List.getD_cons_zero, Option.bind_some, Option.map_some, Option.map_none, Option.bind_none, ixN, atI, HT.sIx, cutD, Option.isSome_some, if_true, if_false, ite_true, ite_false, Bool.false_eq_true, decide_eq_true_eq, Bool.not_true, Bool.not_false, true_and, and_true, ofS_inj, String.reduceEq, reduceIte, decide_true, decide_false, Int.reduceAdd, Nat.reduceLeDiff, Nat.reduceAdd, Nat.zero_add, Nat.le_refl, Nat.zero_le]
  exact this
theorem tm_s3 (hn : ns ≠ []) (ha : 0 ≤ a) (ha2 : a + 10 < 1000000000000)
    (h1 : ∀ (x : Lf) (a' : Int), a ≤ a' → a' ≤ a + 3 → C.rt (.p (enT (.leaf x))) [some (Sd cs (a')), some (.l (strN ns)), some (.l (strN hs)), some (.p (.int room)), some (.p (.int deep)), some (.p (.int r)), x6, x7, x8, x9, x10, x11])
    (h2 : 4 ≤ room → 2 ≤ deep → r ≠ 0 → C.nx [some (Sd cs (a)), some (.l (strN ns)), some (.l (strN hs)), some (.p (.int room)), some (.p (.int deep)), some (.p (.int r)), x6, x7, x8, x9, x10, x11]) : w_L_term_s3 sp__law_leaf [some (Sd cs (a)), some (.l (strN ns)), some (.l (strN hs)), some (.p (.int room)), some (.p (.int deep)), some (.p (.int r)), x6, x7, x8, x9, x10, x11] C X := by
  have base : w_L_term_s2 sp__law_leaf [some (Sd cs (a)), some (.l (strN ns)), some (.l (strN hs)), some (.p (.int room)), some (.p (.int deep)), some (.p (.int r)), x6, x7, x8, x9, x10, x11] C X := by
    obtain ⟨ks, vs, hS⟩ := SdM cs a
    rw [hS]
    simp [wSeq, wIf, wTV, wAnd, wOr, wNot, wAndV, wOrV, wNotV, wIfE, wRd, wCons, wNil, woVar, woE, wVar, wMove, wC, wvCons, wvNil, wTup, wLst, wNext, wRet, wRetN, wDrop, wBrk, wCt, wAsg, wgN, wgNil, wgCons, wgT, wPar, wFor, wYes, wLc, wipeE, backE, wCall, wMeth, wDictNew, wgSub, wSlB, wZipL, wiSeq, wiR1, wiR2, wiStr, wiEnum, wiEnumS, bodyK, takeM, putM, msOf, M.fz, Res.m, M.seq, M.lseq, M.mseq, M.dict, isL, isK, gList, gTuple, gAppend, gGet2, gSetd, setD, gEq, gNe, eqD_ss, eqD_ii, eqD_bb, gIn, gNi, gZip, gAll, gAny, gMul, gInt, cPos, cDiv, cMul, gAdd, slD, sliceF, D.key, List.length_cons, List.length_nil, List.getElem?_cons_succ, List.getElem?_cons_zero, List.getElem?_nil, List.set_cons_succ, List.set_cons_zero, List.getD_cons_succ, List.getD_cons_zero, Option.bind_some, Option.map_some, Option.map_none, Option.bind_none, ixN, atI, HT.sIx, cutD, Option.isSome_some, if_true, if_false, ite_true, ite_false, Bool.false_eq_true, decide_eq_true_eq, Bool.not_true, Bool.not_false, true_and, and_true, ofS_inj, String.reduceEq, reduceIte, decide_true, decide_false, Int.reduceAdd, Nat.reduceLeDiff, Nat.reduceAdd, Nat.zero_add, Nat.le_refl, Nat.zero_le, w_L_term_s2]
    rw [← hS]
    refine ⟨cs, a, ns, hs, rfl, hn, ha, ha2, fun x a' q1 q2 => ?_⟩
    have := h1 x a' q1 q2
    generalize Sd cs a' = S at *
    simp [wSeq, wIf, wTV, wAnd, wOr, wNot, wAndV, wOrV, wNotV, wIfE, wRd, wCons, wNil, woVar, woE, wVar, wMove, wC, wvCons, wvNil, wTup, wLst, wNext, wRet, wRetN, wDrop, wBrk, wCt, wAsg, wgN, wgNil, wgCons, wgT, wPar, wFor, wYes, wLc, wipeE, backE, wCall, wMeth, wDictNew, wgSub, wSlB, wZipL, wiSeq, wiR1, wiR2, wiStr, wiEnum, wiEnumS, bodyK, takeM, putM, msOf, M.fz, Res.m, M.seq, M.lseq, M.mseq, M.dict, isL, isK, gList, gTuple, gAppend, gGet2, gSetd, setD, gEq, gNe, eqD_ss, eqD_ii, eqD_bb, gIn, gNi, gZip, gAll, gAny, gMul, gInt, cPos, cDiv, cMul, gAdd, slD, sliceF, D.key, List.length_cons, List.length_nil, List.getElem?_cons_succ, List.getElem?_cons_zero, List.getElem?_nil, List.set_cons_succ, List.set_cons_zero, List.getD_cons_succ, List.getD_cons_zero, Option.bind_some, Option.map_some, Option.map_none, Option.bind_none, ixN, atI, HT.sIx, cutD, Option.isSome_some, if_true, if_false, ite_true, ite_false, Bool.false_eq_true, decide_eq_true_eq, Bool.not_true, Bool.not_false, true_and, and_true, ofS_inj, String.reduceEq, reduceIte, decide_true, decide_false, Int.reduceAdd, Nat.reduceLeDiff, Nat.reduceAdd, Nat.zero_add, Nat.le_refl, Nat.zero_le]
    exact this
  by_cases c1 : room < 4
  · generalize Sd cs a = S at *
    simp only [w_L_term_s3, wIf, wOr, wTV, wRd, wCons, woVar, woE, wC, wNil, msOf, gCmp, pLt, List.getElem?_cons_succ, List.getElem?_cons_zero, Option.map_some, Option.bind_some, Res.m, decide_eq_true c1, if_true]
    exact base
  · by_cases c2 : deep < 2
    · generalize Sd cs a = S at *
      simp only [w_L_term_s3, wIf, wOr, wTV, wRd, wCons, woVar, woE, wC, wNil, msOf, gCmp, pLt, List.getElem?_cons_succ, List.getElem?_cons_zero, Option.map_some, Option.bind_some, Res.m, decide_eq_false c1, decide_eq_true c2, if_true, if_false, Bool.false_eq_true]
      exact base
    · by_cases c3 : r = 0
      · generalize Sd cs a = S at *
        simp only [w_L_term_s3, wIf, wOr, wTV, wRd, wCons, woVar, woE, wC, wNil, msOf, gCmp, gEq, M.fz, eqD_ii, pLt, List.getElem?_cons_succ, List.getElem?_cons_zero, Option.map_some, Option.bind_some, Res.m, decide_eq_false c1, decide_eq_false c2, decide_eq_true c3, if_true, if_false, Bool.false_eq_true]
        exact base
      · have := h2 (by omega) (by omega) c3
        generalize Sd cs a = S at *
        simp only [w_L_term_s3, wIf, wOr, wTV, wRd, wCons, woVar, woE, wC, wNil, wNext, msOf, gCmp, gEq, M.fz, eqD_ii, pLt, List.getElem?_cons_succ, List.getElem?_cons_zero, Option.map_some, Option.bind_some, Res.m, decide_eq_false c1, decide_eq_false c2, decide_eq_false c3, if_true, if_false, Bool.false_eq_true]
        exact this
theorem tm_e1 {Cm : M → Env → Prop} (hn : ns ≠ []) (ha : 0 ≤ a) (hb : a + 16 * 4 ^ n ≤ 100000000000) (hd : 2 ≤ deep) (hdn : deep ≤ n + 1) (hr3 : 4 ≤ room) (hr : room ≤ 1000)
    (h : ∀ (t : Tt) (a' : Int), TB n t → a ≤ a' → a' ≤ a + 16 * 4 ^ n → Cm (.p (enT t)) [some (Sd cs (a')), some (.l (strN ns)), some (.l (strN hs)), some (.p (.int room)), some (.p (.int deep)), x5, x6, x7, x8, x9, x10, x11]) : w_L_term_e1 (sp__law_term n) [some (Sd cs (a)), some (.l (strN ns)), some (.l (strN hs)), some (.p (.int room)), some (.p (.int deep)), x5, x6, x7, x8, x9, x10, x11] Cm X := by
  obtain ⟨ks, vs, hS⟩ := SdM cs a
  rw [hS]
  simp [wSeq, wIf, wTV, wAnd, wOr, wNot, wAndV, wOrV, wNotV, wIfE, wRd, wCons, wNil, woVar, woE, wVar, wMove, wC, wvCons, wvNil, wTup, wLst, wNext, wRet, wRetN, wDrop, wBrk, wCt, wAsg, wgN, wgNil, wgCons, wgT, wPar, wFor, wYes, wLc, wipeE, backE, wCall, wMeth, wDictNew, wgSub, wSlB, wZipL, wiSeq, wiR1, wiR2, wiStr, wiEnum, wiEnumS, bodyK, takeM, putM, msOf, M.fz, Res.m, M.seq, M.lseq, M.mseq, M.dict, isL, isK, gList, gTuple, gAppend, gGet2, gSetd, setD, gEq, gNe, eqD_ss, eqD_ii, eqD_bb, gIn, gNi, gZip, gAll, gAny, gMul, gInt, cPos, cDiv, cMul, gAdd, slD, sliceF, D.key, List.length_cons, List.length_nil, List.getElem?_cons_succ, List.getElem?_cons_zero, List.getElem?_nil, List.set_cons_succ, List.set_cons_zero, List.getD_cons_succ, List.getD_cons_zero, Option.bind_some, Option.map_some, Option.map_none, Option.bind_none, ixN, atI, HT.sIx, cutD, Option.isSome_some, if_true, if_false, ite_true, ite_false, Bool.false_eq_true, decide_eq_true_eq, Bool.not_true, Bool.not_false, true_and, and_true, ofS_inj, String.reduceEq, reduceIte, decide_true, decide_false, Int.reduceAdd, Nat.reduceLeDiff, Nat.reduceAdd, Nat.zero_add, Nat.le_refl, Nat.zero_le, w_L_term_e1]
  rw [← hS]
  refine ⟨cs, a, ns, hs, (room - 1) / 3, deep - 1, rfl, hn, by omega, by omega, by omega, by omega, ha, hb, fun t a' z1 z2 z3 o4 o5 => ?_⟩
  have := h t a' z1 z2 z3
  generalize Sd cs a' = S at *
  simp [wSeq, wIf, wTV, wAnd, wOr, wNot, wAndV, wOrV, wNotV, wIfE, wRd, wCons, wNil, woVar, woE, wVar, wMove, wC, wvCons, wvNil, wTup, wLst, wNext, wRet, wRetN, wDrop, wBrk, wCt, wAsg, wgN, wgNil, wgCons, wgT, wPar, wFor, wYes, wLc, wipeE, backE, wCall, wMeth, wDictNew, wgSub, wSlB, wZipL, wiSeq, wiR1, wiR2, wiStr, wiEnum, wiEnumS, bodyK, takeM, putM, msOf, M.fz, Res.m, M.seq, M.lseq, M.mseq, M.dict, isL, isK, gList, gTuple, gAppend, gGet2, gSetd, setD, gEq, gNe, eqD_ss, eqD_ii, eqD_bb, gIn, gNi, gZip, gAll, gAny, gMul, gInt, cPos, cDiv, cMul, gAdd, slD, sliceF, D.key, List.length_cons, List.length_nil, List.getElem?_cons_succ, List.getElem?_cons_zero, List.getElem?_nil, List.set_cons_succ, List.set_cons_zero, List.getD_cons_succ, List.getD_cons_zero, Option.bind_some, Option.map_some, Option.map_none, Option.bind_none, ixN, atI, HT.sIx, cutD, Option.isSome_some, if_true, if_false, ite_true, ite_false, Bool.false_eq_true, decide_eq_true_eq, Bool.not_true, Bool.not_false, true_and, and_true, ofS_inj, String.reduceEq, reduceIte, decide_true, decide_false, Int.reduceAdd, Nat.reduceLeDiff, Nat.reduceAdd, Nat.zero_add, Nat.le_refl, Nat.zero_le]
  exact this
theorem tm_lc {Cc : List D → Env → Prop} (hn : ns ≠ []) (ha : 0 ≤ a) (hb : a + 2 * (16 * 4 ^ n) ≤ 100000000000) (hd : 2 ≤ deep) (hdn : deep ≤ n + 1) (hr3 : 4 ≤ room) (hr : room ≤ 1000)
    (h : ∀ (t u : Tt) (a' : Int), TB n t → TB n u → a ≤ a' → a' ≤ a + 2 * (16 * 4 ^ n) → Cc [enT t, enT u] [some (Sd cs (a')), some (.l (strN ns)), some (.l (strN hs)), some (.p (.int room)), some (.p (.int deep)), x5, x6, x7, x8, x9, none, x11]) :
    wLcL [10] w_L_term_g1 wYes (w_L_term_e1 (sp__law_term n)) Cc (rangeD 0 2) [] [some (Sd cs (a)), some (.l (strN ns)), some (.l (strN hs)), some (.p (.int room)), some (.p (.int deep)), x5, x6, x7, x8, x9, none, x11] := by
  have e : rangeD 0 2 = [.int 0, .int 1] := rfl
  have hp : (0 : Int) < 4 ^ n := Int.pow_pos (by decide)
  rw [e]
  simp only [wLcL, w_L_term_g1, wgN, wYes, List.set_cons_succ, List.set_cons_zero, if_true, if_pos, List.length_cons, List.length_nil, Nat.reduceAdd, Nat.reduceLT, true_and, and_true]
  refine tm_e1 hn ha (by omega) hd hdn hr3 hr fun t a1 z1 z2 z3 => ?_
  simp only [M.fz, wipeE, List.set_cons_succ, List.set_cons_zero, List.length_cons, List.length_nil, Nat.reduceAdd, Nat.reduceLT, true_and, and_true, List.nil_append]
  refine tm_e1 hn (by omega) (by omega) hd hdn hr3 hr fun u a2 y1 y2 y3 => ?_
  simp only [M.fz, wipeE, List.set_cons_succ, List.set_cons_zero, List.length_cons, List.length_nil, Nat.reduceAdd, Nat.reduceLT, true_and, and_true, List.nil_append, List.cons_append]
  exact h t u a2 z1 y1 (by omega) (by omega)
theorem tm_s4 (hn : ns ≠ []) (ha : 0 ≤ a) (hb : a + 2 * (16 * 4 ^ n) ≤ 100000000000) (hd : 2 ≤ deep) (hdn : deep ≤ n + 1) (hr3 : 4 ≤ room) (hr : room ≤ 1000)
    (h : ∀ (t u : Tt) (a' : Int), TB n t → TB n u → a ≤ a' → a' ≤ a + 2 * (16 * 4 ^ n) → C.nx [some (Sd cs (a')), some (.l (strN ns)), some (.l (strN hs)), some (.p (.int room)), some (.p (.int deep)), x5, some (.l [enT t, enT u]), x7, x8, x9, none, x11]) :
    w_L_term_s4 (sp__law_term n) [some (Sd cs (a)), some (.l (strN ns)), some (.l (strN hs)), some (.p (.int room)), some (.p (.int deep)), x5, x6, x7, x8, x9, none, x11] C X := by
  obtain ⟨ks, vs, hS⟩ := SdM cs a
  rw [hS]
  simp [wSeq, wIf, wTV, wAnd, wOr, wNot, wAndV, wOrV, wNotV, wIfE, wRd, wCons, wNil, woVar, woE, wVar, wMove, wC, wvCons, wvNil, wTup, wLst, wNext, wRet, wRetN, wDrop, wBrk, wCt, wAsg, wgN, wgNil, wgCons, wgT, wPar, wFor, wYes, wLc, wipeE, backE, wCall, wMeth, wDictNew, wgSub, wSlB, wZipL, wiSeq, wiR1, wiR2, wiStr, wiEnum, wiEnumS, bodyK, takeM, putM, msOf, M.fz, Res.m, M.seq, M.lseq, M.mseq, M.dict, isL, isK, gList, gTuple, gAppend, gGet2, gSetd, setD, gEq, gNe, eqD_ss, eqD_ii, eqD_bb, gIn, gNi, gZip, gAll, gAny, gMul, gInt, cPos, cDiv, cMul, gAdd, slD, sliceF, D.key, List.length_cons, List.length_nil, List.getElem?_cons_succ, List.getElem?_cons_zero, List.getElem?_nil, List.set_cons_succ, List.set_cons_zero, List.getD_cons_succ, List.getD_cons_zero, Option.bind_some, Option.map_some, Option.map_none, Option.bind_none, ixN, atI, HT.sIx, cutD, Option.isSome_some, if_true, if_false, ite_true, ite_false, Bool.false_eq_true, decide_eq_true_eq, Bool.not_true, Bool.not_false, true_and, and_true, ofS_inj, String.reduceEq, reduceIte, decide_true, decide_false, Int.reduceAdd, Nat.reduceLeDiff, Nat.reduceAdd, Nat.zero_add, Nat.le_refl, Nat.zero_le, w_L_term_s4]
  rw [← hS]
  refine tm_lc hn ha hb hd hdn hr3 hr fun t u a' z1 z2 z3 z4 => ?_
  have := h t u a' z1 z2 z3 z4
  generalize Sd cs a' = S at *
  simp [wSeq, wIf, wTV, wAnd, wOr, wNot, wAndV, wOrV, wNotV, wIfE, wRd, wCons, wNil, woVar, woE, wVar, wMove, wC, wvCons, wvNil, wTup, wLst, wNext, wRet, wRetN, wDrop, wBrk, wCt, wAsg, wgN, wgNil, wgCons, wgT, wPar, wFor, wYes, wLc, wipeE, backE, wCall, wMeth, wDictNew, wgSub, wSlB, wZipL, wiSeq, wiR1, wiR2, wiStr, wiEnum, wiEnumS, bodyK, takeM, putM, msOf, M.fz, Res.m, M.seq, M.lseq, M.mseq, M.dict, isL, isK, gList, gTuple, gAppend, gGet2, gSetd, setD, gEq, gNe, eqD_ss, eqD_ii, eqD_bb, gIn, gNi, gZip, gAll, gAny, gMul, gInt, cPos, cDiv, cMul, gAdd, slD, sliceF, D.key, List.length_cons, List.length_nil, List.getElem?_cons_succ, List.getElem?_cons_zero, List.getElem?_nil, List.set_cons_succ, List.set_cons_zero, List.getD_cons_succ, List.getD_cons_zero, Option.bind_some, Option.map_some, Option.map_none, Option.bind_none, ixN, atI, HT.sIx, cutD, Option.isSome_some, if_true, if_false, ite_true, ite_false, Bool.false_eq_true, decide_eq_true_eq, Bool.not_true, Bool.not_false, true_and, and_true, ofS_inj, String.reduceEq, reduceIte, decide_true, decide_false, Int.reduceAdd, Nat.reduceLeDiff, Nat.reduceAdd, Nat.zero_add, Nat.le_refl, Nat.zero_le]
  exact this
theorem tm_s5 (hn : ns ≠ []) (ha : 0 ≤ a) (hb : a + 16 * 4 ^ n ≤ 100000000000) (hd : 2 ≤ deep) (hdn : deep ≤ n + 1) (hr3 : 4 ≤ room) (hr : room ≤ 1000)
    (h : ∀ (t : Tt) (a' : Int), TB n t → a ≤ a' → a' ≤ a + 16 * 4 ^ n → C.nx [some (Sd cs (a')), some (.l (strN ns)), some (.l (strN hs)), some (.p (.int room)), some (.p (.int deep)), x5, x6, some (.p (enT t)), x8, x9, x10, x11]) : w_L_term_s5 (sp__law_term n) [some (Sd cs (a)), some (.l (strN ns)), some (.l (strN hs)), some (.p (.int room)), some (.p (.int deep)), x5, x6, x7, x8, x9, x10, x11] C X := by
  show wAsg (w_L_term_e1 (sp__law_term n)) (wgN 7) [some (Sd cs (a)), some (.l (strN ns)), some (.l (strN hs)), some (.p (.int room)), some (.p (.int deep)), x5, x6, x7, x8, x9, x10, x11] C X
  simp only [wAsg]
  refine tm_e1 hn ha hb hd hdn hr3 hr fun t a' z1 z2 z3 => ?_
  have := h t a' z1 z2 z3
  generalize Sd cs a' = S at *
  simp [wSeq, wIf, wTV, wAnd, wOr, wNot, wAndV, wOrV, wNotV, wIfE, wRd, wCons, wNil, woVar, woE, wVar, wMove, wC, wvCons, wvNil, wTup, wLst, wNext, wRet, wRetN, wDrop, wBrk, wCt, wAsg, wgN, wgNil, wgCons, wgT, wPar, wFor, wYes, wLc, wipeE, backE, wCall, wMeth, wDictNew, wgSub, wSlB, wZipL, wiSeq, wiR1, wiR2, wiStr, wiEnum, wiEnumS, bodyK, takeM, putM, msOf, M.fz, Res.m, M.seq, M.lseq, M.mseq, M.dict, isL, isK, gList, gTuple, gAppend, gGet2, gSetd, setD, gEq, gNe, eqD_ss, eqD_ii, eqD_bb, gIn, gNi, gZip, gAll, gAny, gMul, gInt, cPos, cDiv, cMul, gAdd, slD, sliceF, D.key, List.length_cons, List.length_nil, List.getElem?_cons_succ, List.getElem?_cons_zero, List.getElem?_nil, List.set_cons_succ, List.set_cons_zero, List.getD_cons_succ, List.getD_cons_zero, Option.bind_some, Option.map_some, Option.map_none, Option.bind_none, ixN, atI, HT.sIx, cutD, Option.isSome_some, if_true, if_false, ite_true, ite_false, Bool.false_eq_true, decide_eq_true_eq, Bool.not_true, Bool.not_false, true_and, and_true, ofS_inj, String.reduceEq, reduceIte, decide_true, decide_false, Int.reduceAdd, Nat.reduceLeDiff, Nat.reduceAdd, Nat.zero_add, Nat.le_refl, Nat.zero_le]
  exact this
end BV

namespace BV
open PySem L2 PyProof.Rows
variable {ns hs : List Nm} {room deep r a : Int} {cs : List Int} {C : KS} {X : KX} {n : Nat} {x5 x6 x7 x8 x9 x10 x11 : Option M} {t u v : Tt}
theorem tm_s7 (ha : 0 ≤ a) (ha2 : a < 1000000000000) (h1 : ∀ s : Nm, C.rt (.p (enT (.two s t u))) [some (Sd cs (a + 1)), some (.l (strN ns)), some (.l (strN hs)), some (.p (.int room)), some (.p (.int deep)), some (.p (.int r)), some (.l [enT t, enT u]), some (.p (enT v)), x8, x9, x10, x11]) (h2 : 4 ≤ r → C.nx [some (Sd cs (a)), some (.l (strN ns)), some (.l (strN hs)), some (.p (.int room)), some (.p (.int deep)), some (.p (.int r)), some (.l [enT t, enT u]), some (.p (enT v)), x8, x9, x10, x11]) : w_L_term_s7 sp__law_next [some (Sd cs (a)), some (.l (strN ns)), some (.l (strN hs)), some (.p (.int room)), some (.p (.int deep)), some (.p (.int r)), some (.l [enT t, enT u]), some (.p (enT v)), x8, x9, x10, x11] C X := by
  by_cases hr : r < 4
  · obtain ⟨ks, vs, hS⟩ := SdM cs a
    rw [hS]
    simp [wSeq, wIf, wTV, wAnd, wOr, wNot, wAndV, wOrV, wNotV, wIfE, wRd, wCons, wNil, woVar, woE, wVar, wMove, wC, wvCons, wvNil, wTup, wLst, wNext, wRet, wRetN, wDrop, wBrk, wCt, wAsg, wgN, wgNil, wgCons, wgT, wPar, wFor, wYes, wLc, wipeE, backE, wCall, wMeth, wDictNew, wgSub, wSlB, wZipL, wiSeq, wiR1, wiR2, wiStr, wiEnum, wiEnumS, bodyK, takeM, putM, msOf, M.fz, Res.m, M.seq, M.lseq, M.mseq, M.dict, isL, isK, gList, gTuple, gAppend, gGet2, gSetd, setD, gEq, gNe, eqD_ss, eqD_ii, eqD_bb, gIn, gNi, gZip, gAll, gAny, gMul, gInt, cPos, cDiv, cMul, gAdd, slD, sliceF, D.key, List.length_cons, List.length_nil, List.getElem?_cons_succ, List.getElem?_cons_zero, List.getElem?_nil, List.set_cons_succ, List.set_cons_zero, List.getD_cons_succ, List.getD_cons_zero, Option.bind_some, Option.map_some, Option.map_none, Option.bind_none, ixN, atI, HT.sIx, cutD, Option.isSome_some, if_true, if_false, ite_true, ite_false, Bool.false_eq_true, decide_eq_true_eq, Bool.not_true, Bool.not_false, true_and, and_true, ofS_inj, String.reduceEq, reduceIte, decide_true, decide_false, Int.reduceAdd, Nat.reduceLeDiff, Nat.reduceAdd, Nat.zero_add, Nat.le_refl, Nat.zero_le, w_L_term_s7, gCmp, pLt, hr]
    simp [wSeq, wIf, wTV, wAnd, wOr, wNot, wAndV, wOrV, wNotV, wIfE, wRd, wCons, wNil, woVar, woE, wVar, wMove, wC, wvCons, wvNil, wTup, wLst, wNext, wRet, wRetN, wDrop, wBrk, wCt, wAsg, wgN, wgNil, wgCons, wgT, wPar, wFor, wYes, wLc, wipeE, backE, wCall, wMeth, wDictNew, wgSub, wSlB, wZipL, wiSeq, wiR1, wiR2, wiStr, wiEnum, wiEnumS, bodyK, takeM, putM, msOf, M.fz, Res.m, M.seq, M.lseq, M.mseq, M.dict, isL, isK, gList, gTuple, gAppend, gGet2, gSetd, setD, gEq, gNe, eqD_ss, eqD_ii, eqD_bb, gIn, gNi, gZip, gAll, gAny, gMul, gInt, cPos, cDiv, cMul, gAdd, slD, sliceF, D.key, List.length_cons, List.length_nil, List.getElem?_cons_succ, List.getElem?_cons_zero, List.getElem?_nil, List.set_cons_succ, List.set_cons_zero, List.getD_cons_succ, List.getD_cons_zero, Option.bind_some, Option.map_some, Option.map_none, Option.bind_none, ixN, atI, HT.sIx, cutD, Option.isSome_some, if_true, if_false, ite_true, ite_false, Bool.false_eq_true, decide_eq_true_eq, Bool.not_true, Bool.not_false, true_and, and_true, ofS_inj, String.reduceEq, reduceIte, decide_true, decide_false, Int.reduceAdd, Nat.reduceLeDiff, Nat.reduceAdd, Nat.zero_add, Nat.le_refl, Nat.zero_le, w_L_term_s6]
    rw [← hS]
    refine ⟨cs, a, 6, rfl, by decide, ha, ha2, fun q q0 q1 o2 => ?_⟩
    simp only [enT] at h1
    generalize Sd cs (a + 1) = S at *
    have q6 : q = 0 ∨ q = 1 ∨ q = 2 ∨ q = 3 ∨ q = 4 ∨ q = 5 := by omega
    rcases q6 with rfl | rfl | rfl | rfl | rfl | rfl
    · have := h1 ⟨("<" : Str), strOk_lit _ (by decide)⟩; simp [wSeq, wIf, wTV, wAnd, wOr, wNot, wAndV, wOrV, wNotV, wIfE, wRd, wCons, wNil, woVar, woE, wVar, wMove, wC, wvCons, wvNil, wTup, wLst, wNext, wRet, wRetN, wDrop, wBrk, wCt, wAsg, wgN, wgNil, wgCons, wgT, wPar, wFor, wYes, wLc, wipeE, backE, wCall, wMeth, wDictNew, wgSub, wSlB, wZipL, wiSeq, wiR1, wiR2, wiStr, wiEnum, wiEnumS, bodyK, takeM, putM, msOf, M.fz, Res.m, M.seq, M.lseq, M.mseq, M.dict, isL, isK, gList, gTuple, gAppend, gGet2, gSetd, setD, gEq, gNe, eqD_ss, eqD_ii, eqD_bb, gIn, gNi, gZip, gAll, gAny, gMul, gInt, cPos, cDiv, cMul, gAdd, slD, sliceF, D.key, List.length_cons, List.length_nil, List.getElem?_cons_succ, List.getElem?_cons_zero, List.getElem?_nil, List.set_cons_succ, List.set_cons_zero, List.getD_cons_succ, List.getD_cons_zero, Option.bind_some, Option.map_some, Option.map_none, Option.bind_none, ixN, atI, HT.sIx, cutD, Option.isSome_some, if_true, if_false, ite_true, ite_false, Bool.false_eq_true, decide_eq_true_eq, Bool.not_true, Bool.not_false, true_and, and_true, ofS_inj, String.reduceEq, reduceIte, decide_true, decide_false, Int.reduceAdd, Nat.reduceLeDiff, Nat.reduceAdd, Nat.zero_add, Nat.le_refl, Nat.zero_le, gIx]; exact this
    · have := h1 ⟨("=" : Str), strOk_lit _ (by decide)⟩; simp [wSeq, wIf, wTV, wAnd, wOr, wNot, wAndV, wOrV, wNotV, wIfE, wRd, wCons, wNil, woVar, woE, wVar, wMove, wC, wvCons, wvNil, wTup, wLst, wNext, wRet, wRetN, wDrop, wBrk, wCt, wAsg, wgN, wgNil, wgCons, wgT, wPar, wFor, wYes, wLc, wipeE, backE, wCall, wMeth, wDictNew, wgSub, wSlB, wZipL, wiSeq, wiR1, wiR2, wiStr, wiEnum, wiEnumS, bodyK, takeM, putM, msOf, M.fz, Res.m, M.seq, M.lseq, M.mseq, M.dict, isL, isK, gList, gTuple, gAppend, gGet2, gSetd, setD, gEq, gNe, eqD_ss, eqD_ii, eqD_bb, gIn, gNi, gZip, gAll, gAny, gMul, gInt, cPos, cDiv, cMul, gAdd, slD, sliceF, D.key, List.length_cons, List.length_nil, List.getElem?_cons_succ, List.getElem?_cons_zero, List.getElem?_nil, List.set_cons_succ, List.set_cons_zero, List.getD_cons_succ, List.getD_cons_zero, Option.bind_some, Option.map_some, Option.map_none, Option.bind_none, ixN, atI, HT.sIx, cutD, Option.isSome_some, if_true, if_false, ite_true, ite_false, Bool.false_eq_true, decide_eq_true_eq, Bool.not_true, Bool.not_false, true_and, and_true, ofS_inj, String.reduceEq, reduceIte, decide_true, decide_false, Int.reduceAdd, Nat.reduceLeDiff, Nat.reduceAdd, Nat.zero_add, Nat.le_refl, Nat.zero_le, gIx]; exact this
    · have := h1 ⟨("::" : Str), strOk_lit _ (by decide)⟩; simp [wSeq, wIf, wTV, wAnd, wOr, wNot, wAndV, wOrV, wNotV, wIfE, wRd, wCons, wNil, woVar, woE, wVar, wMove, wC, wvCons, wvNil, wTup, wLst, wNext, wRet, wRetN, wDrop, wBrk, wCt, wAsg, wgN, wgNil, wgCons, wgT, wPar, wFor, wYes, wLc, wipeE, backE, wCall, wMeth, wDictNew, wgSub, wSlB, wZipL, wiSeq, wiR1, wiR2, wiStr, wiEnum, wiEnumS, bodyK, takeM, putM, msOf, M.fz, Res.m, M.seq, M.lseq, M.mseq, M.dict, isL, isK, gList, gTuple, gAppend, gGet2, gSetd, setD, gEq, gNe, eqD_ss, eqD_ii, eqD_bb, gIn, gNi, gZip, gAll, gAny, gMul, gInt, cPos, cDiv, cMul, gAdd, slD, sliceF, D.key, List.length_cons, List.length_nil, List.getElem?_cons_succ, List.getElem?_cons_zero, List.getElem?_nil, List.set_cons_succ, List.set_cons_zero, List.getD_cons_succ, List.getD_cons_zero, Option.bind_some, Option.map_some, Option.map_none, Option.bind_none, ixN, atI, HT.sIx, cutD, Option.isSome_some, if_true, if_false, ite_true, ite_false, Bool.false_eq_true, decide_eq_true_eq, Bool.not_true, Bool.not_false, true_and, and_true, ofS_inj, String.reduceEq, reduceIte, decide_true, decide_false, Int.reduceAdd, Nat.reduceLeDiff, Nat.reduceAdd, Nat.zero_add, Nat.le_refl, Nat.zero_le, gIx]; exact this
    · have := h1 ⟨("+" : Str), strOk_lit _ (by decide)⟩; simp [wSeq, wIf, wTV, wAnd, wOr, wNot, wAndV, wOrV, wNotV, wIfE, wRd, wCons, wNil, woVar, woE, wVar, wMove, wC, wvCons, wvNil, wTup, wLst, wNext, wRet, wRetN, wDrop, wBrk, wCt, wAsg, wgN, wgNil, wgCons, wgT, wPar, wFor, wYes, wLc, wipeE, backE, wCall, wMeth, wDictNew, wgSub, wSlB, wZipL, wiSeq, wiR1, wiR2, wiStr, wiEnum, wiEnumS, bodyK, takeM, putM, msOf, M.fz, Res.m, M.seq, M.lseq, M.mseq, M.dict, isL, isK, gList, gTuple, gAppend, gGet2, gSetd, setD, gEq, gNe, eqD_ss, eqD_ii, eqD_bb, gIn, gNi, gZip, gAll, gAny, gMul, gInt, cPos, cDiv, cMul, gAdd, slD, sliceF, D.key, List.length_cons, List.length_nil, List.getElem?_cons_succ, List.getElem?_cons_zero, List.getElem?_nil, List.set_cons_succ, List.set_cons_zero, List.getD_cons_succ, List.getD_cons_zero, Option.bind_some, Option.map_some, Option.map_none, Option.bind_none, ixN, atI, HT.sIx, cutD, Option.isSome_some, if_true, if_false, ite_true, ite_false, Bool.false_eq_true, decide_eq_true_eq, Bool.not_true, Bool.not_false, true_and, and_true, ofS_inj, String.reduceEq, reduceIte, decide_true, decide_false, Int.reduceAdd, Nat.reduceLeDiff, Nat.reduceAdd, Nat.zero_add, Nat.le_refl, Nat.zero_le, gIx]; exact this
    · have := h1 ⟨("-" : Str), strOk_lit _ (by decide)⟩; simp [wSeq, wIf, wTV, wAnd, wOr, wNot, wAndV, wOrV, wNotV, wIfE, wRd, wCons, wNil, woVar, woE, wVar, wMove, wC, wvCons, wvNil, wTup, wLst, wNext, wRet, wRetN, wDrop, wBrk, wCt, wAsg, wgN, wgNil, wgCons, wgT, wPar, wFor, wYes, wLc, wipeE, backE, wCall, wMeth, wDictNew, wgSub, wSlB, wZipL, wiSeq, wiR1, wiR2, wiStr, wiEnum, wiEnumS, bodyK, takeM, putM, msOf, M.fz, Res.m, M.seq, M.lseq, M.mseq, M.dict, isL, isK, gList, gTuple, gAppend, gGet2, gSetd, setD, gEq, gNe, eqD_ss, eqD_ii, eqD_bb, gIn, gNi, gZip, gAll, gAny, gMul, gInt, cPos, cDiv, cMul, gAdd, slD, sliceF, D.key, List.length_cons, List.length_nil, List.getElem?_cons_succ, List.getElem?_cons_zero, List.getElem?_nil, List.set_cons_succ, List.set_cons_zero, List.getD_cons_succ, List.getD_cons_zero, Option.bind_some, Option.map_some, Option.map_none, Option.bind_none, ixN, atI, HT.sIx, cutD, Option.isSome_some, if_true, if_false, ite_true, ite_false, Bool.false_eq_true, decide_eq_true_eq, Bool.not_true, Bool.not_false, true_and, and_true, ofS_inj, String.reduceEq, reduceIte, decide_true, decide_false, Int.reduceAdd, Nat.reduceLeDiff, Nat.reduceAdd, Nat.zero_add, Nat.le_refl, Nat.zero_le, gIx]; exact this
    · have := h1 ⟨("*" : Str), strOk_lit _ (by decide)⟩; simp [wSeq, wIf, wTV, wAnd, wOr, wNot, wAndV, wOrV, wNotV, wIfE, wRd, wCons, wNil, woVar, woE, wVar, wMove, wC, wvCons, wvNil, wTup, wLst, wNext, wRet, wRetN, wDrop, wBrk, wCt, wAsg, wgN, wgNil, wgCons, wgT, wPar, wFor, wYes, wLc, wipeE, backE, wCall, wMeth, wDictNew, wgSub, wSlB, wZipL, wiSeq, wiR1, wiR2, wiStr, wiEnum, wiEnumS, bodyK, takeM, putM, msOf, M.fz, Res.m, M.seq, M.lseq, M.mseq, M.dict, isL, isK, gList, gTuple, gAppend, gGet2, gSetd, setD, gEq, gNe, eqD_ss, eqD_ii, eqD_bb, gIn, gNi, gZip, gAll, gAny, gMul, gInt, cPos, cDiv, cMul, gAdd, slD, sliceF, D.key, List.length_cons, List.length_nil, List.getElem?_cons_succ, List.getElem?_cons_zero, List.getElem?_nil, List.set_cons_succ, List.set_cons_zero, List.getD_cons_succ, List.getD_cons_zero, Option.bind_some, Option.map_some, Option.map_none, Option.bind_none, ixN, atI, HT.sIx, cutD, Option.isSome_some, if_true, if_false, ite_true, ite_false, Bool.false_eq_true, decide_eq_true_eq, Bool.not_true, Bool.not_false, true_and, and_true, ofS_inj, String.reduceEq, reduceIte, decide_true, decide_false, Int.reduceAdd, Nat.reduceLeDiff, Nat.reduceAdd, Nat.zero_add, Nat.le_refl, Nat.zero_le, gIx]; exact this
  · have := h2 (by omega)
    generalize Sd cs a = S at *
    simp [wSeq, wIf, wTV, wAnd, wOr, wNot, wAndV, wOrV, wNotV, wIfE, wRd, wCons, wNil, woVar, woE, wVar, wMove, wC, wvCons, wvNil, wTup, wLst, wNext, wRet, wRetN, wDrop, wBrk, wCt, wAsg, wgN, wgNil, wgCons, wgT, wPar, wFor, wYes, wLc, wipeE, backE, wCall, wMeth, wDictNew, wgSub, wSlB, wZipL, wiSeq, wiR1, wiR2, wiStr, wiEnum, wiEnumS, bodyK, takeM, putM, msOf, M.fz, Res.m, M.seq, M.lseq, M.mseq, M.dict, isL, isK, gList, gTuple, gAppend, gGet2, gSetd, setD, gEq, gNe, eqD_ss, eqD_ii, eqD_bb, gIn, gNi, gZip, gAll, gAny, gMul, gInt, cPos, cDiv, cMul, gAdd, slD, sliceF, D.key, List.length_cons, List.length_nil, List.getElem?_cons_succ, List.getElem?_cons_zero, List.getElem?_nil, List.set_cons_succ, List.set_cons_zero, List.getD_cons_succ, List.getD_cons_zero, Option.bind_some, Option.map_some, Option.map_none, Option.bind_none, ixN, atI, HT.sIx, cutD, Option.isSome_some, if_true, if_false, ite_true, ite_false, Bool.false_eq_true, decide_eq_true_eq, Bool.not_true, Bool.not_false, true_and, and_true, ofS_inj, String.reduceEq, reduceIte, decide_true, decide_false, Int.reduceAdd, Nat.reduceLeDiff, Nat.reduceAdd, Nat.zero_add, Nat.le_refl, Nat.zero_le, w_L_term_s7, gCmp, pLt, hr]
    exact this
theorem tm_s9 (h1 : C.rt (.p (enT (.call t u))) [some (Sd cs (a)), some (.l (strN ns)), some (.l (strN hs)), some (.p (.int room)), some (.p (.int deep)), some (.p (.int r)), some (.l [enT t, enT u]), some (.p (enT v)), x8, x9, x10, x11]) (h2 : C.nx [some (Sd cs (a)), some (.l (strN ns)), some (.l (strN hs)), some (.p (.int room)), some (.p (.int deep)), some (.p (.int r)), some (.l [enT t, enT u]), some (.p (enT v)), x8, x9, x10, x11]) : w_L_term_s9 [some (Sd cs (a)), some (.l (strN ns)), some (.l (strN hs)), some (.p (.int room)), some (.p (.int deep)), some (.p (.int r)), some (.l [enT t, enT u]), some (.p (enT v)), x8, x9, x10, x11] C X := by
  simp only [enT] at h1
  generalize Sd cs a = S at *
  by_cases hr : r < 6
  · simp [wSeq, wIf, wTV, wAnd, wOr, wNot, wAndV, wOrV, wNotV, wIfE, wRd, wCons, wNil, woVar, woE, wVar, wMove, wC, wvCons, wvNil, wTup, wLst, wNext, wRet, wRetN, wDrop, wBrk, wCt, wAsg, wgN, wgNil, wgCons, wgT, wPar, wFor, wYes, wLc, wipeE, backE, wCall, wMeth, wDictNew, wgSub, wSlB, wZipL, wiSeq, wiR1, wiR2, wiStr, wiEnum, wiEnumS, bodyK, takeM, putM, msOf, M.fz, Res.m, M.seq, M.lseq, M.mseq, M.dict, isL, isK, gList, gTuple, gAppend, gGet2, gSetd, setD, gEq, gNe, eqD_ss, eqD_ii, eqD_bb, gIn, gNi, gZip, gAll, gAny, gMul, gInt, cPos, cDiv, cMul, gAdd, slD, sliceF, D.key, List.length_cons, List.length_nil, List.getElem?_cons_succ, List.getElem?_cons_zero, List.getElem?_nil, List.set_cons_succ, List.set_cons_zero, List.getD_cons_succ, List.getD_cons_zero, Option.bind_some, Option.map_some, Option.map_none, Option.bind_none, ixN, atI, HT.sIx, cutD, Option.isSome_some, if_true, if_false, ite_true, ite_false, Bool.false_eq_true, decide_eq_true_eq, Bool.not_true, Bool.not_false, true_and, and_true, ofS_inj, String.reduceEq, reduceIte, decide_true, decide_false, Int.reduceAdd, Nat.reduceLeDiff, Nat.reduceAdd, Nat.zero_add, Nat.le_refl, Nat.zero_le, w_L_term_s9, gCmp, pLt, hr]
    simp [wSeq, wIf, wTV, wAnd, wOr, wNot, wAndV, wOrV, wNotV, wIfE, wRd, wCons, wNil, woVar, woE, wVar, wMove, wC, wvCons, wvNil, wTup, wLst, wNext, wRet, wRetN, wDrop, wBrk, wCt, wAsg, wgN, wgNil, wgCons, wgT, wPar, wFor, wYes, wLc, wipeE, backE, wCall, wMeth, wDictNew, wgSub, wSlB, wZipL, wiSeq, wiR1, wiR2, wiStr, wiEnum, wiEnumS, bodyK, takeM, putM, msOf, M.fz, Res.m, M.seq, M.lseq, M.mseq, M.dict, isL, isK, gList, gTuple, gAppend, gGet2, gSetd, setD, gEq, gNe, eqD_ss, eqD_ii, eqD_bb, gIn, gNi, gZip, gAll, gAny, gMul, gInt, cPos, cDiv, cMul, gAdd, slD, sliceF, D.key, List.length_cons, List.length_nil, List.getElem?_cons_succ, List.getElem?_cons_zero, List.getElem?_nil, List.set_cons_succ, List.set_cons_zero, List.getD_cons_succ, List.getD_cons_zero, Option.bind_some, Option.map_some, Option.map_none, Option.bind_none, ixN, atI, HT.sIx, cutD, Option.isSome_some, if_true, if_false, ite_true, ite_false, Bool.false_eq_true, decide_eq_true_eq, Bool.not_true, Bool.not_false, true_and, and_true, ofS_inj, String.reduceEq, reduceIte, decide_true, decide_false, Int.reduceAdd, Nat.reduceLeDiff, Nat.reduceAdd, Nat.zero_add, Nat.le_refl, Nat.zero_le, w_L_term_s8, gIx]
    exact h1
  · simp [wSeq, wIf, wTV, wAnd, wOr, wNot, wAndV, wOrV, wNotV, wIfE, wRd, wCons, wNil, woVar, woE, wVar, wMove, wC, wvCons, wvNil, wTup, wLst, wNext, wRet, wRetN, wDrop, wBrk, wCt, wAsg, wgN, wgNil, wgCons, wgT, wPar, wFor, wYes, wLc, wipeE, backE, wCall, wMeth, wDictNew, wgSub, wSlB, wZipL, wiSeq, wiR1, wiR2, wiStr, wiEnum, wiEnumS, bodyK, takeM, putM, msOf, M.fz, Res.m, M.seq, M.lseq, M.mseq, M.dict, isL, isK, gList, gTuple, gAppend, gGet2, gSetd, setD, gEq, gNe, eqD_ss, eqD_ii, eqD_bb, gIn, gNi, gZip, gAll, gAny, gMul, gInt, cPos, cDiv, cMul, gAdd, slD, sliceF, D.key, List.length_cons, List.length_nil, List.getElem?_cons_succ, List.getElem?_cons_zero, List.getElem?_nil, List.set_cons_succ, List.set_cons_zero, List.getD_cons_succ, List.getD_cons_zero, Option.bind_some, Option.map_some, Option.map_none, Option.bind_none, ixN, atI, HT.sIx, cutD, Option.isSome_some, if_true, if_false, ite_true, ite_false, Bool.false_eq_true, decide_eq_true_eq, Bool.not_true, Bool.not_false, true_and, and_true, ofS_inj, String.reduceEq, reduceIte, decide_true, decide_false, Int.reduceAdd, Nat.reduceLeDiff, Nat.reduceAdd, Nat.zero_add, Nat.le_refl, Nat.zero_le, w_L_term_s9, gCmp, pLt, hr]
    exact h2
theorem tm_s15 (h1 : C.rt (.p (enT (.iff v t u))) [some (Sd cs (a)), some (.l (strN ns)), some (.l (strN hs)), some (.p (.int room)), some (.p (.int deep)), some (.p (.int r)), some (.l [enT t, enT u]), some (.p (enT v)), x8, x9, x10, x11]) (h2 : C.nx [some (Sd cs (a)), some (.l (strN ns)), some (.l (strN hs)), some (.p (.int room)), some (.p (.int deep)), some (.p (.int r)), some (.l [enT t, enT u]), some (.p (enT v)), x8, x9, x10, x11]) : w_L_term_s15 [some (Sd cs (a)), some (.l (strN ns)), some (.l (strN hs)), some (.p (.int room)), some (.p (.int deep)), some (.p (.int r)), some (.l [enT t, enT u]), some (.p (enT v)), x8, x9, x10, x11] C X := by
  simp only [enT] at h1
  generalize Sd cs a = S at *
  by_cases hr : r = 8
  · simp [wSeq, wIf, wTV, wAnd, wOr, wNot, wAndV, wOrV, wNotV, wIfE, wRd, wCons, wNil, woVar, woE, wVar, wMove, wC, wvCons, wvNil, wTup, wLst, wNext, wRet, wRetN, wDrop, wBrk, wCt, wAsg, wgN, wgNil, wgCons, wgT, wPar, wFor, wYes, wLc, wipeE, backE, wCall, wMeth, wDictNew, wgSub, wSlB, wZipL, wiSeq, wiR1, wiR2, wiStr, wiEnum, wiEnumS, bodyK, takeM, putM, msOf, M.fz, Res.m, M.seq, M.lseq, M.mseq, M.dict, isL, isK, gList, gTuple, gAppend, gGet2, gSetd, setD, gEq, gNe, eqD_ss, eqD_ii, eqD_bb, gIn, gNi, gZip, gAll, gAny, gMul, gInt, cPos, cDiv, cMul, gAdd, slD, sliceF, D.key, List.length_cons, List.length_nil, List.getElem?_cons_succ, List.getElem?_cons_zero, List.getElem?_nil, List.set_cons_succ, List.set_cons_zero, List.getD_cons_succ, List.getD_cons_zero, Option.bind_some, Option.map_some, Option.map_none, Option.bind_none, ixN, atI, HT.sIx, cutD, Option.isSome_some, if_true, if_false, ite_true, ite_false, Bool.false_eq_true, decide_eq_true_eq, Bool.not_true, Bool.not_false, true_and, and_true, ofS_inj, String.reduceEq, reduceIte, decide_true, decide_false, Int.reduceAdd, Nat.reduceLeDiff, Nat.reduceAdd, Nat.zero_add, Nat.le_refl, Nat.zero_le, w_L_term_s15, hr]
    simp [wSeq, wIf, wTV, wAnd, wOr, wNot, wAndV, wOrV, wNotV, wIfE, wRd, wCons, wNil, woVar, woE, wVar, wMove, wC, wvCons, wvNil, wTup, wLst, wNext, wRet, wRetN, wDrop, wBrk, wCt, wAsg, wgN, wgNil, wgCons, wgT, wPar, wFor, wYes, wLc, wipeE, backE, wCall, wMeth, wDictNew, wgSub, wSlB, wZipL, wiSeq, wiR1, wiR2, wiStr, wiEnum, wiEnumS, bodyK, takeM, putM, msOf, M.fz, Res.m, M.seq, M.lseq, M.mseq, M.dict, isL, isK, gList, gTuple, gAppend, gGet2, gSetd, setD, gEq, gNe, eqD_ss, eqD_ii, eqD_bb, gIn, gNi, gZip, gAll, gAny, gMul, gInt, cPos, cDiv, cMul, gAdd, slD, sliceF, D.key, List.length_cons, List.length_nil, List.getElem?_cons_succ, List.getElem?_cons_zero, List.getElem?_nil, List.set_cons_succ, List.set_cons_zero, List.getD_cons_succ, List.getD_cons_zero, Option.bind_some, Option.map_some, Option.map_none, Option.bind_none, ixN, atI, HT.sIx, cutD, Option.isSome_some, if_true, if_false, ite_true, ite_false, Bool.false_eq_true, decide_eq_true_eq, Bool.not_true, Bool.not_false, true_and, and_true, ofS_inj, String.reduceEq, reduceIte, decide_true, decide_false, Int.reduceAdd, Nat.reduceLeDiff, Nat.reduceAdd, Nat.zero_add, Nat.le_refl, Nat.zero_le, w_L_term_s14, gIx]
    rw [hr] at h1
    exact h1
  · simp [wSeq, wIf, wTV, wAnd, wOr, wNot, wAndV, wOrV, wNotV, wIfE, wRd, wCons, wNil, woVar, woE, wVar, wMove, wC, wvCons, wvNil, wTup, wLst, wNext, wRet, wRetN, wDrop, wBrk, wCt, wAsg, wgN, wgNil, wgCons, wgT, wPar, wFor, wYes, wLc, wipeE, backE, wCall, wMeth, wDictNew, wgSub, wSlB, wZipL, wiSeq, wiR1, wiR2, wiStr, wiEnum, wiEnumS, bodyK, takeM, putM, msOf, M.fz, Res.m, M.seq, M.lseq, M.mseq, M.dict, isL, isK, gList, gTuple, gAppend, gGet2, gSetd, setD, gEq, gNe, eqD_ss, eqD_ii, eqD_bb, gIn, gNi, gZip, gAll, gAny, gMul, gInt, cPos, cDiv, cMul, gAdd, slD, sliceF, D.key, List.length_cons, List.length_nil, List.getElem?_cons_succ, List.getElem?_cons_zero, List.getElem?_nil, List.set_cons_succ, List.set_cons_zero, List.getD_cons_succ, List.getD_cons_zero, Option.bind_some, Option.map_some, Option.map_none, Option.bind_none, ixN, atI, HT.sIx, cutD, Option.isSome_some, if_true, if_false, ite_true, ite_false, Bool.false_eq_true, decide_eq_true_eq, Bool.not_true, Bool.not_false, true_and, and_true, ofS_inj, String.reduceEq, reduceIte, decide_true, decide_false, Int.reduceAdd, Nat.reduceLeDiff, Nat.reduceAdd, Nat.zero_add, Nat.le_refl, Nat.zero_le, w_L_term_s15, hr]
    exact h2
theorem tm_s11 (hn : ns ≠ []) (ha : 0 ≤ a) (ha2 : a < 1000000000000) (h1 : ∀ s : Nm, C.rt (.p (enT (.fn s v))) [some (Sd cs (a + 1)), some (.l (strN ns)), some (.l (strN hs)), some (.p (.int room)), some (.p (.int deep)), some (.p (.int r)), some (.l [enT t, enT u]), some (.p (enT v)), x8, x9, x10, x11]) (h2 : C.nx [some (Sd cs (a)), some (.l (strN ns)), some (.l (strN hs)), some (.p (.int room)), some (.p (.int deep)), some (.p (.int r)), some (.l [enT t, enT u]), some (.p (enT v)), x8, x9, x10, x11]) : w_L_term_s11 sp__law_next [some (Sd cs (a)), some (.l (strN ns)), some (.l (strN hs)), some (.p (.int room)), some (.p (.int deep)), some (.p (.int r)), some (.l [enT t, enT u]), some (.p (enT v)), x8, x9, x10, x11] C X := by
  by_cases hr : r = 6
  · subst hr
    obtain ⟨ks, vs, hS⟩ := SdM cs a
    have hp : (0 : Int) < ns.length := by have := List.length_pos_iff.mpr hn; omega
    have hl : (strN ns).length = ns.length := by simp [strN]
    rw [hS]
    simp [wSeq, wIf, wTV, wAnd, wOr, wNot, wAndV, wOrV, wNotV, wIfE, wRd, wCons, wNil, woVar, woE, wVar, wMove, wC, wvCons, wvNil, wTup, wLst, wNext, wRet, wRetN, wDrop, wBrk, wCt, wAsg, wgN, wgNil, wgCons, wgT, wPar, wFor, wYes, wLc, wipeE, backE, wCall, wMeth, wDictNew, wgSub, wSlB, wZipL, wiSeq, wiR1, wiR2, wiStr, wiEnum, wiEnumS, bodyK, takeM, putM, msOf, M.fz, Res.m, M.seq, M.lseq, M.mseq, M.dict, isL, isK, gList, gTuple, gAppend, gGet2, gSetd, setD, gEq, gNe, eqD_ss, eqD_ii, eqD_bb, gIn, gNi, gZip, gAll, gAny, gMul, gInt, cPos, cDiv, cMul, gAdd, slD, sliceF, D.key, List.length_cons, List.length_nil, List.getElem?_cons_succ, List.getElem?_cons_zero, List.getElem?_nil, List.set_cons_succ, List.set_cons_zero, List.getD_cons_succ, List.getD_cons_zero, Option.bind_some, Option.map_some, Option.map_none, Option.bind_none, ixN, atI, HT.sIx, cutD, Option.isSome_some, if_true, if_false, ite_true, ite_false, Bool.false_eq_true, decide_eq_true_eq, Bool.not_true, Bool.not_false, true_and, and_true, ofS_inj, String.reduceEq, reduceIte, decide_true, decide_false, Int.reduceAdd, Nat.reduceLeDiff, Nat.reduceAdd, Nat.zero_add, Nat.le_refl, Nat.zero_le, w_L_term_s11]
    simp [wSeq, wIf, wTV, wAnd, wOr, wNot, wAndV, wOrV, wNotV, wIfE, wRd, wCons, wNil, woVar, woE, wVar, wMove, wC, wvCons, wvNil, wTup, wLst, wNext, wRet, wRetN, wDrop, wBrk, wCt, wAsg, wgN, wgNil, wgCons, wgT, wPar, wFor, wYes, wLc, wipeE, backE, wCall, wMeth, wDictNew, wgSub, wSlB, wZipL, wiSeq, wiR1, wiR2, wiStr, wiEnum, wiEnumS, bodyK, takeM, putM, msOf, M.fz, Res.m, M.seq, M.lseq, M.mseq, M.dict, isL, isK, gList, gTuple, gAppend, gGet2, gSetd, setD, gEq, gNe, eqD_ss, eqD_ii, eqD_bb, gIn, gNi, gZip, gAll, gAny, gMul, gInt, cPos, cDiv, cMul, gAdd, slD, sliceF, D.key, List.length_cons, List.length_nil, List.getElem?_cons_succ, List.getElem?_cons_zero, List.getElem?_nil, List.set_cons_succ, List.set_cons_zero, List.getD_cons_succ, List.getD_cons_zero, Option.bind_some, Option.map_some, Option.map_none, Option.bind_none, ixN, atI, HT.sIx, cutD, Option.isSome_some, if_true, if_false, ite_true, ite_false, Bool.false_eq_true, decide_eq_true_eq, Bool.not_true, Bool.not_false, true_and, and_true, ofS_inj, String.reduceEq, reduceIte, decide_true, decide_false, Int.reduceAdd, Nat.reduceLeDiff, Nat.reduceAdd, Nat.zero_add, Nat.le_refl, Nat.zero_le, w_L_term_s10, gLen, hl]
    rw [← hS]
    refine ⟨cs, a, ns.length, rfl, hp, ha, ha2, fun q q0 q1 o2 => ?_⟩
    obtain ⟨k, hk, e⟩ := gIx_nms q0 q1
    have := h1 k
    simp only [enT] at this
    generalize Sd cs (a + 1) = S at *
    simp [wSeq, wIf, wTV, wAnd, wOr, wNot, wAndV, wOrV, wNotV, wIfE, wRd, wCons, wNil, woVar, woE, wVar, wMove, wC, wvCons, wvNil, wTup, wLst, wNext, wRet, wRetN, wDrop, wBrk, wCt, wAsg, wgN, wgNil, wgCons, wgT, wPar, wFor, wYes, wLc, wipeE, backE, wCall, wMeth, wDictNew, wgSub, wSlB, wZipL, wiSeq, wiR1, wiR2, wiStr, wiEnum, wiEnumS, bodyK, takeM, putM, msOf, M.fz, Res.m, M.seq, M.lseq, M.mseq, M.dict, isL, isK, gList, gTuple, gAppend, gGet2, gSetd, setD, gEq, gNe, eqD_ss, eqD_ii, eqD_bb, gIn, gNi, gZip, gAll, gAny, gMul, gInt, cPos, cDiv, cMul, gAdd, slD, sliceF, D.key, List.length_cons, List.length_nil, List.getElem?_cons_succ, List.getElem?_cons_zero, List.getElem?_nil, List.set_cons_succ, List.set_cons_zero, List.getD_cons_succ, List.getD_cons_zero, Option.bind_some, Option.map_some, Option.map_none, Option.bind_none, ixN, atI, HT.sIx, cutD, Option.isSome_some, if_true, if_false, ite_true, ite_false, Bool.false_eq_true, decide_eq_true_eq, Bool.not_true, Bool.not_false, true_and, and_true, ofS_inj, String.reduceEq, reduceIte, decide_true, decide_false, Int.reduceAdd, Nat.reduceLeDiff, Nat.reduceAdd, Nat.zero_add, Nat.le_refl, Nat.zero_le, e]
    exact this
  · generalize Sd cs a = S at *
    simp [wSeq, wIf, wTV, wAnd, wOr, wNot, wAndV, wOrV, wNotV, wIfE, wRd, wCons, wNil, woVar, woE, wVar, wMove, wC, wvCons, wvNil, wTup, wLst, wNext, wRet, wRetN, wDrop, wBrk, wCt, wAsg, wgN, wgNil, wgCons, wgT, wPar, wFor, wYes, wLc, wipeE, backE, wCall, wMeth, wDictNew, wgSub, wSlB, wZipL, wiSeq, wiR1, wiR2, wiStr, wiEnum, wiEnumS, bodyK, takeM, putM, msOf, M.fz, Res.m, M.seq, M.lseq, M.mseq, M.dict, isL, isK, gList, gTuple, gAppend, gGet2, gSetd, setD, gEq, gNe, eqD_ss, eqD_ii, eqD_bb, gIn, gNi, gZip, gAll, gAny, gMul, gInt, cPos, cDiv, cMul, gAdd, slD, sliceF, D.key, List.length_cons, List.length_nil, List.getElem?_cons_succ, List.getElem?_cons_zero, List.getElem?_nil, List.set_cons_succ, List.set_cons_zero, List.getD_cons_succ, List.getD_cons_zero, Option.bind_some, Option.map_some, Option.map_none, Option.bind_none, ixN, atI, HT.sIx, cutD, Option.isSome_some, if_true, if_false, ite_true, ite_false, Bool.false_eq_true, decide_eq_true_eq, Bool.not_true, Bool.not_false, true_and, and_true, ofS_inj, String.reduceEq, reduceIte, decide_true, decide_false, Int.reduceAdd, Nat.reduceLeDiff, Nat.reduceAdd, Nat.zero_add, Nat.le_refl, Nat.zero_le, w_L_term_s11, hr]
    exact h2
theorem tm_s13 (hn : ns ≠ []) (ha : 0 ≤ a) (ha2 : a < 1000000000000) (h1 : ∀ s : Nm, C.rt (.p (enT (.lt s t u))) [some (Sd cs (a + 1)), some (.l (strN ns)), some (.l (strN hs)), some (.p (.int room)), some (.p (.int deep)), some (.p (.int r)), some (.l [enT t, enT u]), some (.p (enT v)), x8, x9, x10, x11]) (h2 : C.nx [some (Sd cs (a)), some (.l (strN ns)), some (.l (strN hs)), some (.p (.int room)), some (.p (.int deep)), some (.p (.int r)), some (.l [enT t, enT u]), some (.p (enT v)), x8, x9, x10, x11]) : w_L_term_s13 sp__law_next [some (Sd cs (a)), some (.l (strN ns)), some (.l (strN hs)), some (.p (.int room)), some (.p (.int deep)), some (.p (.int r)), some (.l [enT t, enT u]), some (.p (enT v)), x8, x9, x10, x11] C X := by
  by_cases hr : r = 7
  · subst hr
    obtain ⟨ks, vs, hS⟩ := SdM cs a
    have hp : (0 : Int) < ns.length := by have := List.length_pos_iff.mpr hn; omega
    have hl : (strN ns).length = ns.length := by simp [strN]
    rw [hS]
    simp [wSeq, wIf, wTV, wAnd, wOr, wNot, wAndV, wOrV, wNotV, wIfE, wRd, wCons, wNil, woVar, woE, wVar, wMove, wC, wvCons, wvNil, wTup, wLst, wNext, wRet, wRetN, wDrop, wBrk, wCt, wAsg, wgN, wgNil, wgCons, wgT, wPar, wFor, wYes, wLc, wipeE, backE, wCall, wMeth, wDictNew, wgSub, wSlB, wZipL, wiSeq, wiR1, wiR2, wiStr, wiEnum, wiEnumS, bodyK, takeM, putM, msOf, M.fz, Res.m, M.seq, M.lseq, M.mseq, M.dict, isL, isK, gList, gTuple, gAppend, gGet2, gSetd, setD, gEq, gNe, eqD_ss, eqD_ii, eqD_bb, gIn, gNi, gZip, gAll, gAny, gMul, gInt, cPos, cDiv, cMul, gAdd, slD, sliceF, D.key, List.length_cons, List.length_nil, List.getElem?_cons_succ, List.getElem?_cons_zero, List.getElem?_nil, List.set_cons_succ, List.set_cons_zero, List.getD_cons_succ, List.getD_cons_zero, Option.bind_some, Option.map_some, Option.map_none, Option.bind_none, ixN, atI, HT.sIx, cutD, Option.isSome_some, if_true, if_false, ite_true, ite_false, Bool.false_eq_true, decide_eq_true_eq, Bool.not_true, Bool.not_false, true_and, and_true, ofS_inj, String.reduceEq, reduceIte, decide_true, decide_false, Int.reduceAdd, Nat.reduceLeDiff, Nat.reduceAdd, Nat.zero_add, Nat.le_refl, Nat.zero_le, w_L_term_s13]
    simp [wSeq, wIf, wTV, wAnd, wOr, wNot, wAndV, wOrV, wNotV, wIfE, wRd, wCons, wNil, woVar, woE, wVar, wMove, wC, wvCons, wvNil, wTup, wLst, wNext, wRet, wRetN, wDrop, wBrk, wCt, wAsg, wgN, wgNil, wgCons, wgT, wPar, wFor, wYes, wLc, wipeE, backE, wCall, wMeth, wDictNew, wgSub, wSlB, wZipL, wiSeq, wiR1, wiR2, wiStr, wiEnum, wiEnumS, bodyK, takeM, putM, msOf, M.fz, Res.m, M.seq, M.lseq, M.mseq, M.dict, isL, isK, gList, gTuple, gAppend, gGet2, gSetd, setD, gEq, gNe, eqD_ss, eqD_ii, eqD_bb, gIn, gNi, gZip, gAll, gAny, gMul, gInt, cPos, cDiv, cMul, gAdd, slD, sliceF, D.key, List.length_cons, List.length_nil, List.getElem?_cons_succ, List.getElem?_cons_zero, List.getElem?_nil, List.set_cons_succ, List.set_cons_zero, List.getD_cons_succ, List.getD_cons_zero, Option.bind_some, Option.map_some, Option.map_none, Option.bind_none, ixN, atI, HT.sIx, cutD, Option.isSome_some, if_true, if_false, ite_true, ite_false, Bool.false_eq_true, decide_eq_true_eq, Bool.not_true, Bool.not_false, true_and, and_true, ofS_inj, String.reduceEq, reduceIte, decide_true, decide_false, Int.reduceAdd, Nat.reduceLeDiff, Nat.reduceAdd, Nat.zero_add, Nat.le_refl, Nat.zero_le, w_L_term_s12, gLen, hl]
    rw [← hS]
    refine ⟨cs, a, ns.length, rfl, hp, ha, ha2, fun q q0 q1 o2 => ?_⟩
    obtain ⟨k, hk, e⟩ := gIx_nms q0 q1
    have := h1 k
    simp only [enT] at this
    generalize Sd cs (a + 1) = S at *
    have i0 : gIx [.l [enT t, enT u], .p (.int 0)] = some (.val (enT t)) := by simp [gIx, M.seq, atI, ixN]
    have i1 : gIx [.l [enT t, enT u], .p (.int 1)] = some (.val (enT u)) := by simp [gIx, M.seq, atI, ixN]
    simp [wSeq, wIf, wTV, wAnd, wOr, wNot, wAndV, wOrV, wNotV, wIfE, wRd, wCons, wNil, woVar, woE, wVar, wMove, wC, wvCons, wvNil, wTup, wLst, wNext, wRet, wRetN, wDrop, wBrk, wCt, wAsg, wgN, wgNil, wgCons, wgT, wPar, wFor, wYes, wLc, wipeE, backE, wCall, wMeth, wDictNew, wgSub, wSlB, wZipL, wiSeq, wiR1, wiR2, wiStr, wiEnum, wiEnumS, bodyK, takeM, putM, msOf, M.fz, Res.m, M.seq, M.lseq, M.mseq, M.dict, isL, isK, gList, gTuple, gAppend, gGet2, gSetd, setD, gEq, gNe, eqD_ss, eqD_ii, eqD_bb, gIn, gNi, gZip, gAll, gAny, gMul, gInt, cPos, cDiv, cMul, gAdd, slD, sliceF, D.key, List.length_cons, List.length_nil, List.getElem?_cons_succ, List.getElem?_cons_zero, List.getElem?_nil, List.set_cons_succ, List.set_cons_zero, List.getD_cons_succ, List.getD_cons_zero, Option.bind_some, Option.map_some, Option.map_none, Option.bind_none, ixN, atI, HT.sIx, cutD, Option.isSome_some, if_true, if_false, ite_true, ite_false, Bool.false_eq_true, decide_eq_true_eq, Bool.not_true, Bool.not_false, true_and, and_true, ofS_inj, String.reduceEq, reduceIte, decide_true, decide_false, Int.reduceAdd, Nat.reduceLeDiff, Nat.reduceAdd, Nat.zero_add, Nat.le_refl, Nat.zero_le, e, i0, i1]
    exact this
  · generalize Sd cs a = S at *
    simp [wSeq, wIf, wTV, wAnd, wOr, wNot, wAndV, wOrV, wNotV, wIfE, wRd, wCons, wNil, woVar, woE, wVar, wMove, wC, wvCons, wvNil, wTup, wLst, wNext, wRet, wRetN, wDrop, wBrk, wCt, wAsg, wgN, wgNil, wgCons, wgT, wPar, wFor, wYes, wLc, wipeE, backE, wCall, wMeth, wDictNew, wgSub, wSlB, wZipL, wiSeq, wiR1, wiR2, wiStr, wiEnum, wiEnumS, bodyK, takeM, putM, msOf, M.fz, Res.m, M.seq, M.lseq, M.mseq, M.dict, isL, isK, gList, gTuple, gAppend, gGet2, gSetd, setD, gEq, gNe, eqD_ss, eqD_ii, eqD_bb, gIn, gNi, gZip, gAll, gAny, gMul, gInt, cPos, cDiv, cMul, gAdd, slD, sliceF, D.key, List.length_cons, List.length_nil, List.getElem?_cons_succ, List.getElem?_cons_zero, List.getElem?_nil, List.set_cons_succ, List.set_cons_zero, List.getD_cons_succ, List.getD_cons_zero, Option.bind_some, Option.map_some, Option.map_none, Option.bind_none, ixN, atI, HT.sIx, cutD, Option.isSome_some, if_true, if_false, ite_true, ite_false, Bool.false_eq_true, decide_eq_true_eq, Bool.not_true, Bool.not_false, true_and, and_true, ofS_inj, String.reduceEq, reduceIte, decide_true, decide_false, Int.reduceAdd, Nat.reduceLeDiff, Nat.reduceAdd, Nat.zero_add, Nat.le_refl, Nat.zero_le, w_L_term_s13, hr]
    exact h2
def lsT : List Tt → Tt
  | [] => .l0 | [a] => .l1 a | [a, b] => .l2 a b | a :: b :: c :: _ => .l3 a b c
theorem tm_s16 (ha : 0 ≤ a) (ha2 : a < 1000000000000) (h : ∀ w : Tt, w = .l0 ∨ w = .l1 t ∨ w = .l2 t u ∨ w = .l3 t u v → ∀ xs, enT w = .tup [.str "list", .tup xs] → C.nx [some (Sd cs (a + 1)), some (.l (strN ns)), some (.l (strN hs)), some (.p (.int room)), some (.p (.int deep)), some (.p (.int r)), some (.l [enT t, enT u]), some (.p (enT v)), x8, some (.p (.tup xs)), x10, x11]) : w_L_term_s16 sp__law_next [some (Sd cs (a)), some (.l (strN ns)), some (.l (strN hs)), some (.p (.int room)), some (.p (.int deep)), some (.p (.int r)), some (.l [enT t, enT u]), some (.p (enT v)), x8, x9, x10, x11] C X := by
  obtain ⟨ks, vs, hS⟩ := SdM cs a
  rw [hS]
  simp [wSeq, wIf, wTV, wAnd, wOr, wNot, wAndV, wOrV, wNotV, wIfE, wRd, wCons, wNil, woVar, woE, wVar, wMove, wC, wvCons, wvNil, wTup, wLst, wNext, wRet, wRetN, wDrop, wBrk, wCt, wAsg, wgN, wgNil, wgCons, wgT, wPar, wFor, wYes, wLc, wipeE, backE, wCall, wMeth, wDictNew, wgSub, wSlB, wZipL, wiSeq, wiR1, wiR2, wiStr, wiEnum, wiEnumS, bodyK, takeM, putM, msOf, M.fz, Res.m, M.seq, M.lseq, M.mseq, M.dict, isL, isK, gList, gTuple, gAppend, gGet2, gSetd, setD, gEq, gNe, eqD_ss, eqD_ii, eqD_bb, gIn, gNi, gZip, gAll, gAny, gMul, gInt, cPos, cDiv, cMul, gAdd, slD, sliceF, D.key, List.length_cons, List.length_nil, List.getElem?_cons_succ, List.getElem?_cons_zero, List.getElem?_nil, List.set_cons_succ, List.set_cons_zero, List.getD_cons_succ, List.getD_cons_zero, Option.bind_some, Option.map_some, Option.map_none, Option.bind_none, ixN, atI, HT.sIx, cutD, Option.isSome_some, if_true, if_false, ite_true, ite_false, Bool.false_eq_true, decide_eq_true_eq, Bool.not_true, Bool.not_false, true_and, and_true, ofS_inj, String.reduceEq, reduceIte, decide_true, decide_false, Int.reduceAdd, Nat.reduceLeDiff, Nat.reduceAdd, Nat.zero_add, Nat.le_refl, Nat.zero_le, w_L_term_s16]
  rw [← hS]
  refine ⟨cs, a, 4, rfl, by decide, ha, ha2, fun q q0 q1 o2 => ?_⟩
  have h0 := h .l0 (by simp) _ rfl
  have h1 := h (.l1 t) (by simp) _ rfl
  have h2 := h (.l2 t u) (by simp) _ rfl
  have h3 := h (.l3 t u v) (by simp) _ rfl
  generalize Sd cs (a + 1) = S at *
  have q4 : q = 0 ∨ q = 1 ∨ q = 2 ∨ q = 3 := by omega
  rcases q4 with rfl | rfl | rfl | rfl
  · simp [wSeq, wIf, wTV, wAnd, wOr, wNot, wAndV, wOrV, wNotV, wIfE, wRd, wCons, wNil, woVar, woE, wVar, wMove, wC, wvCons, wvNil, wTup, wLst, wNext, wRet, wRetN, wDrop, wBrk, wCt, wAsg, wgN, wgNil, wgCons, wgT, wPar, wFor, wYes, wLc, wipeE, backE, wCall, wMeth, wDictNew, wgSub, wSlB, wZipL, wiSeq, wiR1, wiR2, wiStr, wiEnum, wiEnumS, bodyK, takeM, putM, msOf, M.fz, Res.m, M.seq, M.lseq, M.mseq, M.dict, isL, isK, gList, gTuple, gAppend, gGet2, gSetd, setD, gEq, gNe, eqD_ss, eqD_ii, eqD_bb, gIn, gNi, gZip, gAll, gAny, gMul, gInt, cPos, cDiv, cMul, gAdd, slD, sliceF, D.key, List.length_cons, List.length_nil, List.getElem?_cons_succ, List.getElem?_cons_zero, List.getElem?_nil, List.set_cons_succ, List.set_cons_zero, List.getD_cons_succ, List.getD_cons_zero, Option.bind_some, Option.map_some, Option.map_none, Option.bind_none, ixN, atI, HT.sIx, cutD, Option.isSome_some, if_true, if_false, ite_true, ite_false, Bool.false_eq_true, decide_eq_true_eq, Bool.not_true, Bool.not_false, true_and, and_true, ofS_inj, String.reduceEq, reduceIte, decide_true, decide_false, Int.reduceAdd, Nat.reduceLeDiff, Nat.reduceAdd, Nat.zero_add, Nat.le_refl, Nat.zero_le]; exact h0
  · simp [wSeq, wIf, wTV, wAnd, wOr, wNot, wAndV, wOrV, wNotV, wIfE, wRd, wCons, wNil, woVar, woE, wVar, wMove, wC, wvCons, wvNil, wTup, wLst, wNext, wRet, wRetN, wDrop, wBrk, wCt, wAsg, wgN, wgNil, wgCons, wgT, wPar, wFor, wYes, wLc, wipeE, backE, wCall, wMeth, wDictNew, wgSub, wSlB, wZipL, wiSeq, wiR1, wiR2, wiStr, wiEnum, wiEnumS, bodyK, takeM, putM, msOf, M.fz, Res.m, M.seq, M.lseq, M.mseq, M.dict, isL, isK, gList, gTuple, gAppend, gGet2, gSetd, setD, gEq, gNe, eqD_ss, eqD_ii, eqD_bb, gIn, gNi, gZip, gAll, gAny, gMul, gInt, cPos, cDiv, cMul, gAdd, slD, sliceF, D.key, List.length_cons, List.length_nil, List.getElem?_cons_succ, List.getElem?_cons_zero, List.getElem?_nil, List.set_cons_succ, List.set_cons_zero, List.getD_cons_succ, List.getD_cons_zero, Option.bind_some, Option.map_some, Option.map_none, Option.bind_none, ixN, atI, HT.sIx, cutD, Option.isSome_some, if_true, if_false, ite_true, ite_false, Bool.false_eq_true, decide_eq_true_eq, Bool.not_true, Bool.not_false, true_and, and_true, ofS_inj, String.reduceEq, reduceIte, decide_true, decide_false, Int.reduceAdd, Nat.reduceLeDiff, Nat.reduceAdd, Nat.zero_add, Nat.le_refl, Nat.zero_le]; exact h1
  · simp [wSeq, wIf, wTV, wAnd, wOr, wNot, wAndV, wOrV, wNotV, wIfE, wRd, wCons, wNil, woVar, woE, wVar, wMove, wC, wvCons, wvNil, wTup, wLst, wNext, wRet, wRetN, wDrop, wBrk, wCt, wAsg, wgN, wgNil, wgCons, wgT, wPar, wFor, wYes, wLc, wipeE, backE, wCall, wMeth, wDictNew, wgSub, wSlB, wZipL, wiSeq, wiR1, wiR2, wiStr, wiEnum, wiEnumS, bodyK, takeM, putM, msOf, M.fz, Res.m, M.seq, M.lseq, M.mseq, M.dict, isL, isK, gList, gTuple, gAppend, gGet2, gSetd, setD, gEq, gNe, eqD_ss, eqD_ii, eqD_bb, gIn, gNi, gZip, gAll, gAny, gMul, gInt, cPos, cDiv, cMul, gAdd, slD, sliceF, D.key, List.length_cons, List.length_nil, List.getElem?_cons_succ, List.getElem?_cons_zero, List.getElem?_nil, List.set_cons_succ, List.set_cons_zero, List.getD_cons_succ, List.getD_cons_zero, Option.bind_some, Option.map_some, Option.map_none, Option.bind_none, ixN, atI, HT.sIx, cutD, Option.isSome_some, if_true, if_false, ite_true, ite_false, Bool.false_eq_true, decide_eq_true_eq, Bool.not_true, Bool.not_false, true_and, and_true, ofS_inj, String.reduceEq, reduceIte, decide_true, decide_false, Int.reduceAdd, Nat.reduceLeDiff, Nat.reduceAdd, Nat.zero_add, Nat.le_refl, Nat.zero_le]; exact h2
  · simp [wSeq, wIf, wTV, wAnd, wOr, wNot, wAndV, wOrV, wNotV, wIfE, wRd, wCons, wNil, woVar, woE, wVar, wMove, wC, wvCons, wvNil, wTup, wLst, wNext, wRet, wRetN, wDrop, wBrk, wCt, wAsg, wgN, wgNil, wgCons, wgT, wPar, wFor, wYes, wLc, wipeE, backE, wCall, wMeth, wDictNew, wgSub, wSlB, wZipL, wiSeq, wiR1, wiR2, wiStr, wiEnum, wiEnumS, bodyK, takeM, putM, msOf, M.fz, Res.m, M.seq, M.lseq, M.mseq, M.dict, isL, isK, gList, gTuple, gAppend, gGet2, gSetd, setD, gEq, gNe, eqD_ss, eqD_ii, eqD_bb, gIn, gNi, gZip, gAll, gAny, gMul, gInt, cPos, cDiv, cMul, gAdd, slD, sliceF, D.key, List.length_cons, List.length_nil, List.getElem?_cons_succ, List.getElem?_cons_zero, List.getElem?_nil, List.set_cons_succ, List.set_cons_zero, List.getD_cons_succ, List.getD_cons_zero, Option.bind_some, Option.map_some, Option.map_none, Option.bind_none, ixN, atI, HT.sIx, cutD, Option.isSome_some, if_true, if_false, ite_true, ite_false, Bool.false_eq_true, decide_eq_true_eq, Bool.not_true, Bool.not_false, true_and, and_true, ofS_inj, String.reduceEq, reduceIte, decide_true, decide_false, Int.reduceAdd, Nat.reduceLeDiff, Nat.reduceAdd, Nat.zero_add, Nat.le_refl, Nat.zero_le]; exact h3
theorem tm_s17 {xs : List D} {w : Tt} (ew : enT w = .tup [.str "list", .tup xs]) (ha : 0 ≤ a) (ha2 : a < 1000000000000) (h : ∀ z : Tt, z = .pair t u ∨ z = w → C.rt (.p (enT z)) [some (Sd cs (a + 1)), some (.l (strN ns)), some (.l (strN hs)), some (.p (.int room)), some (.p (.int deep)), some (.p (.int r)), some (.l [enT t, enT u]), some (.p (enT v)), x8, some (.p (.tup xs)), x10, x11]) : w_L_term_s17 sp__law_next [some (Sd cs (a)), some (.l (strN ns)), some (.l (strN hs)), some (.p (.int room)), some (.p (.int deep)), some (.p (.int r)), some (.l [enT t, enT u]), some (.p (enT v)), x8, some (.p (.tup xs)), x10, x11] C X := by
  obtain ⟨ks, vs, hS⟩ := SdM cs a
  rw [hS]
  simp [wSeq, wIf, wTV, wAnd, wOr, wNot, wAndV, wOrV, wNotV, wIfE, wRd, wCons, wNil, woVar, woE, wVar, wMove, wC, wvCons, wvNil, wTup, wLst, wNext, wRet, wRetN, wDrop, wBrk, wCt, wAsg, wgN, wgNil, wgCons, wgT, wPar, wFor, wYes, wLc, wipeE, backE, wCall, wMeth, wDictNew, wgSub, wSlB, wZipL, wiSeq, wiR1, wiR2, wiStr, wiEnum, wiEnumS, bodyK, takeM, putM, msOf, M.fz, Res.m, M.seq, M.lseq, M.mseq, M.dict, isL, isK, gList, gTuple, gAppend, gGet2, gSetd, setD, gEq, gNe, eqD_ss, eqD_ii, eqD_bb, gIn, gNi, gZip, gAll, gAny, gMul, gInt, cPos, cDiv, cMul, gAdd, slD, sliceF, D.key, List.length_cons, List.length_nil, List.getElem?_cons_succ, List.getElem?_cons_zero, List.getElem?_nil, List.set_cons_succ, List.set_cons_zero, List.getD_cons_succ, List.getD_cons_zero, Option.bind_some, Option.map_some, Option.map_none, Option.bind_none, ixN, atI, HT.sIx, cutD, Option.isSome_some, if_true, if_false, ite_true, ite_false, Bool.false_eq_true, decide_eq_true_eq, Bool.not_true, Bool.not_false, true_and, and_true, ofS_inj, String.reduceEq, reduceIte, decide_true, decide_false, Int.reduceAdd, Nat.reduceLeDiff, Nat.reduceAdd, Nat.zero_add, Nat.le_refl, Nat.zero_le, w_L_term_s17, gIx]
  rw [← hS]
  refine ⟨cs, a, 2, rfl, by decide, ha, ha2, fun q q0 q1 o2 => ?_⟩
  have h0 := h (.pair t u) (by simp)
  have h1 := h w (by simp)
  rw [ew] at h1
  simp only [enT] at h0
  generalize Sd cs (a + 1) = S at *
  have q4 : q = 0 ∨ q = 1 := by omega
  rcases q4 with rfl | rfl
  · simp [wSeq, wIf, wTV, wAnd, wOr, wNot, wAndV, wOrV, wNotV, wIfE, wRd, wCons, wNil, woVar, woE, wVar, wMove, wC, wvCons, wvNil, wTup, wLst, wNext, wRet, wRetN, wDrop, wBrk, wCt, wAsg, wgN, wgNil, wgCons, wgT, wPar, wFor, wYes, wLc, wipeE, backE, wCall, wMeth, wDictNew, wgSub, wSlB, wZipL, wiSeq, wiR1, wiR2, wiStr, wiEnum, wiEnumS, bodyK, takeM, putM, msOf, M.fz, Res.m, M.seq, M.lseq, M.mseq, M.dict, isL, isK, gList, gTuple, gAppend, gGet2, gSetd, setD, gEq, gNe, eqD_ss, eqD_ii, eqD_bb, gIn, gNi, gZip, gAll, gAny, gMul, gInt, cPos, cDiv, cMul, gAdd, slD, sliceF, D.key, List.length_cons, List.length_nil, List.getElem?_cons_succ, List.getElem?_cons_zero, List.getElem?_nil, List.set_cons_succ, List.set_cons_zero, List.getD_cons_succ, List.getD_cons_zero, Option.bind_some, Option.map_some, Option.map_none, Option.bind_none, ixN, atI, HT.sIx, cutD, Option.isSome_some, if_true, if_false, ite_true, ite_false, Bool.false_eq_true, decide_eq_true_eq, Bool.not_true, Bool.not_false, true_and, and_true, ofS_inj, String.reduceEq, reduceIte, decide_true, decide_false, Int.reduceAdd, Nat.reduceLeDiff, Nat.reduceAdd, Nat.zero_add, Nat.le_refl, Nat.zero_le, gIx]; exact h0
  · simp [wSeq, wIf, wTV, wAnd, wOr, wNot, wAndV, wOrV, wNotV, wIfE, wRd, wCons, wNil, woVar, woE, wVar, wMove, wC, wvCons, wvNil, wTup, wLst, wNext, wRet, wRetN, wDrop, wBrk, wCt, wAsg, wgN, wgNil, wgCons, wgT, wPar, wFor, wYes, wLc, wipeE, backE, wCall, wMeth, wDictNew, wgSub, wSlB, wZipL, wiSeq, wiR1, wiR2, wiStr, wiEnum, wiEnumS, bodyK, takeM, putM, msOf, M.fz, Res.m, M.seq, M.lseq, M.mseq, M.dict, isL, isK, gList, gTuple, gAppend, gGet2, gSetd, setD, gEq, gNe, eqD_ss, eqD_ii, eqD_bb, gIn, gNi, gZip, gAll, gAny, gMul, gInt, cPos, cDiv, cMul, gAdd, slD, sliceF, D.key, List.length_cons, List.length_nil, List.getElem?_cons_succ, List.getElem?_cons_zero, List.getElem?_nil, List.set_cons_succ, List.set_cons_zero, List.getD_cons_succ, List.getD_cons_zero, Option.bind_some, Option.map_some, Option.map_none, Option.bind_none, ixN, atI, HT.sIx, cutD, Option.isSome_some, if_true, if_false, ite_true, ite_false, Bool.false_eq_true, decide_eq_true_eq, Bool.not_true, Bool.not_false, true_and, and_true, ofS_inj, String.reduceEq, reduceIte, decide_true, decide_false, Int.reduceAdd, Nat.reduceLeDiff, Nat.reduceAdd, Nat.zero_add, Nat.le_refl, Nat.zero_le, gIx]; exact h1
theorem tm_s18 (ha : 0 ≤ a) (ha2 : a + 2 < 1000000000000) (h : ∀ w : Tt, w = .pair t u ∨ w = .l0 ∨ w = .l1 t ∨ w = .l2 t u ∨ w = .l3 t u v → ∀ x9, C.rt (.p (enT w)) [some (Sd cs (a + 2)), some (.l (strN ns)), some (.l (strN hs)), some (.p (.int room)), some (.p (.int deep)), some (.p (.int r)), some (.l [enT t, enT u]), some (.p (enT v)), x8, x9, x10, x11]) (h2 : C.nx [some (Sd cs (a)), some (.l (strN ns)), some (.l (strN hs)), some (.p (.int room)), some (.p (.int deep)), some (.p (.int r)), some (.l [enT t, enT u]), some (.p (enT v)), x8, x9, x10, x11]) : w_L_term_s18 sp__law_next [some (Sd cs (a)), some (.l (strN ns)), some (.l (strN hs)), some (.p (.int room)), some (.p (.int deep)), some (.p (.int r)), some (.l [enT t, enT u]), some (.p (enT v)), x8, x9, x10, x11] C X := by
  by_cases hr : r = 9
  · subst hr
    have base : wSeq (w_L_term_s16 sp__law_next) (w_L_term_s17 sp__law_next) [some (Sd cs (a)), some (.l (strN ns)), some (.l (strN hs)), some (.p (.int room)), some (.p (.int deep)), some (.p (.int 9)), some (.l [enT t, enT u]), some (.p (enT v)), x8, x9, x10, x11] C X := by
      simp only [wSeq]
      refine tm_s16 ha (by omega) fun w hw xs ew => ?_
      refine tm_s17 ew (by omega) (by omega) fun z hz => ?_
      have e : a + 1 + 1 = a + 2 := by omega
      rw [e]
      rcases hz with rfl | rfl
      · exact h _ (.inl rfl) _
      · exact h _ (.inr hw) _
    generalize Sd cs a = S at *
    simp only [w_L_term_s18, wIf, wTV, wRd, wCons, woVar, woE, wC, wNil, msOf, gEq, M.fz, eqD_ii, List.getElem?_cons_succ, List.getElem?_cons_zero, Option.map_some, Option.bind_some, Res.m, decide_true, if_true]
    exact base
  · generalize Sd cs a = S at *
    simp [wSeq, wIf, wTV, wAnd, wOr, wNot, wAndV, wOrV, wNotV, wIfE, wRd, wCons, wNil, woVar, woE, wVar, wMove, wC, wvCons, wvNil, wTup, wLst, wNext, wRet, wRetN, wDrop, wBrk, wCt, wAsg, wgN, wgNil, wgCons, wgT, wPar, wFor, wYes, wLc, wipeE, backE, wCall, wMeth, wDictNew, wgSub, wSlB, wZipL, wiSeq, wiR1, wiR2, wiStr, wiEnum, wiEnumS, bodyK, takeM, putM, msOf, M.fz, Res.m, M.seq, M.lseq, M.mseq, M.dict, isL, isK, gList, gTuple, gAppend, gGet2, gSetd, setD, gEq, gNe, eqD_ss, eqD_ii, eqD_bb, gIn, gNi, gZip, gAll, gAny, gMul, gInt, cPos, cDiv, cMul, gAdd, slD, sliceF, D.key, List.length_cons, List.length_nil, List.getElem?_cons_succ, List.getElem?_cons_zero, List.getElem?_nil, List.set_cons_succ, List.set_cons_zero, List.getD_cons_succ, List.getD_cons_zero, Option.bind_some, Option.map_some, Option.map_none, Option.bind_none, ixN, atI, HT.sIx, cutD, Option.isSome_some, if_true, if_false, ite_true, ite_false, Bool.false_eq_true, decide_eq_true_eq, Bool.not_true, Bool.not_false, true_and, and_true, ofS_inj, String.reduceEq, reduceIte, decide_true, decide_false, Int.reduceAdd, Nat.reduceLeDiff, Nat.reduceAdd, Nat.zero_add, Nat.le_refl, Nat.zero_le, w_L_term_s18, hr]
    exact h2
theorem tm_e2 {Cm : M → Env → Prop} {w : Tt} (ha : 0 ≤ a) (ha2 : a + 10 < 1000000000000) (h : ∀ (p : Pt) (a' : Int), a ≤ a' → a' ≤ a + 6 → Cm (.p (.tup [p.1, enT w])) [some (Sd cs (a')), some (.l (strN ns)), some (.l (strN hs)), some (.p (.int room)), some (.p (.int deep)), some (.p (.int r)), some (.l [enT t, enT u]), some (.p (enT v)), x8, x9, x10, some (.p (enT w))]) : w_L_term_e2 sp__law_pattern [some (Sd cs (a)), some (.l (strN ns)), some (.l (strN hs)), some (.p (.int room)), some (.p (.int deep)), some (.p (.int r)), some (.l [enT t, enT u]), some (.p (enT v)), x8, x9, x10, some (.p (enT w))] Cm X := by
  obtain ⟨ks, vs, hS⟩ := SdM cs a
  rw [hS]
  simp [wSeq, wIf, wTV, wAnd, wOr, wNot, wAndV, wOrV, wNotV, wIfE, wRd, wCons, wNil, woVar, woE, wVar, wMove, wC, wvCons, wvNil, wTup, wLst, wNext, wRet, wRetN, wDrop, wBrk, wCt, wAsg, wgN, wgNil, wgCons, wgT, wPar, wFor, wYes, wLc, wipeE, backE, wCall, wMeth, wDictNew, wgSub, wSlB, wZipL, wiSeq, wiR1, wiR2, wiStr, wiEnum, wiEnumS, bodyK, takeM, putM, msOf, M.fz, Res.m, M.seq, M.lseq, M.mseq, M.dict, isL, isK, gList, gTuple, gAppend, gGet2, gSetd, setD, gEq, gNe, eqD_ss, eqD_ii, eqD_bb, gIn, gNi, gZip, gAll, gAny, gMul, gInt, cPos, cDiv, cMul, gAdd, slD, sliceF, D.key, List.length_cons, List.length_nil, List.getElem?_cons_succ, List.getElem?_cons_zero, List.getElem?_nil, List.set_cons_succ, List.set_cons_zero, List.getD_cons_succ, List.getD_cons_zero, Option.bind_some, Option.map_some, Option.map_none, Option.bind_none, ixN, atI, HT.sIx, cutD, Option.isSome_some, if_true, if_false, ite_true, ite_false, Bool.false_eq_true, decide_eq_true_eq, Bool.not_true, Bool.not_false, true_and, and_true, ofS_inj, String.reduceEq, reduceIte, decide_true, decide_false, Int.reduceAdd, Nat.reduceLeDiff, Nat.reduceAdd, Nat.zero_add, Nat.le_refl, Nat.zero_le, w_L_term_e2]
  rw [← hS]
  refine ⟨cs, a, hs, rfl, ha, ha2, fun p a' z1 z2 => ?_⟩
  have := h p a' z1 z2
  generalize Sd cs a' = S at *
  simp [wSeq, wIf, wTV, wAnd, wOr, wNot, wAndV, wOrV, wNotV, wIfE, wRd, wCons, wNil, woVar, woE, wVar, wMove, wC, wvCons, wvNil, wTup, wLst, wNext, wRet, wRetN, wDrop, wBrk, wCt, wAsg, wgN, wgNil, wgCons, wgT, wPar, wFor, wYes, wLc, wipeE, backE, wCall, wMeth, wDictNew, wgSub, wSlB, wZipL, wiSeq, wiR1, wiR2, wiStr, wiEnum, wiEnumS, bodyK, takeM, putM, msOf, M.fz, Res.m, M.seq, M.lseq, M.mseq, M.dict, isL, isK, gList, gTuple, gAppend, gGet2, gSetd, setD, gEq, gNe, eqD_ss, eqD_ii, eqD_bb, gIn, gNi, gZip, gAll, gAny, gMul, gInt, cPos, cDiv, cMul, gAdd, slD, sliceF, D.key, List.length_cons, List.length_nil, List.getElem?_cons_succ, List.getElem?_cons_zero, List.getElem?_nil, List.set_cons_succ, List.set_cons_zero, List.getD_cons_succ, List.getD_cons_zero, Option.bind_some, Option.map_some, Option.map_none, Option.bind_none, ixN, atI, HT.sIx, cutD, Option.isSome_some, if_true, if_false, ite_true, ite_false, Bool.false_eq_true, decide_eq_true_eq, Bool.not_true, Bool.not_false, true_and, and_true, ofS_inj, String.reduceEq, reduceIte, decide_true, decide_false, Int.reduceAdd, Nat.reduceLeDiff, Nat.reduceAdd, Nat.zero_add, Nat.le_refl, Nat.zero_le]
  exact this
theorem tm_s19 (ha : 0 ≤ a) (ha2 : a + 20 < 1000000000000) (h1 : ∀ (p : Pt) (a' : Int), a ≤ a' → a' ≤ a + 13 → C.nx [some (Sd cs (a')), some (.l (strN ns)), some (.l (strN hs)), some (.p (.int room)), some (.p (.int deep)), some (.p (.int r)), some (.l [enT t, enT u]), some (.p (enT v)), some (.l [.tup [p.1, enT t]]), x9, x10, none]) (h2 : ∀ (p q : Pt) (a' : Int), a ≤ a' → a' ≤ a + 13 → C.nx [some (Sd cs (a')), some (.l (strN ns)), some (.l (strN hs)), some (.p (.int room)), some (.p (.int deep)), some (.p (.int r)), some (.l [enT t, enT u]), some (.p (enT v)), some (.l [.tup [p.1, enT t], .tup [q.1, enT u]]), x9, x10, none]) : w_L_term_s19 sp__law_next sp__law_pattern [some (Sd cs (a)), some (.l (strN ns)), some (.l (strN hs)), some (.p (.int room)), some (.p (.int deep)), some (.p (.int r)), some (.l [enT t, enT u]), some (.p (enT v)), x8, x9, x10, none] C X := by
  obtain ⟨ks, vs, hS⟩ := SdM cs a
  rw [hS]
  simp [wSeq, wIf, wTV, wAnd, wOr, wNot, wAndV, wOrV, wNotV, wIfE, wRd, wCons, wNil, woVar, woE, wVar, wMove, wC, wvCons, wvNil, wTup, wLst, wNext, wRet, wRetN, wDrop, wBrk, wCt, wAsg, wgN, wgNil, wgCons, wgT, wPar, wFor, wYes, wLc, wipeE, backE, wCall, wMeth, wDictNew, wgSub, wSlB, wZipL, wiSeq, wiR1, wiR2, wiStr, wiEnum, wiEnumS, bodyK, takeM, putM, msOf, M.fz, Res.m, M.seq, M.lseq, M.mseq, M.dict, isL, isK, gList, gTuple, gAppend, gGet2, gSetd, setD, gEq, gNe, eqD_ss, eqD_ii, eqD_bb, gIn, gNi, gZip, gAll, gAny, gMul, gInt, cPos, cDiv, cMul, gAdd, slD, sliceF, D.key, List.length_cons, List.length_nil, List.getElem?_cons_succ, List.getElem?_cons_zero, List.getElem?_nil, List.set_cons_succ, List.set_cons_zero, List.getD_cons_succ, List.getD_cons_zero, Option.bind_some, Option.map_some, Option.map_none, Option.bind_none, ixN, atI, HT.sIx, cutD, Option.isSome_some, if_true, if_false, ite_true, ite_false, Bool.false_eq_true, decide_eq_true_eq, Bool.not_true, Bool.not_false, true_and, and_true, ofS_inj, String.reduceEq, reduceIte, decide_true, decide_false, Int.reduceAdd, Nat.reduceLeDiff, Nat.reduceAdd, Nat.zero_add, Nat.le_refl, Nat.zero_le, w_L_term_s19]
  rw [← hS]
  refine ⟨cs, a, 2, rfl, by decide, ha, by omega, fun q q0 q1 o2 => ?_⟩
  obtain ⟨ks, vs, hS2⟩ := SdM cs (a + 1)
  have q4 : q = 0 ∨ q = 1 := by omega
  rcases q4 with rfl | rfl
  · rw [hS2]
    simp [wSeq, wIf, wTV, wAnd, wOr, wNot, wAndV, wOrV, wNotV, wIfE, wRd, wCons, wNil, woVar, woE, wVar, wMove, wC, wvCons, wvNil, wTup, wLst, wNext, wRet, wRetN, wDrop, wBrk, wCt, wAsg, wgN, wgNil, wgCons, wgT, wPar, wFor, wYes, wLc, wipeE, backE, wCall, wMeth, wDictNew, wgSub, wSlB, wZipL, wiSeq, wiR1, wiR2, wiStr, wiEnum, wiEnumS, bodyK, takeM, putM, msOf, M.fz, Res.m, M.seq, M.lseq, M.mseq, M.dict, isL, isK, gList, gTuple, gAppend, gGet2, gSetd, setD, gEq, gNe, eqD_ss, eqD_ii, eqD_bb, gIn, gNi, gZip, gAll, gAny, gMul, gInt, cPos, cDiv, cMul, gAdd, slD, sliceF, D.key, List.length_cons, List.length_nil, List.getElem?_cons_succ, List.getElem?_cons_zero, List.getElem?_nil, List.set_cons_succ, List.set_cons_zero, List.getD_cons_succ, List.getD_cons_zero, Option.bind_some, Option.map_some, Option.map_none, Option.bind_none, ixN, atI, HT.sIx, cutD, Option.isSome_some, if_true, if_false, ite_true, ite_false, Bool.false_eq_true, decide_eq_true_eq, Bool.not_true, Bool.not_false, true_and, and_true, ofS_inj, String.reduceEq, reduceIte, decide_true, decide_false, Int.reduceAdd, Nat.reduceLeDiff, Nat.reduceAdd, Nat.zero_add, Nat.le_refl, Nat.zero_le]
    rw [← hS2]
    simp only [wLcL, w_L_term_g2, wgN, wYes, List.set_cons_succ, List.set_cons_zero, List.getElem?_cons_succ, List.getElem?_cons_zero, if_true]
    refine tm_e2 (by omega) (by omega) fun p a1 z1 z2 => ?_
    simp only [M.fz, wipeE, List.set_cons_succ, List.set_cons_zero, List.length_cons, List.length_nil, Nat.reduceAdd, Nat.reduceLT, true_and, and_true, List.nil_append]
    have := h1 p a1 (by omega) (by omega)
    generalize Sd cs a1 = S at *
    simp [wSeq, wIf, wTV, wAnd, wOr, wNot, wAndV, wOrV, wNotV, wIfE, wRd, wCons, wNil, woVar, woE, wVar, wMove, wC, wvCons, wvNil, wTup, wLst, wNext, wRet, wRetN, wDrop, wBrk, wCt, wAsg, wgN, wgNil, wgCons, wgT, wPar, wFor, wYes, wLc, wipeE, backE, wCall, wMeth, wDictNew, wgSub, wSlB, wZipL, wiSeq, wiR1, wiR2, wiStr, wiEnum, wiEnumS, bodyK, takeM, putM, msOf, M.fz, Res.m, M.seq, M.lseq, M.mseq, M.dict, isL, isK, gList, gTuple, gAppend, gGet2, gSetd, setD, gEq, gNe, eqD_ss, eqD_ii, eqD_bb, gIn, gNi, gZip, gAll, gAny, gMul, gInt, cPos, cDiv, cMul, gAdd, slD, sliceF, D.key, List.length_cons, List.length_nil, List.getElem?_cons_succ, List.getElem?_cons_zero, List.getElem?_nil, List.set_cons_succ, List.set_cons_zero, List.getD_cons_succ, List.getD_cons_zero, Option.bind_some, Option.map_some, Option.map_none, Option.bind_none, ixN, atI, HT.sIx, cutD, Option.isSome_some, if_true, if_false, ite_true, ite_false, Bool.false_eq_true, decide_eq_true_eq, Bool.not_true, Bool.not_false, true_and, and_true, ofS_inj, String.reduceEq, reduceIte, decide_true, decide_false, Int.reduceAdd, Nat.reduceLeDiff, Nat.reduceAdd, Nat.zero_add, Nat.le_refl, Nat.zero_le]
    exact this
  · rw [hS2]
    simp [wSeq, wIf, wTV, wAnd, wOr, wNot, wAndV, wOrV, wNotV, wIfE, wRd, wCons, wNil, woVar, woE, wVar, wMove, wC, wvCons, wvNil, wTup, wLst, wNext, wRet, wRetN, wDrop, wBrk, wCt, wAsg, wgN, wgNil, wgCons, wgT, wPar, wFor, wYes, wLc, wipeE, backE, wCall, wMeth, wDictNew, wgSub, wSlB, wZipL, wiSeq, wiR1, wiR2, wiStr, wiEnum, wiEnumS, bodyK, takeM, putM, msOf, M.fz, Res.m, M.seq, M.lseq, M.mseq, M.dict, isL, isK, gList, gTuple, gAppend, gGet2, gSetd, setD, gEq, gNe, eqD_ss, eqD_ii, eqD_bb, gIn, gNi, gZip, gAll, gAny, gMul, gInt, cPos, cDiv, cMul, gAdd, slD, sliceF, D.key, List.length_cons, List.length_nil, List.getElem?_cons_succ, List.getElem?_cons_zero, List.getElem?_nil, List.set_cons_succ, List.set_cons_zero, List.getD_cons_succ, List.getD_cons_zero, Option.bind_some, Option.map_some, Option.map_none, Option.bind_none, ixN, atI, HT.sIx, cutD, Option.isSome_some, if_true, if_false, ite_true, ite_false, Bool.false_eq_true, decide_eq_true_eq, Bool.not_true, Bool.not_false, true_and, and_true, ofS_inj, String.reduceEq, reduceIte, decide_true, decide_false, Int.reduceAdd, Nat.reduceLeDiff, Nat.reduceAdd, Nat.zero_add, Nat.le_refl, Nat.zero_le]
    rw [← hS2]
    simp only [wLcL, w_L_term_g2, wgN, wYes, List.set_cons_succ, List.set_cons_zero, List.getElem?_cons_succ, List.getElem?_cons_zero, if_true]
    refine tm_e2 (by omega) (by omega) fun p a1 z1 z2 => ?_
    simp only [M.fz, wipeE, List.set_cons_succ, List.set_cons_zero, List.getElem?_cons_succ, List.getElem?_cons_zero, List.length_cons, List.length_nil, Nat.reduceAdd, Nat.reduceLT, true_and, and_true, List.nil_append]
    refine tm_e2 (by omega) (by omega) fun q a2 y1 y2 => ?_
    simp only [M.fz, wipeE, List.set_cons_succ, List.set_cons_zero, List.length_cons, List.length_nil, Nat.reduceAdd, Nat.reduceLT, true_and, and_true, List.nil_append, List.cons_append]
    have := h2 p q a2 (by omega) (by omega)
    generalize Sd cs a2 = S at *
    simp [wSeq, wIf, wTV, wAnd, wOr, wNot, wAndV, wOrV, wNotV, wIfE, wRd, wCons, wNil, woVar, woE, wVar, wMove, wC, wvCons, wvNil, wTup, wLst, wNext, wRet, wRetN, wDrop, wBrk, wCt, wAsg, wgN, wgNil, wgCons, wgT, wPar, wFor, wYes, wLc, wipeE, backE, wCall, wMeth, wDictNew, wgSub, wSlB, wZipL, wiSeq, wiR1, wiR2, wiStr, wiEnum, wiEnumS, bodyK, takeM, putM, msOf, M.fz, Res.m, M.seq, M.lseq, M.mseq, M.dict, isL, isK, gList, gTuple, gAppend, gGet2, gSetd, setD, gEq, gNe, eqD_ss, eqD_ii, eqD_bb, gIn, gNi, gZip, gAll, gAny, gMul, gInt, cPos, cDiv, cMul, gAdd, slD, sliceF, D.key, List.length_cons, List.length_nil, List.getElem?_cons_succ, List.getElem?_cons_zero, List.getElem?_nil, List.set_cons_succ, List.set_cons_zero, List.getD_cons_succ, List.getD_cons_zero, Option.bind_some, Option.map_some, Option.map_none, Option.bind_none, ixN, atI, HT.sIx, cutD, Option.isSome_some, if_true, if_false, ite_true, ite_false, Bool.false_eq_true, decide_eq_true_eq, Bool.not_true, Bool.not_false, true_and, and_true, ofS_inj, String.reduceEq, reduceIte, decide_true, decide_false, Int.reduceAdd, Nat.reduceLeDiff, Nat.reduceAdd, Nat.zero_add, Nat.le_refl, Nat.zero_le]
    exact this
theorem tm_s20 {xs : List D} (h : C.rt (.p (.tup [.str "case", enT v, .tup xs])) [some (Sd cs (a)), some (.l (strN ns)), some (.l (strN hs)), some (.p (.int room)), some (.p (.int deep)), some (.p (.int r)), some (.l [enT t, enT u]), some (.p (enT v)), some (.l xs), x9, x10, x11]) : w_L_term_s20 [some (Sd cs (a)), some (.l (strN ns)), some (.l (strN hs)), some (.p (.int room)), some (.p (.int deep)), some (.p (.int r)), some (.l [enT t, enT u]), some (.p (enT v)), some (.l xs), x9, x10, x11] C X := by
  generalize Sd cs a = S at *
  simp [wSeq, wIf, wTV, wAnd, wOr, wNot, wAndV, wOrV, wNotV, wIfE, wRd, wCons, wNil, woVar, woE, wVar, wMove, wC, wvCons, wvNil, wTup, wLst, wNext, wRet, wRetN, wDrop, wBrk, wCt, wAsg, wgN, wgNil, wgCons, wgT, wPar, wFor, wYes, wLc, wipeE, backE, wCall, wMeth, wDictNew, wgSub, wSlB, wZipL, wiSeq, wiR1, wiR2, wiStr, wiEnum, wiEnumS, bodyK, takeM, putM, msOf, M.fz, Res.m, M.seq, M.lseq, M.mseq, M.dict, isL, isK, gList, gTuple, gAppend, gGet2, gSetd, setD, gEq, gNe, eqD_ss, eqD_ii, eqD_bb, gIn, gNi, gZip, gAll, gAny, gMul, gInt, cPos, cDiv, cMul, gAdd, slD, sliceF, D.key, List.length_cons, List.length_nil, List.getElem?_cons_succ, List.getElem?_cons_zero, List.getElem?_nil, List.set_cons_succ, List.set_cons_zero, List.getD_cons_succ, List.getD_cons_zero, Option.bind_some, Option.map_some, Option.map_none, Option.bind_none, ixN, atI, HT.sIx, cutD, Option.isSome_some, if_true, if_false, ite_true, ite_false, Bool.false_eq_true, decide_eq_true_eq, Bool.not_true, Bool.not_false, true_and, and_true, ofS_inj, String.reduceEq, reduceIte, decide_true, decide_false, Int.reduceAdd, Nat.reduceLeDiff, Nat.reduceAdd, Nat.zero_add, Nat.le_refl, Nat.zero_le, w_L_term_s20]
  exact h
end BV

namespace BV
open PySem L2 PyProof.Rows
theorem seq_i {a b : WS} {e : Env} {C : KS} {X : KX} (h : a e { C with nx := fun e1 => b e1 C X } X) : wSeq a b e C X := h
theorem hw_L_term (n : Nat) : ∀ ms C CX, ms.length = 5 → sp__law_term (n + 1) ms C CX → w_L_term sp__law_next sp__law_leaf (sp__law_term n) sp__law_pattern (env0 N_L_term ms) (bodyK pr_L_term 5 C) (fun x e => CX x (outs pr_L_term 5 e)) := by
  intro ms C CX _ h
  obtain ⟨cs, a, ns, hs, room, deep, rfl, hn, d1, d2, r0, r1, ha, hb, h⟩ := h
  have hp : (0 : Int) < 4 ^ n := Int.pow_pos (by decide)
  have h4 : (4 : Int) ^ (n + 1) = 4 * 4 ^ n := by rw [Int.pow_succ, Int.mul_comm]
  have h3 : (3 : Nat) ^ (n + 1) = 3 * 3 ^ n := by rw [Nat.pow_succ, Nat.mul_comm]
  have hq : 0 < 3 ^ n := Nat.pow_pos (by decide)
  rw [h4] at hb h
  have h' : ∀ (t : Tt) (a' : Int), 2 * (paT t).length + 1 ≤ 3 * 3 ^ n → htT t ≤ 3 * n + 3 → a ≤ a' → a' ≤ a + 16 * (4 * 4 ^ n) → ∀ x3 x4 x5 x6 x7 x8 x9 x10 x11, C (.p (enT t)) (outs pr_L_term 5 [some (Sd cs a'), some (.l (strN ns)), some (.l (strN hs)), x3, x4, x5, x6, x7, x8, x9, x10, x11]) := fun t a' z1 z2 z3 z4 _ _ _ _ _ _ _ _ _ => h t a' ⟨by rw [h3]; exact z1, by omega⟩ z3 z4 _ _
  have dd : deep ≤ (n : Int) + 1 := by omega
  unfold w_L_term
  rw [e_L_term]
  refine seq_i ?_
  refine tm_s1 (X := fun x e => CX x (outs pr_L_term 5 e)) ha (by omega) fun r q0 q1 => ?_
  dsimp only
  refine seq_i ?_
  refine tm_s3 (X := fun x e => CX x (outs pr_L_term 5 e)) hn (by omega) (by omega) (fun x a' z1 z2 => ?_) fun w1 w2 w3 => ?_
  · exact h' (.leaf x) a' (by simp only [paT, List.length_cons, List.length_nil]; omega) (by simp only [htT]; omega) (by omega) (by omega) _ _ _ _ _ _ _ _ _
  dsimp only
  refine seq_i ?_
  refine tm_s4 (X := fun x e => CX x (outs pr_L_term 5 e)) hn (by omega) (by omega) w2 dd w1 r1 fun t u a1 bt bu z1 z2 => ?_
  dsimp only
  refine seq_i ?_
  refine tm_s5 (X := fun x e => CX x (outs pr_L_term 5 e)) hn (by omega) (by omega) w2 dd w1 r1 fun v a2 bv z3 z4 => ?_
  obtain ⟨bt1, bt2⟩ := bt
  obtain ⟨bu1, bu2⟩ := bu
  obtain ⟨bv1, bv2⟩ := bv
  dsimp only
  refine seq_i ?_
  refine tm_s7 (X := fun x e => CX x (outs pr_L_term 5 e)) (by omega) (by omega) (fun s => ?_) fun w4 => ?_
  · exact h' (.two s t u) (a2 + 1) (by simp [paT]; omega) (by simp [htT]; omega) (by omega) (by omega) _ _ _ _ _ _ _ _ _
  dsimp only
  refine seq_i ?_
  refine tm_s9 (X := fun x e => CX x (outs pr_L_term 5 e)) ?_ ?_
  · exact h' (.call t u) a2 (by simp [paT]; omega) (by simp [htT]; omega) (by omega) (by omega) _ _ _ _ _ _ _ _ _
  dsimp only
  refine seq_i ?_
  refine tm_s11 (X := fun x e => CX x (outs pr_L_term 5 e)) hn (by omega) (by omega) (fun s => ?_) ?_
  · exact h' (.fn s v) (a2 + 1) (by simp [paT]; omega) (by simp [htT]; omega) (by omega) (by omega) _ _ _ _ _ _ _ _ _
  dsimp only
  refine seq_i ?_
  refine tm_s13 (X := fun x e => CX x (outs pr_L_term 5 e)) hn (by omega) (by omega) (fun s => ?_) ?_
  · exact h' (.lt s t u) (a2 + 1) (by simp [paT]; omega) (by simp [htT]; omega) (by omega) (by omega) _ _ _ _ _ _ _ _ _
  dsimp only
  refine seq_i ?_
  refine tm_s15 (X := fun x e => CX x (outs pr_L_term 5 e)) ?_ ?_
  · exact h' (.iff v t u) a2 (by simp [paT]; omega) (by simp [htT]; omega) (by omega) (by omega) _ _ _ _ _ _ _ _ _
  dsimp only
  refine seq_i ?_
  refine tm_s18 (X := fun x e => CX x (outs pr_L_term 5 e)) (by omega) (by omega) (fun w hw x9 => ?_) ?_
  · refine h' w (a2 + 2) ?_ ?_ (by omega) (by omega) _ _ _ _ _ _ _ _ _
    · rcases hw with rfl | rfl | rfl | rfl | rfl <;> simp [paT] <;> omega
    · rcases hw with rfl | rfl | rfl | rfl | rfl <;> simp [htT] <;> omega
  dsimp only
  refine seq_i ?_
  refine tm_s19 (X := fun x e => CX x (outs pr_L_term 5 e)) (by omega) (by omega) (fun p a3 y1 y2 => ?_) fun p q a3 y1 y2 => ?_
  · refine tm_s20 (X := fun x e => CX x (outs pr_L_term 5 e)) ?_
    exact h' (.c1 v p t) a3 (by simp [paT]; omega) (by simp [htT]; omega) (by omega) (by omega) _ _ _ _ _ _ _ _ _
  · refine tm_s20 (X := fun x e => CX x (outs pr_L_term 5 e)) ?_
    exact h' (.c2 v p t q u) a3 (by simp [paT]; omega) (by simp [htT]; omega) (by omega) (by omega) _ _ _ _ _ _ _ _ _
end BV

namespace BV
open PySem L2 PyProof.Rows
theorem isi_L (ds : List D) : gIsi [.l ds, .p (.ty "list")] = some (.val (.bl true)) := by
  have : L2.kitB "list" "list" = some true := by decide
  simp [gIsi, tyName, this]
def sp__law_again (S : Addr → Option WF) : WF := fun ms C CX => ∃ (f : Addr) (x : D) (ds : List D) (sp : WF) (nd : Nat), ms = [.p (.fn f), .p x, .l ds] ∧ S f = some sp ∧
  (∀ C CX, (∀ o, C (.l ds) [o]) → sp [.p x] C CX) ∧ ds.length < 100000 ∧ Pyn nd (.lst ds) ∧ nd ≤ 64 ∧ ∀ o1 o2, C (.p (.bl true)) [o1, o2, some (.l ds)]
theorem ag_b1 {S : Addr → Option WF} {f : Addr} {x : D} {ds : List D} {sp : WF} {nd : Nat} {C : KS} {X : KX} {x3 x4 : Option M} (hS : S f = some sp) (hsp : ∀ C CX, (∀ o, C (.l ds) [o]) → sp [.p x] C CX) (hl : ds.length < 100000) (hp : Pyn nd (.lst ds)) (hd : nd ≤ 64)
    (h : ∀ y, C.nx [some (.p (.fn f)), some (.p x), some (.l ds), x3, y]) : w_L_again_b1 S [some (.p (.fn f)), some (.p x), some (.l ds), x3, x4] C X := by
  have es := eqD_self hp hd
  simp only [w_L_again_b1, wSeq, w_L_again_s1, wAsg, wCallV]
  refine ⟨f, sp, rfl, hS, ?_⟩
  simp [wSeq, wIf, wTV, wAnd, wOr, wNot, wAndV, wOrV, wNotV, wIfE, wRd, wCons, wNil, woVar, woE, wVar, wMove, wC, wvCons, wvNil, wTup, wLst, wNext, wRet, wRetN, wDrop, wBrk, wCt, wAsg, wgN, wgNil, wgCons, wgT, wPar, wFor, wYes, wLc, wipeE, backE, wCall, wMeth, wDictNew, wgSub, wSlB, wZipL, wiSeq, wiR1, wiR2, wiStr, wiEnum, wiEnumS, bodyK, takeM, putM, msOf, M.fz, Res.m, M.seq, M.lseq, M.mseq, M.dict, isL, isK, gList, gTuple, gAppend, gGet2, gSetd, setD, gEq, gNe, eqD_ss, eqD_ii, eqD_bb, gIn, gNi, gZip, gAll, gAny, gMul, gInt, cPos, cDiv, cMul, gAdd, slD, sliceF, D.key, List.length_cons, List.length_nil, List.getElem?_cons_succ, List.getElem?_cons_zero, List.getElem?_nil, List.set_cons_succ, List.set_cons_zero, List.getD_cons_succ, List.getD_cons_zero, Option.bind_some, Option.map_some, Option.map_none, Option.bind_none, ixN, atI, HT.sIx, cutD, Option.isSome_some, if_true, if_false, ite_true, ite_false, Bool.false_eq_true, decide_eq_true_eq, Bool.not_true, Bool.not_false, true_and, and_true, ofS_inj, String.reduceEq, reduceIte, decide_true, decide_false, Int.reduceAdd, Nat.reduceLeDiff, Nat.reduceAdd, Nat.zero_add, Nat.le_refl, Nat.zero_le]
  refine hsp _ _ fun o => ?_
  simp [wSeq, wIf, wTV, wAnd, wOr, wNot, wAndV, wOrV, wNotV, wIfE, wRd, wCons, wNil, woVar, woE, wVar, wMove, wC, wvCons, wvNil, wTup, wLst, wNext, wRet, wRetN, wDrop, wBrk, wCt, wAsg, wgN, wgNil, wgCons, wgT, wPar, wFor, wYes, wLc, wipeE, backE, wCall, wMeth, wDictNew, wgSub, wSlB, wZipL, wiSeq, wiR1, wiR2, wiStr, wiEnum, wiEnumS, bodyK, takeM, putM, msOf, M.fz, Res.m, M.seq, M.lseq, M.mseq, M.dict, isL, isK, gList, gTuple, gAppend, gGet2, gSetd, setD, gEq, gNe, eqD_ss, eqD_ii, eqD_bb, gIn, gNi, gZip, gAll, gAny, gMul, gInt, cPos, cDiv, cMul, gAdd, slD, sliceF, D.key, List.length_cons, List.length_nil, List.getElem?_cons_succ, List.getElem?_cons_zero, List.getElem?_nil, List.set_cons_succ, List.set_cons_zero, List.getD_cons_succ, List.getD_cons_zero, Option.bind_some, Option.map_some, Option.map_none, Option.bind_none, ixN, atI, HT.sIx, cutD, Option.isSome_some, if_true, if_false, ite_true, ite_false, Bool.false_eq_true, decide_eq_true_eq, Bool.not_true, Bool.not_false, true_and, and_true, ofS_inj, String.reduceEq, reduceIte, decide_true, decide_false, Int.reduceAdd, Nat.reduceLeDiff, Nat.reduceAdd, Nat.zero_add, Nat.le_refl, Nat.zero_le, w_L_again_s2, isi_L, es]
  simp [wSeq, wIf, wTV, wAnd, wOr, wNot, wAndV, wOrV, wNotV, wIfE, wRd, wCons, wNil, woVar, woE, wVar, wMove, wC, wvCons, wvNil, wTup, wLst, wNext, wRet, wRetN, wDrop, wBrk, wCt, wAsg, wgN, wgNil, wgCons, wgT, wPar, wFor, wYes, wLc, wipeE, backE, wCall, wMeth, wDictNew, wgSub, wSlB, wZipL, wiSeq, wiR1, wiR2, wiStr, wiEnum, wiEnumS, bodyK, takeM, putM, msOf, M.fz, Res.m, M.seq, M.lseq, M.mseq, M.dict, isL, isK, gList, gTuple, gAppend, gGet2, gSetd, setD, gEq, gNe, eqD_ss, eqD_ii, eqD_bb, gIn, gNi, gZip, gAll, gAny, gMul, gInt, cPos, cDiv, cMul, gAdd, slD, sliceF, D.key, List.length_cons, List.length_nil, List.getElem?_cons_succ, List.getElem?_cons_zero, List.getElem?_nil, List.set_cons_succ, List.set_cons_zero, List.getD_cons_succ, List.getD_cons_zero, Option.bind_some, Option.map_some, Option.map_none, Option.bind_none, ixN, atI, HT.sIx, cutD, Option.isSome_some, if_true, if_false, ite_true, ite_false, Bool.false_eq_true, decide_eq_true_eq, Bool.not_true, Bool.not_false, true_and, and_true, ofS_inj, String.reduceEq, reduceIte, decide_true, decide_false, Int.reduceAdd, Nat.reduceLeDiff, Nat.reduceAdd, Nat.zero_add, Nat.le_refl, Nat.zero_le, w_L_again_s3, hl]
  exact h _
theorem hw_L_again (S : Addr → Option WF) : ∀ ms C CX, ms.length = 3 → sp__law_again S ms C CX → w_L_again S (env0 N_L_again ms) (bodyK pr_L_again 3 C) (fun x e => CX x (outs pr_L_again 3 e)) := by
  intro ms C CX _ h
  obtain ⟨f, x, ds, sp, nd, rfl, hS, hsp, hl, hp, hd, h⟩ := h
  have e : rangeD 0 2 = [.int 0, .int 1] := rfl
  unfold w_L_again
  rw [e_L_again]
  simp only [wSeq, w_L_again_s4]
  simp [wSeq, wIf, wTV, wAnd, wOr, wNot, wAndV, wOrV, wNotV, wIfE, wRd, wCons, wNil, woVar, woE, wVar, wMove, wC, wvCons, wvNil, wTup, wLst, wNext, wRet, wRetN, wDrop, wBrk, wCt, wAsg, wgN, wgNil, wgCons, wgT, wPar, wFor, wYes, wLc, wipeE, backE, wCall, wMeth, wDictNew, wgSub, wSlB, wZipL, wiSeq, wiR1, wiR2, wiStr, wiEnum, wiEnumS, bodyK, takeM, putM, msOf, M.fz, Res.m, M.seq, M.lseq, M.mseq, M.dict, isL, isK, gList, gTuple, gAppend, gGet2, gSetd, setD, gEq, gNe, eqD_ss, eqD_ii, eqD_bb, gIn, gNi, gZip, gAll, gAny, gMul, gInt, cPos, cDiv, cMul, gAdd, slD, sliceF, D.key, List.length_cons, List.length_nil, List.getElem?_cons_succ, List.getElem?_cons_zero, List.getElem?_nil, List.set_cons_succ, List.set_cons_zero, List.getD_cons_succ, List.getD_cons_zero, Option.bind_some, Option.map_some, Option.map_none, Option.bind_none, ixN, atI, HT.sIx, cutD, Option.isSome_some, if_true, if_false, ite_true, ite_false, Bool.false_eq_true, decide_eq_true_eq, Bool.not_true, Bool.not_false, true_and, and_true, ofS_inj, String.reduceEq, reduceIte, decide_true, decide_false, Int.reduceAdd, Nat.reduceLeDiff, Nat.reduceAdd, Nat.zero_add, Nat.le_refl, Nat.zero_le]
  rw [e]
  simp only [wForL, w_L_again_g1, wgN, List.set_cons_succ, List.set_cons_zero, List.getElem?_cons_succ, List.getElem?_cons_zero]
  refine ag_b1 hS hsp hl hp hd fun y => ?_
  simp only [List.set_cons_succ, List.set_cons_zero, List.getElem?_cons_succ, List.getElem?_cons_zero]
  refine ag_b1 hS hsp hl hp hd fun y => ?_
  simp [o_L_again]
  exact h _ _
/-! ### far to the right -/
def frT (nm : Nm) : Nat → Tt
  | 0 => .leaf (.nam nm)
  | i + 1 => if i % 3 = 0 then .two ⟨("+" : Str), strOk_lit _ (by decide)⟩ (frT nm i) (.leaf (.num i)) else if i % 3 = 1 then .fn nm (frT nm i) else .l1 (frT nm i)
def frK (nm : Nm) : Nat → Kk
  | 0 => .letter nm
  | i + 1 => if i % 3 = 0 then .to (frK nm i) .number else if i % 3 = 1 then .list (frK nm i) else .pair .truth (frK nm i)
theorem frT_len (nm : Nm) : ∀ i, (paT (frT nm i)).length = 1 + i + (i + 2) / 3
  | 0 => rfl
  | i + 1 => by
    have ih := frT_len nm i
    have m : i % 3 = 0 ∨ i % 3 = 1 ∨ i % 3 = 2 := by omega
    rcases m with m | m | m <;> simp [frT, m, paT, ih] <;> omega
theorem frK_len (nm : Nm) : ∀ i, (paK (frK nm i)).length = 1 + i + (i + 2) / 3 + i / 3
  | 0 => rfl
  | i + 1 => by
    have ih := frK_len nm i
    have m : i % 3 = 0 ∨ i % 3 = 1 ∨ i % 3 = 2 := by omega
    rcases m with m | m | m <;> simp [frK, m, paK, ih] <;> omega
theorem frK_let (nm : Nm) : ∀ i, letsK (paK (frK nm i)) = [nm]
  | 0 => rfl
  | i + 1 => by
    have ih := frK_let nm i
    unfold letsK at ih ⊢
    have m : i % 3 = 0 ∨ i % 3 = 1 ∨ i % 3 = 2 := by omega
    rcases m with m | m | m <;> simp [frK, m, paK, lettK, ih]
theorem rangeD_succ (lo : Int) (n : Nat) : rangeD lo (n + 1) = .int lo :: rangeD (lo + 1) n := by
  simp only [rangeD, List.range_succ_eq_map, List.map_cons, List.map_map]
  congr 1
  · simp
  · apply List.map_congr_left
    intro i _
    simp
    omega
theorem fr_s4g {s : Str} {dx dy : D} {i : Int} {C : KS} {X : KX} {x0 : Option M}
    (h0 : i % 3 = 0 → C.nx [x0, some (.p (.str s)), some (.p (.tup [.str "two", .str "+", dx, .tup [.str "number", .int i]])), some (.p dy), some (.p (.int i))])
    (h1 : i % 3 = 1 → C.nx [x0, some (.p (.str s)), some (.p (.tup [.str "fn", .str s, dx])), some (.p dy), some (.p (.int i))])
    (h2 : i % 3 = 2 → C.nx [x0, some (.p (.str s)), some (.p (.tup [.str "list", .tup [dx]])), some (.p dy), some (.p (.int i))]) :
    w_L_far_right_s4 [x0, some (.p (.str s)), some (.p dx), some (.p dy), some (.p (.int i))] C X := by
  have i0 : ∀ a b c : D, gIx [.l [a, b, c], .p (.int 0)] = some (.val a) := by intro a b c; simp [gIx, M.seq, atI, ixN]
  have i1 : ∀ a b c : D, gIx [.l [a, b, c], .p (.int 1)] = some (.val b) := by intro a b c; simp [gIx, M.seq, atI, ixN]
  have i2 : ∀ a b c : D, gIx [.l [a, b, c], .p (.int 2)] = some (.val c) := by intro a b c; simp [gIx, M.seq, atI, ixN]
  have m : i % 3 = 0 ∨ i % 3 = 1 ∨ i % 3 = 2 := by clear h0 h1 h2; omega
  rcases m with m | m | m
  · have h := h0 m
    clear h0 h1 h2
    simp [wSeq, wIf, wTV, wAnd, wOr, wNot, wAndV, wOrV, wNotV, wIfE, wRd, wCons, wNil, woVar, woE, wVar, wMove, wC, wvCons, wvNil, wTup, wLst, wNext, wRet, wRetN, wDrop, wBrk, wCt, wAsg, wgN, wgNil, wgCons, wgT, wPar, wFor, wYes, wLc, wipeE, backE, wCall, wMeth, wDictNew, wgSub, wSlB, wZipL, wiSeq, wiR1, wiR2, wiStr, wiEnum, wiEnumS, bodyK, takeM, putM, msOf, M.fz, Res.m, M.seq, M.lseq, M.mseq, M.dict, isL, isK, gList, gTuple, gAppend, gGet2, gSetd, setD, gEq, gNe, eqD_ss, eqD_ii, eqD_bb, gIn, gNi, gZip, gAll, gAny, gMul, gInt, cPos, cDiv, cMul, gAdd, slD, sliceF, D.key, List.length_cons, List.length_nil, List.getElem?_cons_succ, List.getElem?_cons_zero, List.getElem?_nil, List.set_cons_succ, List.set_cons_zero, List.getD_cons_succ, List.getD_cons_zero, Option.bind_some, Option.map_some, Option.map_none, Option.bind_none, ixN, atI, HT.sIx, cutD, Option.isSome_some, if_true, if_false, ite_true, ite_false, Bool.false_eq_true, decide_eq_true_eq, Bool.not_true, Bool.not_false, true_and, and_true, ofS_inj, String.reduceEq, reduceIte, decide_true, decide_false, Int.reduceAdd, Nat.reduceLeDiff, Nat.reduceAdd, Nat.zero_add, Nat.le_refl, Nat.zero_le, w_L_far_right_s4, m, i0]
    exact h
  · have h := h1 m
    clear h0 h1 h2
    simp [wSeq, wIf, wTV, wAnd, wOr, wNot, wAndV, wOrV, wNotV, wIfE, wRd, wCons, wNil, woVar, woE, wVar, wMove, wC, wvCons, wvNil, wTup, wLst, wNext, wRet, wRetN, wDrop, wBrk, wCt, wAsg, wgN, wgNil, wgCons, wgT, wPar, wFor, wYes, wLc, wipeE, backE, wCall, wMeth, wDictNew, wgSub, wSlB, wZipL, wiSeq, wiR1, wiR2, wiStr, wiEnum, wiEnumS, bodyK, takeM, putM, msOf, M.fz, Res.m, M.seq, M.lseq, M.mseq, M.dict, isL, isK, gList, gTuple, gAppend, gGet2, gSetd, setD, gEq, gNe, eqD_ss, eqD_ii, eqD_bb, gIn, gNi, gZip, gAll, gAny, gMul, gInt, cPos, cDiv, cMul, gAdd, slD, sliceF, D.key, List.length_cons, List.length_nil, List.getElem?_cons_succ, List.getElem?_cons_zero, List.getElem?_nil, List.set_cons_succ, List.set_cons_zero, List.getD_cons_succ, List.getD_cons_zero, Option.bind_some, Option.map_some, Option.map_none, Option.bind_none, ixN, atI, HT.sIx, cutD, Option.isSome_some, if_true, if_false, ite_true, ite_false, Bool.false_eq_true, decide_eq_true_eq, Bool.not_true, Bool.not_false, true_and, and_true, ofS_inj, String.reduceEq, reduceIte, decide_true, decide_false, Int.reduceAdd, Nat.reduceLeDiff, Nat.reduceAdd, Nat.zero_add, Nat.le_refl, Nat.zero_le, w_L_far_right_s4, m, i1]
    exact h
  · have h := h2 m
    clear h0 h1 h2
    simp [wSeq, wIf, wTV, wAnd, wOr, wNot, wAndV, wOrV, wNotV, wIfE, wRd, wCons, wNil, woVar, woE, wVar, wMove, wC, wvCons, wvNil, wTup, wLst, wNext, wRet, wRetN, wDrop, wBrk, wCt, wAsg, wgN, wgNil, wgCons, wgT, wPar, wFor, wYes, wLc, wipeE, backE, wCall, wMeth, wDictNew, wgSub, wSlB, wZipL, wiSeq, wiR1, wiR2, wiStr, wiEnum, wiEnumS, bodyK, takeM, putM, msOf, M.fz, Res.m, M.seq, M.lseq, M.mseq, M.dict, isL, isK, gList, gTuple, gAppend, gGet2, gSetd, setD, gEq, gNe, eqD_ss, eqD_ii, eqD_bb, gIn, gNi, gZip, gAll, gAny, gMul, gInt, cPos, cDiv, cMul, gAdd, slD, sliceF, D.key, List.length_cons, List.length_nil, List.getElem?_cons_succ, List.getElem?_cons_zero, List.getElem?_nil, List.set_cons_succ, List.set_cons_zero, List.getD_cons_succ, List.getD_cons_zero, Option.bind_some, Option.map_some, Option.map_none, Option.bind_none, ixN, atI, HT.sIx, cutD, Option.isSome_some, if_true, if_false, ite_true, ite_false, Bool.false_eq_true, decide_eq_true_eq, Bool.not_true, Bool.not_false, true_and, and_true, ofS_inj, String.reduceEq, reduceIte, decide_true, decide_false, Int.reduceAdd, Nat.reduceLeDiff, Nat.reduceAdd, Nat.zero_add, Nat.le_refl, Nat.zero_le, w_L_far_right_s4, m, i2]
    exact h
theorem fr_s5g {s : Str} {dx dy : D} {i : Int} {C : KS} {X : KX} {x0 : Option M}
    (h0 : i % 3 = 0 → C.nx [x0, some (.p (.str s)), some (.p dx), some (.p (.tup [.str "to", dy, .tup [.str "number"]])), some (.p (.int i))])
    (h1 : i % 3 = 1 → C.nx [x0, some (.p (.str s)), some (.p dx), some (.p (.tup [.str "list", dy])), some (.p (.int i))])
    (h2 : i % 3 = 2 → C.nx [x0, some (.p (.str s)), some (.p dx), some (.p (.tup [.str "pair", .tup [.str "truth"], dy])), some (.p (.int i))]) :
    w_L_far_right_s5 [x0, some (.p (.str s)), some (.p dx), some (.p dy), some (.p (.int i))] C X := by
  have i0 : ∀ a b c : D, gIx [.l [a, b, c], .p (.int 0)] = some (.val a) := by intro a b c; simp [gIx, M.seq, atI, ixN]
  have i1 : ∀ a b c : D, gIx [.l [a, b, c], .p (.int 1)] = some (.val b) := by intro a b c; simp [gIx, M.seq, atI, ixN]
  have i2 : ∀ a b c : D, gIx [.l [a, b, c], .p (.int 2)] = some (.val c) := by intro a b c; simp [gIx, M.seq, atI, ixN]
  have m : i % 3 = 0 ∨ i % 3 = 1 ∨ i % 3 = 2 := by clear h0 h1 h2; omega
  rcases m with m | m | m
  · have h := h0 m
    clear h0 h1 h2
    simp [wSeq, wIf, wTV, wAnd, wOr, wNot, wAndV, wOrV, wNotV, wIfE, wRd, wCons, wNil, woVar, woE, wVar, wMove, wC, wvCons, wvNil, wTup, wLst, wNext, wRet, wRetN, wDrop, wBrk, wCt, wAsg, wgN, wgNil, wgCons, wgT, wPar, wFor, wYes, wLc, wipeE, backE, wCall, wMeth, wDictNew, wgSub, wSlB, wZipL, wiSeq, wiR1, wiR2, wiStr, wiEnum, wiEnumS, bodyK, takeM, putM, msOf, M.fz, Res.m, M.seq, M.lseq, M.mseq, M.dict, isL, isK, gList, gTuple, gAppend, gGet2, gSetd, setD, gEq, gNe, eqD_ss, eqD_ii, eqD_bb, gIn, gNi, gZip, gAll, gAny, gMul, gInt, cPos, cDiv, cMul, gAdd, slD, sliceF, D.key, List.length_cons, List.length_nil, List.getElem?_cons_succ, List.getElem?_cons_zero, List.getElem?_nil, List.set_cons_succ, List.set_cons_zero, List.getD_cons_succ, List.getD_cons_zero, Option.bind_some, Option.map_some, Option.map_none, Option.bind_none, ixN, atI, HT.sIx, cutD, Option.isSome_some, if_true, if_false, ite_true, ite_false, Bool.false_eq_true, decide_eq_true_eq, Bool.not_true, Bool.not_false, true_and, and_true, ofS_inj, String.reduceEq, reduceIte, decide_true, decide_false, Int.reduceAdd, Nat.reduceLeDiff, Nat.reduceAdd, Nat.zero_add, Nat.le_refl, Nat.zero_le, w_L_far_right_s5, m, i0]
    exact h
  · have h := h1 m
    clear h0 h1 h2
    simp [wSeq, wIf, wTV, wAnd, wOr, wNot, wAndV, wOrV, wNotV, wIfE, wRd, wCons, wNil, woVar, woE, wVar, wMove, wC, wvCons, wvNil, wTup, wLst, wNext, wRet, wRetN, wDrop, wBrk, wCt, wAsg, wgN, wgNil, wgCons, wgT, wPar, wFor, wYes, wLc, wipeE, backE, wCall, wMeth, wDictNew, wgSub, wSlB, wZipL, wiSeq, wiR1, wiR2, wiStr, wiEnum, wiEnumS, bodyK, takeM, putM, msOf, M.fz, Res.m, M.seq, M.lseq, M.mseq, M.dict, isL, isK, gList, gTuple, gAppend, gGet2, gSetd, setD, gEq, gNe, eqD_ss, eqD_ii, eqD_bb, gIn, gNi, gZip, gAll, gAny, gMul, gInt, cPos, cDiv, cMul, gAdd, slD, sliceF, D.key, List.length_cons, List.length_nil, List.getElem?_cons_succ, List.getElem?_cons_zero, List.getElem?_nil, List.set_cons_succ, List.set_cons_zero, List.getD_cons_succ, List.getD_cons_zero, Option.bind_some, Option.map_some, Option.map_none, Option.bind_none, ixN, atI, HT.sIx, cutD, Option.isSome_some, if_true, if_false, ite_true, ite_false, Bool.false_eq_true, decide_eq_true_eq, Bool.not_true, Bool.not_false, true_and, and_true, ofS_inj, String.reduceEq, reduceIte, decide_true, decide_false, Int.reduceAdd, Nat.reduceLeDiff, Nat.reduceAdd, Nat.zero_add, Nat.le_refl, Nat.zero_le, w_L_far_right_s5, m, i1]
    exact h
  · have h := h2 m
    clear h0 h1 h2
    simp [wSeq, wIf, wTV, wAnd, wOr, wNot, wAndV, wOrV, wNotV, wIfE, wRd, wCons, wNil, woVar, woE, wVar, wMove, wC, wvCons, wvNil, wTup, wLst, wNext, wRet, wRetN, wDrop, wBrk, wCt, wAsg, wgN, wgNil, wgCons, wgT, wPar, wFor, wYes, wLc, wipeE, backE, wCall, wMeth, wDictNew, wgSub, wSlB, wZipL, wiSeq, wiR1, wiR2, wiStr, wiEnum, wiEnumS, bodyK, takeM, putM, msOf, M.fz, Res.m, M.seq, M.lseq, M.mseq, M.dict, isL, isK, gList, gTuple, gAppend, gGet2, gSetd, setD, gEq, gNe, eqD_ss, eqD_ii, eqD_bb, gIn, gNi, gZip, gAll, gAny, gMul, gInt, cPos, cDiv, cMul, gAdd, slD, sliceF, D.key, List.length_cons, List.length_nil, List.getElem?_cons_succ, List.getElem?_cons_zero, List.getElem?_nil, List.set_cons_succ, List.set_cons_zero, List.getD_cons_succ, List.getD_cons_zero, Option.bind_some, Option.map_some, Option.map_none, Option.bind_none, ixN, atI, HT.sIx, cutD, Option.isSome_some, if_true, if_false, ite_true, ite_false, Bool.false_eq_true, decide_eq_true_eq, Bool.not_true, Bool.not_false, true_and, and_true, ofS_inj, String.reduceEq, reduceIte, decide_true, decide_false, Int.reduceAdd, Nat.reduceLeDiff, Nat.reduceAdd, Nat.zero_add, Nat.le_refl, Nat.zero_le, w_L_far_right_s5, m, i2]
    exact h
theorem fr_b1 {nm : Nm} {i : Nat} {C : KS} {X : KX} {x0 : Option M} (h : C.nx [x0, some (.p (.str nm.1)), some (.p (enT (frT nm (i + 1)))), some (.p (enK (frK nm (i + 1)))), some (.p (.int i))]) :
    w_L_far_right_b1 [x0, some (.p (.str nm.1)), some (.p (enT (frT nm i))), some (.p (enK (frK nm i))), some (.p (.int i))] C X := by
  refine seq_i (fr_s4g (fun m => fr_s5g (fun q => ?_) (fun q => ?_) fun q => ?_) (fun m => fr_s5g (fun q => ?_) (fun q => ?_) fun q => ?_) fun m => fr_s5g (fun q => ?_) (fun q => ?_) fun q => ?_) <;> try (exfalso; clear h; omega)
  · have mi : i % 3 = 0 := by clear h; omega
    rw [frT, frK, if_pos mi, if_pos mi] at h
    exact h
  · have mi : i % 3 = 1 := by clear h; omega
    have m0 : ¬ i % 3 = 0 := by clear h; omega
    rw [frT, frK, if_neg m0, if_neg m0, if_pos mi, if_pos mi] at h
    exact h
  · have mi : ¬ i % 3 = 1 := by clear h; omega
    have m0 : ¬ i % 3 = 0 := by clear h; omega
    rw [frT, frK, if_neg m0, if_neg m0, if_neg mi, if_neg mi] at h
    exact h
theorem fr_loop {nm : Nm} {C : KS} {X : KX} {x0 : Option M} : ∀ (m i : Nat) (lo : Int) (y : Option M), lo = i → (∀ y, C.nx [x0, some (.p (.str nm.1)), some (.p (enT (frT nm (i + m)))), some (.p (enK (frK nm (i + m)))), y]) →
    wForL w_L_far_right_g1 w_L_far_right_b1 C X (rangeD lo m) [x0, some (.p (.str nm.1)), some (.p (enT (frT nm i))), some (.p (enK (frK nm i))), y] := by
  intro m
  induction m with
  | zero => intro i lo y _ h; exact h y
  | succ m ih =>
    intro i lo y hlo h
    have key := ih (i + 1) (lo + 1) (some (.p (.int lo))) (by clear h ih; omega) (fun y => by
      have := h y
      rw [show i + 1 + m = i + (m + 1) by clear this h ih; omega]
      exact this)
    rw [rangeD_succ]
    show wForL w_L_far_right_g1 w_L_far_right_b1 C X (.int lo :: rangeD (lo + 1) m) [x0, some (.p (.str nm.1)), some (.p (enT (frT nm i))), some (.p (enK (frK nm i))), y]
    unfold wForL
    show w_L_far_right_b1 [x0, some (.p (.str nm.1)), some (.p (enT (frT nm i))), some (.p (enK (frK nm i))), some (.p (.int lo))] _ X
    subst hlo
    exact fr_b1 key
end BV

namespace BV
open PySem L2 PyProof.Rows
theorem ht_paT {t u : Tt} (h : u ∈ paT t) : htT u ≤ htT t := by
  induction t with
  | leaf x => simp [paT] at h; subst h; exact Nat.le_refl _
  | l0 => simp [paT] at h; subst h; exact Nat.le_refl _
  | l1 a i => simp [paT] at h; rcases h with rfl | h; exact Nat.le_refl _; have := i h; simp [htT]; omega
  | fn s a i => simp [paT] at h; rcases h with rfl | h; exact Nat.le_refl _; have := i h; simp [htT]; omega
  | l2 a b i j => simp [paT] at h; rcases h with rfl | h | h; exact Nat.le_refl _; (have := i h; simp [htT]; omega); (have := j h; simp [htT]; omega)
  | two s a b i j => simp [paT] at h; rcases h with rfl | h | h; exact Nat.le_refl _; (have := i h; simp [htT]; omega); (have := j h; simp [htT]; omega)
  | call a b i j => simp [paT] at h; rcases h with rfl | h | h; exact Nat.le_refl _; (have := i h; simp [htT]; omega); (have := j h; simp [htT]; omega)
  | pair a b i j => simp [paT] at h; rcases h with rfl | h | h; exact Nat.le_refl _; (have := i h; simp [htT]; omega); (have := j h; simp [htT]; omega)
  | lt s a b i j => simp [paT] at h; rcases h with rfl | h | h; exact Nat.le_refl _; (have := i h; simp [htT]; omega); (have := j h; simp [htT]; omega)
  | c1 a p b i j => simp [paT] at h; rcases h with rfl | h | h; exact Nat.le_refl _; (have := i h; simp [htT]; omega); (have := j h; simp [htT]; omega)
  | iff a b c i j k => simp [paT] at h; rcases h with rfl | h | h | h; exact Nat.le_refl _; (have := i h; simp [htT]; omega); (have := j h; simp [htT]; omega); (have := k h; simp [htT]; omega)
  | l3 a b c i j k => simp [paT] at h; rcases h with rfl | h | h | h; exact Nat.le_refl _; (have := i h; simp [htT]; omega); (have := j h; simp [htT]; omega); (have := k h; simp [htT]; omega)
  | c2 a p b q c i j k => simp [paT] at h; rcases h with rfl | h | h | h; exact Nat.le_refl _; (have := i h; simp [htT]; omega); (have := j h; simp [htT]; omega); (have := k h; simp [htT]; omega)
theorem inT_len (t : Tt) : (inT t).length ≤ 3 := by cases t <;> simp [inT]
theorem pyn_lT {l : List Tt} {n : Nat} (h : ∀ t ∈ l, htT t ≤ n) : Pyn (n + 1) (.lst (l.map enT)) := pyn_lst (fun x hx => by
  obtain ⟨t, ht, rfl⟩ := List.mem_map.mp hx
  exact (pynT t).mono (h t ht))
def Sx (a1 a2 a3 : Addr) : Addr → Option WF := fun f => if f = a1 then some sp_parts_of else if f = a2 then some sp_terms_in else if f = a3 then some sp_letters_in else none
variable {ns hs : List Nm} {a : Int} {cs : List Int} {C : KS} {X : KX} {x0 x1 x2 x3 x4 x5 x6 x7 x8 x9 x10 x11 x12 x13 x14 : Option M} {t : Tt} {k : Kk} {a1 a2 a3 : Addr}
theorem lw_names {Cc : List D → Env → Prop} : ∀ (m : Nat) (i : Int) (acc : List Nm), 0 ≤ i → i + m ≤ 900 → acc.length + m ≤ 1000 → (∀ l : List Nm, l.length = acc.length + m → Cc (strN l) [x0, some (Sd cs a), x2, x3, none, x5, x6, x7, x8, x9, x10, x11, x12, x13, x14]) →
    wLcL [4] w_law_g1 wYes (w_law_e1 sp__law_name) Cc (rangeD i m) (strN acc) [x0, some (Sd cs a), x2, x3, none, x5, x6, x7, x8, x9, x10, x11, x12, x13, x14] := by
  intro m
  induction m with
  | zero => intro i acc _ _ _ h; exact h acc (by simp)
  | succ m ih =>
    intro i acc hi0 hi hl h
    have hacc : (strN acc).length < 100000 := by simp [strN]; omega
    rw [rangeD_succ]
    obtain ⟨ks, vs, hS⟩ := SdM cs a
    rw [hS]
    simp [wLcL, w_law_g1, wSeq, wIf, wTV, wAnd, wOr, wNot, wAndV, wOrV, wNotV, wIfE, wRd, wCons, wNil, woVar, woE, wVar, wMove, wC, wvCons, wvNil, wTup, wLst, wNext, wRet, wRetN, wDrop, wBrk, wCt, wAsg, wgN, wgNil, wgCons, wgT, wPar, wFor, wYes, wLc, wipeE, backE, wCall, wMeth, wDictNew, wgSub, wSlB, wZipL, wiSeq, wiR1, wiR2, wiStr, wiEnum, wiEnumS, bodyK, takeM, putM, msOf, M.fz, Res.m, M.seq, M.lseq, M.mseq, M.dict, isL, isK, gList, gTuple, gAppend, gGet2, gSetd, setD, gEq, gNe, eqD_ss, eqD_ii, eqD_bb, gIn, gNi, gZip, gAll, gAny, gMul, gInt, cPos, cDiv, cMul, gAdd, slD, sliceF, D.key, List.length_cons, List.length_nil, List.getElem?_cons_succ, List.getElem?_cons_zero, List.getElem?_nil, List.set_cons_succ, List.set_cons_zero, List.getD_cons_succ, List.getD_cons_zero, Option.bind_some, Option.map_some, Option.map_none, Option.bind_none, ixN, atI, HT.sIx, cutD, Option.isSome_some, if_true, if_false, ite_true, ite_false, Bool.false_eq_true, decide_eq_true_eq, Bool.not_true, Bool.not_false, true_and, and_true, ofS_inj, String.reduceEq, reduceIte, decide_true, decide_false, Int.reduceAdd, Nat.reduceLeDiff, Nat.reduceAdd, Nat.zero_add, Nat.le_refl, Nat.zero_le, w_law_e1]
    rw [← hS]
    refine ⟨cs, a, i, rfl, by omega, by omega, fun s _ o2 => ?_⟩
    have e2 : strN acc ++ [.str s.1] = strN (acc ++ [s]) := by simp [strN]
    have := ih (i + 1) (acc ++ [s]) (by omega) (by omega) (by simp; omega) (fun l hl => h l (by simp at hl; omega))
    generalize Sd cs a = S at *
    simp [wSeq, wIf, wTV, wAnd, wOr, wNot, wAndV, wOrV, wNotV, wIfE, wRd, wCons, wNil, woVar, woE, wVar, wMove, wC, wvCons, wvNil, wTup, wLst, wNext, wRet, wRetN, wDrop, wBrk, wCt, wAsg, wgN, wgNil, wgCons, wgT, wPar, wFor, wYes, wLc, wipeE, backE, wCall, wMeth, wDictNew, wgSub, wSlB, wZipL, wiSeq, wiR1, wiR2, wiStr, wiEnum, wiEnumS, bodyK, takeM, putM, msOf, M.fz, Res.m, M.seq, M.lseq, M.mseq, M.dict, isL, isK, gList, gTuple, gAppend, gGet2, gSetd, setD, gEq, gNe, eqD_ss, eqD_ii, eqD_bb, gIn, gNi, gZip, gAll, gAny, gMul, gInt, cPos, cDiv, cMul, gAdd, slD, sliceF, D.key, List.length_cons, List.length_nil, List.getElem?_cons_succ, List.getElem?_cons_zero, List.getElem?_nil, List.set_cons_succ, List.set_cons_zero, List.getD_cons_succ, List.getD_cons_zero, Option.bind_some, Option.map_some, Option.map_none, Option.bind_none, ixN, atI, HT.sIx, cutD, Option.isSome_some, if_true, if_false, ite_true, ite_false, Bool.false_eq_true, decide_eq_true_eq, Bool.not_true, Bool.not_false, true_and, and_true, ofS_inj, String.reduceEq, reduceIte, decide_true, decide_false, Int.reduceAdd, Nat.reduceLeDiff, Nat.reduceAdd, Nat.zero_add, Nat.le_refl, Nat.zero_le, hacc]
    rw [e2]
    exact this
theorem lw_heads {Cc : List D → Env → Prop} : ∀ (m : Nat) (i : Int) (acc : List Nm), 0 ≤ i → i + m ≤ 900 → acc.length + m ≤ 1000 → (∀ l : List Nm, l.length = acc.length + m → Cc (strN l) [x0, some (Sd cs a), x2, x3, none, x5, x6, x7, x8, x9, x10, x11, x12, x13, x14]) →
    wLcL [4] w_law_g2 wYes (w_law_e2 sp__law_head) Cc (rangeD i m) (strN acc) [x0, some (Sd cs a), x2, x3, none, x5, x6, x7, x8, x9, x10, x11, x12, x13, x14] := by
  intro m
  induction m with
  | zero => intro i acc _ _ _ h; exact h acc (by simp)
  | succ m ih =>
    intro i acc hi0 hi hl h
    have hacc : (strN acc).length < 100000 := by simp [strN]; omega
    rw [rangeD_succ]
    obtain ⟨ks, vs, hS⟩ := SdM cs a
    rw [hS]
    simp [wLcL, w_law_g2, wSeq, wIf, wTV, wAnd, wOr, wNot, wAndV, wOrV, wNotV, wIfE, wRd, wCons, wNil, woVar, woE, wVar, wMove, wC, wvCons, wvNil, wTup, wLst, wNext, wRet, wRetN, wDrop, wBrk, wCt, wAsg, wgN, wgNil, wgCons, wgT, wPar, wFor, wYes, wLc, wipeE, backE, wCall, wMeth, wDictNew, wgSub, wSlB, wZipL, wiSeq, wiR1, wiR2, wiStr, wiEnum, wiEnumS, bodyK, takeM, putM, msOf, M.fz, Res.m, M.seq, M.lseq, M.mseq, M.dict, isL, isK, gList, gTuple, gAppend, gGet2, gSetd, setD, gEq, gNe, eqD_ss, eqD_ii, eqD_bb, gIn, gNi, gZip, gAll, gAny, gMul, gInt, cPos, cDiv, cMul, gAdd, slD, sliceF, D.key, List.length_cons, List.length_nil, List.getElem?_cons_succ, List.getElem?_cons_zero, List.getElem?_nil, List.set_cons_succ, List.set_cons_zero, List.getD_cons_succ, List.getD_cons_zero, Option.bind_some, Option.map_some, Option.map_none, Option.bind_none, ixN, atI, HT.sIx, cutD, Option.isSome_some, if_true, if_false, ite_true, ite_false, Bool.false_eq_true, decide_eq_true_eq, Bool.not_true, Bool.not_false, true_and, and_true, ofS_inj, String.reduceEq, reduceIte, decide_true, decide_false, Int.reduceAdd, Nat.reduceLeDiff, Nat.reduceAdd, Nat.zero_add, Nat.le_refl, Nat.zero_le, w_law_e2]
    rw [← hS]
    refine ⟨cs, a, i, rfl, by omega, by omega, fun s _ o2 => ?_⟩
    have e2 : strN acc ++ [.str s.1] = strN (acc ++ [s]) := by simp [strN]
    have := ih (i + 1) (acc ++ [s]) (by omega) (by omega) (by simp; omega) (fun l hl => h l (by simp at hl; omega))
    generalize Sd cs a = S at *
    simp [wSeq, wIf, wTV, wAnd, wOr, wNot, wAndV, wOrV, wNotV, wIfE, wRd, wCons, wNil, woVar, woE, wVar, wMove, wC, wvCons, wvNil, wTup, wLst, wNext, wRet, wRetN, wDrop, wBrk, wCt, wAsg, wgN, wgNil, wgCons, wgT, wPar, wFor, wYes, wLc, wipeE, backE, wCall, wMeth, wDictNew, wgSub, wSlB, wZipL, wiSeq, wiR1, wiR2, wiStr, wiEnum, wiEnumS, bodyK, takeM, putM, msOf, M.fz, Res.m, M.seq, M.lseq, M.mseq, M.dict, isL, isK, gList, gTuple, gAppend, gGet2, gSetd, setD, gEq, gNe, eqD_ss, eqD_ii, eqD_bb, gIn, gNi, gZip, gAll, gAny, gMul, gInt, cPos, cDiv, cMul, gAdd, slD, sliceF, D.key, List.length_cons, List.length_nil, List.getElem?_cons_succ, List.getElem?_cons_zero, List.getElem?_nil, List.set_cons_succ, List.set_cons_zero, List.getD_cons_succ, List.getD_cons_zero, Option.bind_some, Option.map_some, Option.map_none, Option.bind_none, ixN, atI, HT.sIx, cutD, Option.isSome_some, if_true, if_false, ite_true, ite_false, Bool.false_eq_true, decide_eq_true_eq, Bool.not_true, Bool.not_false, true_and, and_true, ofS_inj, String.reduceEq, reduceIte, decide_true, decide_false, Int.reduceAdd, Nat.reduceLeDiff, Nat.reduceAdd, Nat.zero_add, Nat.le_refl, Nat.zero_le, hacc]
    rw [e2]
    exact this
theorem lw_s4 (hn : ns ≠ []) (ha : 0 ≤ a) (hb : a + 70000 ≤ 100000000000) (h : ∀ (t : Tt) (a' : Int), TB 6 t → a ≤ a' → a' ≤ a + 66000 → C.nx [x0, some (Sd cs (a')), some (.l (strN ns)), some (.l (strN hs)), x4, some (.p (enT t)), x6, x7, x8, x9, x10, x11, none, none, none]) :
    w_law_s4 (sp__law_term 6) sp__law_next [x0, some (Sd cs (a)), some (.l (strN ns)), some (.l (strN hs)), x4, x5, x6, x7, x8, x9, x10, x11, none, none, none] C X := by
  obtain ⟨ks, vs, hS⟩ := SdM cs a
  have e6 : (16 : Int) * 4 ^ 6 = 65536 := by decide
  rw [hS]
  simp [wSeq, wIf, wTV, wAnd, wOr, wNot, wAndV, wOrV, wNotV, wIfE, wRd, wCons, wNil, woVar, woE, wVar, wMove, wC, wvCons, wvNil, wTup, wLst, wNext, wRet, wRetN, wDrop, wBrk, wCt, wAsg, wgN, wgNil, wgCons, wgT, wPar, wFor, wYes, wLc, wipeE, backE, wCall, wMeth, wDictNew, wgSub, wSlB, wZipL, wiSeq, wiR1, wiR2, wiStr, wiEnum, wiEnumS, bodyK, takeM, putM, msOf, M.fz, Res.m, M.seq, M.lseq, M.mseq, M.dict, isL, isK, gList, gTuple, gAppend, gGet2, gSetd, setD, gEq, gNe, eqD_ss, eqD_ii, eqD_bb, gIn, gNi, gZip, gAll, gAny, gMul, gInt, cPos, cDiv, cMul, gAdd, slD, sliceF, D.key, List.length_cons, List.length_nil, List.getElem?_cons_succ, List.getElem?_cons_zero, List.getElem?_nil, List.set_cons_succ, List.set_cons_zero, List.getD_cons_succ, List.getD_cons_zero, Option.bind_some, Option.map_some, Option.map_none, Option.bind_none, ixN, atI, HT.sIx, cutD, Option.isSome_some, if_true, if_false, ite_true, ite_false, Bool.false_eq_true, decide_eq_true_eq, Bool.not_true, Bool.not_false, true_and, and_true, ofS_inj, String.reduceEq, reduceIte, decide_true, decide_false, Int.reduceAdd, Nat.reduceLeDiff, Nat.reduceAdd, Nat.zero_add, Nat.le_refl, Nat.zero_le, w_law_s4]
  rw [← hS]
  refine ⟨cs, a, 6, rfl, by decide, ha, by omega, fun r r0 r1 o2 => ?_⟩
  have q1 : -18446744073709551616 < r := by omega
  have q2 : r < 18446744073709551616 := by omega
  obtain ⟨ks, vs, hS⟩ := SdM cs (a + 1)
  rw [hS]
  simp [wSeq, wIf, wTV, wAnd, wOr, wNot, wAndV, wOrV, wNotV, wIfE, wRd, wCons, wNil, woVar, woE, wVar, wMove, wC, wvCons, wvNil, wTup, wLst, wNext, wRet, wRetN, wDrop, wBrk, wCt, wAsg, wgN, wgNil, wgCons, wgT, wPar, wFor, wYes, wLc, wipeE, backE, wCall, wMeth, wDictNew, wgSub, wSlB, wZipL, wiSeq, wiR1, wiR2, wiStr, wiEnum, wiEnumS, bodyK, takeM, putM, msOf, M.fz, Res.m, M.seq, M.lseq, M.mseq, M.dict, isL, isK, gList, gTuple, gAppend, gGet2, gSetd, setD, gEq, gNe, eqD_ss, eqD_ii, eqD_bb, gIn, gNi, gZip, gAll, gAny, gMul, gInt, cPos, cDiv, cMul, gAdd, slD, sliceF, D.key, List.length_cons, List.length_nil, List.getElem?_cons_succ, List.getElem?_cons_zero, List.getElem?_nil, List.set_cons_succ, List.set_cons_zero, List.getD_cons_succ, List.getD_cons_zero, Option.bind_some, Option.map_some, Option.map_none, Option.bind_none, ixN, atI, HT.sIx, cutD, Option.isSome_some, if_true, if_false, ite_true, ite_false, Bool.false_eq_true, decide_eq_true_eq, Bool.not_true, Bool.not_false, true_and, and_true, ofS_inj, String.reduceEq, reduceIte, decide_true, decide_false, Int.reduceAdd, Nat.reduceLeDiff, Nat.reduceAdd, Nat.zero_add, Nat.le_refl, Nat.zero_le, q1, q2]
  rw [← hS]
  refine ⟨cs, a + 1, ns, hs, 4 + 7 * r, 6, rfl, hn, by decide, by decide, by omega, by omega, by omega, by omega, fun t a' z1 z2 z3 o4 o5 => ?_⟩
  have := h t a' z1 (by omega) (by omega)
  generalize Sd cs a' = S at *
  simp [wSeq, wIf, wTV, wAnd, wOr, wNot, wAndV, wOrV, wNotV, wIfE, wRd, wCons, wNil, woVar, woE, wVar, wMove, wC, wvCons, wvNil, wTup, wLst, wNext, wRet, wRetN, wDrop, wBrk, wCt, wAsg, wgN, wgNil, wgCons, wgT, wPar, wFor, wYes, wLc, wipeE, backE, wCall, wMeth, wDictNew, wgSub, wSlB, wZipL, wiSeq, wiR1, wiR2, wiStr, wiEnum, wiEnumS, bodyK, takeM, putM, msOf, M.fz, Res.m, M.seq, M.lseq, M.mseq, M.dict, isL, isK, gList, gTuple, gAppend, gGet2, gSetd, setD, gEq, gNe, eqD_ss, eqD_ii, eqD_bb, gIn, gNi, gZip, gAll, gAny, gMul, gInt, cPos, cDiv, cMul, gAdd, slD, sliceF, D.key, List.length_cons, List.length_nil, List.getElem?_cons_succ, List.getElem?_cons_zero, List.getElem?_nil, List.set_cons_succ, List.set_cons_zero, List.getD_cons_succ, List.getD_cons_zero, Option.bind_some, Option.map_some, Option.map_none, Option.bind_none, ixN, atI, HT.sIx, cutD, Option.isSome_some, if_true, if_false, ite_true, ite_false, Bool.false_eq_true, decide_eq_true_eq, Bool.not_true, Bool.not_false, true_and, and_true, ofS_inj, String.reduceEq, reduceIte, decide_true, decide_false, Int.reduceAdd, Nat.reduceLeDiff, Nat.reduceAdd, Nat.zero_add, Nat.le_refl, Nat.zero_le]
  exact this
theorem lw_s5 (h1 : htT t ≤ 18) (h2 : (paT t).length ≤ 1000) (h : C.nx [x0, some (Sd cs (a)), some (.l (strN ns)), some (.l (strN hs)), x4, some (.p (enT t)), some (.l ((paT t).map enT)), x7, x8, x9, x10, x11, none, none, none]) : w_law_s5 (sp__law_parts 18) [x0, some (Sd cs (a)), some (.l (strN ns)), some (.l (strN hs)), x4, some (.p (enT t)), x6, x7, x8, x9, x10, x11, none, none, none] C X := by
  generalize Sd cs a = S at *
  simp [wSeq, wIf, wTV, wAnd, wOr, wNot, wAndV, wOrV, wNotV, wIfE, wRd, wCons, wNil, woVar, woE, wVar, wMove, wC, wvCons, wvNil, wTup, wLst, wNext, wRet, wRetN, wDrop, wBrk, wCt, wAsg, wgN, wgNil, wgCons, wgT, wPar, wFor, wYes, wLc, wipeE, backE, wCall, wMeth, wDictNew, wgSub, wSlB, wZipL, wiSeq, wiR1, wiR2, wiStr, wiEnum, wiEnumS, bodyK, takeM, putM, msOf, M.fz, Res.m, M.seq, M.lseq, M.mseq, M.dict, isL, isK, gList, gTuple, gAppend, gGet2, gSetd, setD, gEq, gNe, eqD_ss, eqD_ii, eqD_bb, gIn, gNi, gZip, gAll, gAny, gMul, gInt, cPos, cDiv, cMul, gAdd, slD, sliceF, D.key, List.length_cons, List.length_nil, List.getElem?_cons_succ, List.getElem?_cons_zero, List.getElem?_nil, List.set_cons_succ, List.set_cons_zero, List.getD_cons_succ, List.getD_cons_zero, Option.bind_some, Option.map_some, Option.map_none, Option.bind_none, ixN, atI, HT.sIx, cutD, Option.isSome_some, if_true, if_false, ite_true, ite_false, Bool.false_eq_true, decide_eq_true_eq, Bool.not_true, Bool.not_false, true_and, and_true, ofS_inj, String.reduceEq, reduceIte, decide_true, decide_false, Int.reduceAdd, Nat.reduceLeDiff, Nat.reduceAdd, Nat.zero_add, Nat.le_refl, Nat.zero_le, w_law_s5]
  refine ⟨t, rfl, h1, h2, fun o => ?_⟩
  simp [wSeq, wIf, wTV, wAnd, wOr, wNot, wAndV, wOrV, wNotV, wIfE, wRd, wCons, wNil, woVar, woE, wVar, wMove, wC, wvCons, wvNil, wTup, wLst, wNext, wRet, wRetN, wDrop, wBrk, wCt, wAsg, wgN, wgNil, wgCons, wgT, wPar, wFor, wYes, wLc, wipeE, backE, wCall, wMeth, wDictNew, wgSub, wSlB, wZipL, wiSeq, wiR1, wiR2, wiStr, wiEnum, wiEnumS, bodyK, takeM, putM, msOf, M.fz, Res.m, M.seq, M.lseq, M.mseq, M.dict, isL, isK, gList, gTuple, gAppend, gGet2, gSetd, setD, gEq, gNe, eqD_ss, eqD_ii, eqD_bb, gIn, gNi, gZip, gAll, gAny, gMul, gInt, cPos, cDiv, cMul, gAdd, slD, sliceF, D.key, List.length_cons, List.length_nil, List.getElem?_cons_succ, List.getElem?_cons_zero, List.getElem?_nil, List.set_cons_succ, List.set_cons_zero, List.getD_cons_succ, List.getD_cons_zero, Option.bind_some, Option.map_some, Option.map_none, Option.bind_none, ixN, atI, HT.sIx, cutD, Option.isSome_some, if_true, if_false, ite_true, ite_false, Bool.false_eq_true, decide_eq_true_eq, Bool.not_true, Bool.not_false, true_and, and_true, ofS_inj, String.reduceEq, reduceIte, decide_true, decide_false, Int.reduceAdd, Nat.reduceLeDiff, Nat.reduceAdd, Nat.zero_add, Nat.le_refl, Nat.zero_le]
  exact h
theorem lw_s6 (h1 : htT t ≤ 18) (h2 : (paT t).length ≤ 1000) (h : ∀ x5, C.nx [x0, some (Sd cs (a)), some (.l (strN ns)), some (.l (strN hs)), x4, x5, some (.l ((paT t).map enT)), x7, x8, x9, x10, x11, none, none, none]) : w_law_s6 (sp__law_again (Sx a1 a2 a3)) a1 [x0, some (Sd cs (a)), some (.l (strN ns)), some (.l (strN hs)), x4, some (.p (enT t)), some (.l ((paT t).map enT)), x7, x8, x9, x10, x11, none, none, none] C X := by
  generalize Sd cs a = S at *
  simp [wSeq, wIf, wTV, wAnd, wOr, wNot, wAndV, wOrV, wNotV, wIfE, wRd, wCons, wNil, woVar, woE, wVar, wMove, wC, wvCons, wvNil, wTup, wLst, wNext, wRet, wRetN, wDrop, wBrk, wCt, wAsg, wgN, wgNil, wgCons, wgT, wPar, wFor, wYes, wLc, wipeE, backE, wCall, wMeth, wDictNew, wgSub, wSlB, wZipL, wiSeq, wiR1, wiR2, wiStr, wiEnum, wiEnumS, bodyK, takeM, putM, msOf, M.fz, Res.m, M.seq, M.lseq, M.mseq, M.dict, isL, isK, gList, gTuple, gAppend, gGet2, gSetd, setD, gEq, gNe, eqD_ss, eqD_ii, eqD_bb, gIn, gNi, gZip, gAll, gAny, gMul, gInt, cPos, cDiv, cMul, gAdd, slD, sliceF, D.key, List.length_cons, List.length_nil, List.getElem?_cons_succ, List.getElem?_cons_zero, List.getElem?_nil, List.set_cons_succ, List.set_cons_zero, List.getD_cons_succ, List.getD_cons_zero, Option.bind_some, Option.map_some, Option.map_none, Option.bind_none, ixN, atI, HT.sIx, cutD, Option.isSome_some, if_true, if_false, ite_true, ite_false, Bool.false_eq_true, decide_eq_true_eq, Bool.not_true, Bool.not_false, true_and, and_true, ofS_inj, String.reduceEq, reduceIte, decide_true, decide_false, Int.reduceAdd, Nat.reduceLeDiff, Nat.reduceAdd, Nat.zero_add, Nat.le_refl, Nat.zero_le, w_law_s6]
  refine ⟨a1, enT t, _, sp_parts_of, 19, rfl, by simp [Sx], fun C CX h => ⟨t, rfl, h2, h⟩, by simp; omega, pyn_lT fun u hu => Nat.le_trans (ht_paT hu) h1, by decide, fun o1 o2 => ?_⟩
  simp [wSeq, wIf, wTV, wAnd, wOr, wNot, wAndV, wOrV, wNotV, wIfE, wRd, wCons, wNil, woVar, woE, wVar, wMove, wC, wvCons, wvNil, wTup, wLst, wNext, wRet, wRetN, wDrop, wBrk, wCt, wAsg, wgN, wgNil, wgCons, wgT, wPar, wFor, wYes, wLc, wipeE, backE, wCall, wMeth, wDictNew, wgSub, wSlB, wZipL, wiSeq, wiR1, wiR2, wiStr, wiEnum, wiEnumS, bodyK, takeM, putM, msOf, M.fz, Res.m, M.seq, M.lseq, M.mseq, M.dict, isL, isK, gList, gTuple, gAppend, gGet2, gSetd, setD, gEq, gNe, eqD_ss, eqD_ii, eqD_bb, gIn, gNi, gZip, gAll, gAny, gMul, gInt, cPos, cDiv, cMul, gAdd, slD, sliceF, D.key, List.length_cons, List.length_nil, List.getElem?_cons_succ, List.getElem?_cons_zero, List.getElem?_nil, List.set_cons_succ, List.set_cons_zero, List.getD_cons_succ, List.getD_cons_zero, Option.bind_some, Option.map_some, Option.map_none, Option.bind_none, ixN, atI, HT.sIx, cutD, Option.isSome_some, if_true, if_false, ite_true, ite_false, Bool.false_eq_true, decide_eq_true_eq, Bool.not_true, Bool.not_false, true_and, and_true, ofS_inj, String.reduceEq, reduceIte, decide_true, decide_false, Int.reduceAdd, Nat.reduceLeDiff, Nat.reduceAdd, Nat.zero_add, Nat.le_refl, Nat.zero_le]
  exact h _
theorem lw_all {Cc : List D → Env → Prop} (h12 : a2 ≠ a1) : ∀ (us : List Tt) (n : Nat), (∀ u ∈ us, htT u ≤ 18) → n + us.length ≤ 2000 → (Cc (List.replicate (n + us.length) (.bl true)) [x0, some (Sd cs (a)), some (.l (strN ns)), some (.l (strN hs)), x4, x5, x6, x7, x8, x9, x10, x11, none, none, none]) →
    wLcL [12] w_law_g3 wYes (w_law_e3 (sp__law_again (Sx a1 a2 a3)) a2 sp__law_inner) Cc (us.map enT) (List.replicate n (.bl true)) [x0, some (Sd cs (a)), some (.l (strN ns)), some (.l (strN hs)), x4, x5, x6, x7, x8, x9, x10, x11, none, none, none] := by
  intro us
  generalize Sd cs a = S at *
  induction us with
  | nil => intro n _ _ h; exact h
  | cons u us ih =>
    intro n hu hn h
    have hacc : n < 100000 := by omega
    simp [wLcL, w_law_g3, wSeq, wIf, wTV, wAnd, wOr, wNot, wAndV, wOrV, wNotV, wIfE, wRd, wCons, wNil, woVar, woE, wVar, wMove, wC, wvCons, wvNil, wTup, wLst, wNext, wRet, wRetN, wDrop, wBrk, wCt, wAsg, wgN, wgNil, wgCons, wgT, wPar, wFor, wYes, wLc, wipeE, backE, wCall, wMeth, wDictNew, wgSub, wSlB, wZipL, wiSeq, wiR1, wiR2, wiStr, wiEnum, wiEnumS, bodyK, takeM, putM, msOf, M.fz, Res.m, M.seq, M.lseq, M.mseq, M.dict, isL, isK, gList, gTuple, gAppend, gGet2, gSetd, setD, gEq, gNe, eqD_ss, eqD_ii, eqD_bb, gIn, gNi, gZip, gAll, gAny, gMul, gInt, cPos, cDiv, cMul, gAdd, slD, sliceF, D.key, List.length_cons, List.length_nil, List.getElem?_cons_succ, List.getElem?_cons_zero, List.getElem?_nil, List.set_cons_succ, List.set_cons_zero, List.getD_cons_succ, List.getD_cons_zero, Option.bind_some, Option.map_some, Option.map_none, Option.bind_none, ixN, atI, HT.sIx, cutD, Option.isSome_some, if_true, if_false, ite_true, ite_false, Bool.false_eq_true, decide_eq_true_eq, Bool.not_true, Bool.not_false, true_and, and_true, ofS_inj, String.reduceEq, reduceIte, decide_true, decide_false, Int.reduceAdd, Nat.reduceLeDiff, Nat.reduceAdd, Nat.zero_add, Nat.le_refl, Nat.zero_le, w_law_e3]
    refine ⟨u, rfl, fun o => ?_⟩
    simp [wSeq, wIf, wTV, wAnd, wOr, wNot, wAndV, wOrV, wNotV, wIfE, wRd, wCons, wNil, woVar, woE, wVar, wMove, wC, wvCons, wvNil, wTup, wLst, wNext, wRet, wRetN, wDrop, wBrk, wCt, wAsg, wgN, wgNil, wgCons, wgT, wPar, wFor, wYes, wLc, wipeE, backE, wCall, wMeth, wDictNew, wgSub, wSlB, wZipL, wiSeq, wiR1, wiR2, wiStr, wiEnum, wiEnumS, bodyK, takeM, putM, msOf, M.fz, Res.m, M.seq, M.lseq, M.mseq, M.dict, isL, isK, gList, gTuple, gAppend, gGet2, gSetd, setD, gEq, gNe, eqD_ss, eqD_ii, eqD_bb, gIn, gNi, gZip, gAll, gAny, gMul, gInt, cPos, cDiv, cMul, gAdd, slD, sliceF, D.key, List.length_cons, List.length_nil, List.getElem?_cons_succ, List.getElem?_cons_zero, List.getElem?_nil, List.set_cons_succ, List.set_cons_zero, List.getD_cons_succ, List.getD_cons_zero, Option.bind_some, Option.map_some, Option.map_none, Option.bind_none, ixN, atI, HT.sIx, cutD, Option.isSome_some, if_true, if_false, ite_true, ite_false, Bool.false_eq_true, decide_eq_true_eq, Bool.not_true, Bool.not_false, true_and, and_true, ofS_inj, String.reduceEq, reduceIte, decide_true, decide_false, Int.reduceAdd, Nat.reduceLeDiff, Nat.reduceAdd, Nat.zero_add, Nat.le_refl, Nat.zero_le]
    have il := inT_len u
    refine ⟨a2, enT u, _, sp_terms_in, 19, rfl, by simp [Sx, h12], fun C CX h => ⟨u, rfl, h⟩, by simp; omega, pyn_lT fun v hv => by
      have := ht_inT hv
      have := hu u (by simp)
      omega, by decide, fun o1 o2 => ?_⟩
    simp [wSeq, wIf, wTV, wAnd, wOr, wNot, wAndV, wOrV, wNotV, wIfE, wRd, wCons, wNil, woVar, woE, wVar, wMove, wC, wvCons, wvNil, wTup, wLst, wNext, wRet, wRetN, wDrop, wBrk, wCt, wAsg, wgN, wgNil, wgCons, wgT, wPar, wFor, wYes, wLc, wipeE, backE, wCall, wMeth, wDictNew, wgSub, wSlB, wZipL, wiSeq, wiR1, wiR2, wiStr, wiEnum, wiEnumS, bodyK, takeM, putM, msOf, M.fz, Res.m, M.seq, M.lseq, M.mseq, M.dict, isL, isK, gList, gTuple, gAppend, gGet2, gSetd, setD, gEq, gNe, eqD_ss, eqD_ii, eqD_bb, gIn, gNi, gZip, gAll, gAny, gMul, gInt, cPos, cDiv, cMul, gAdd, slD, sliceF, D.key, List.length_cons, List.length_nil, List.getElem?_cons_succ, List.getElem?_cons_zero, List.getElem?_nil, List.set_cons_succ, List.set_cons_zero, List.getD_cons_succ, List.getD_cons_zero, Option.bind_some, Option.map_some, Option.map_none, Option.bind_none, ixN, atI, HT.sIx, cutD, Option.isSome_some, if_true, if_false, ite_true, ite_false, Bool.false_eq_true, decide_eq_true_eq, Bool.not_true, Bool.not_false, true_and, and_true, ofS_inj, String.reduceEq, reduceIte, decide_true, decide_false, Int.reduceAdd, Nat.reduceLeDiff, Nat.reduceAdd, Nat.zero_add, Nat.le_refl, Nat.zero_le, hacc]
    have e : List.replicate n (D.bl true) ++ [.bl true] = List.replicate (n + 1) (.bl true) := by rw [List.replicate_succ']
    rw [e]
    exact ih (n + 1) (fun v hv => hu v (by simp [hv])) (by simp at hn; omega) (by
      rw [show n + 1 + us.length = n + (us.length + 1) by omega]
      simpa using h)
theorem bls_rep (n : Nat) : blsOf (List.replicate n (.bl true)) = some (List.replicate n true) := by
  induction n with
  | zero => rfl
  | succ n ih => simp [List.replicate_succ, blsOf, ih]
theorem lw_s7 (h12 : a2 ≠ a1) (h1 : htT t ≤ 18) (h2 : (paT t).length ≤ 1000) (h : ∀ x6, C.nx [x0, some (Sd cs (a)), some (.l (strN ns)), some (.l (strN hs)), x4, x5, x6, x7, x8, x9, x10, x11, none, none, none]) : w_law_s7 (sp__law_again (Sx a1 a2 a3)) a2 sp__law_inner [x0, some (Sd cs (a)), some (.l (strN ns)), some (.l (strN hs)), x4, x5, some (.l ((paT t).map enT)), x7, x8, x9, x10, x11, none, none, none] C X := by
  simp [wSeq, wIf, wTV, wAnd, wOr, wNot, wAndV, wOrV, wNotV, wIfE, wRd, wCons, wNil, woVar, woE, wVar, wMove, wC, wvCons, wvNil, wTup, wLst, wNext, wRet, wRetN, wDrop, wBrk, wCt, wAsg, wgN, wgNil, wgCons, wgT, wPar, wFor, wYes, wLc, wipeE, backE, wCall, wMeth, wDictNew, wgSub, wSlB, wZipL, wiSeq, wiR1, wiR2, wiStr, wiEnum, wiEnumS, bodyK, takeM, putM, msOf, M.fz, Res.m, M.seq, M.lseq, M.mseq, M.dict, isL, isK, gList, gTuple, gAppend, gGet2, gSetd, setD, gEq, gNe, eqD_ss, eqD_ii, eqD_bb, gIn, gNi, gZip, gAll, gAny, gMul, gInt, cPos, cDiv, cMul, gAdd, slD, sliceF, D.key, List.length_cons, List.length_nil, List.getElem?_cons_succ, List.getElem?_cons_zero, List.getElem?_nil, List.set_cons_succ, List.set_cons_zero, List.getD_cons_succ, List.getD_cons_zero, Option.bind_some, Option.map_some, Option.map_none, Option.bind_none, ixN, atI, HT.sIx, cutD, Option.isSome_some, if_true, if_false, ite_true, ite_false, Bool.false_eq_true, decide_eq_true_eq, Bool.not_true, Bool.not_false, true_and, and_true, ofS_inj, String.reduceEq, reduceIte, decide_true, decide_false, Int.reduceAdd, Nat.reduceLeDiff, Nat.reduceAdd, Nat.zero_add, Nat.le_refl, Nat.zero_le, w_law_s7]
  refine lw_all h12 (paT t) 0 (fun u hu => Nat.le_trans (ht_paT hu) h1) (by omega) ?_
  generalize Sd cs a = S at *
  simp [wSeq, wIf, wTV, wAnd, wOr, wNot, wAndV, wOrV, wNotV, wIfE, wRd, wCons, wNil, woVar, woE, wVar, wMove, wC, wvCons, wvNil, wTup, wLst, wNext, wRet, wRetN, wDrop, wBrk, wCt, wAsg, wgN, wgNil, wgCons, wgT, wPar, wFor, wYes, wLc, wipeE, backE, wCall, wMeth, wDictNew, wgSub, wSlB, wZipL, wiSeq, wiR1, wiR2, wiStr, wiEnum, wiEnumS, bodyK, takeM, putM, msOf, M.fz, Res.m, M.seq, M.lseq, M.mseq, M.dict, isL, isK, gList, gTuple, gAppend, gGet2, gSetd, setD, gEq, gNe, eqD_ss, eqD_ii, eqD_bb, gIn, gNi, gZip, gAll, gAny, gMul, gInt, cPos, cDiv, cMul, gAdd, slD, sliceF, D.key, List.length_cons, List.length_nil, List.getElem?_cons_succ, List.getElem?_cons_zero, List.getElem?_nil, List.set_cons_succ, List.set_cons_zero, List.getD_cons_succ, List.getD_cons_zero, Option.bind_some, Option.map_some, Option.map_none, Option.bind_none, ixN, atI, HT.sIx, cutD, Option.isSome_some, if_true, if_false, ite_true, ite_false, Bool.false_eq_true, decide_eq_true_eq, Bool.not_true, Bool.not_false, true_and, and_true, ofS_inj, String.reduceEq, reduceIte, decide_true, decide_false, Int.reduceAdd, Nat.reduceLeDiff, Nat.reduceAdd, Nat.zero_add, Nat.le_refl, Nat.zero_le, bls_rep]
  exact h _
end BV

namespace BV
open PySem L2 PyProof.Rows
variable {ns hs : List Nm} {a : Int} {cs : List Int} {C : KS} {X : KX} {x0 x1 x2 x3 x4 x5 x6 x7 x8 x9 x10 x11 x12 x13 x14 : Option M} {t : Tt} {k : Kk} {a1 a2 a3 : Addr}
theorem known (n0 n1 n2 : Nm) : ∃ (ns : List Nm) (vs : List D), mergeD [] [] [(Sum.inr n0.1, .int 0), (Sum.inr n1.1, .int 1), (Sum.inr n2.1, .int 3)] = (ksN ns, vs) ∧ KnOk ns vs := by
  have inj : ∀ x y : Nm, x ≠ y → x.1 ≠ y.1 := fun x y h e => h (Subtype.ext e)
  by_cases h1 : n1 = n0
  · by_cases h2 : n2 = n0
    · subst h1; subst h2
      refine ⟨[n2], [.int 3], by simp [mergeD, putD, replD, ksN], ⟨by simp, fun n hn => ?_⟩⟩
      simp at hn; subst hn
      exact ⟨3, by simp [getK, ksN], by simp⟩
    · subst h1
      have q := inj _ _ h2
      have q' : n1.1 ≠ n2.1 := fun e => q (Eq.symm e)
      refine ⟨[n1, n2], [.int 1, .int 3], by simp [mergeD, putD, replD, ksN, q, q'], ⟨by simp, fun n hn => ?_⟩⟩
      simp at hn; rcases hn with rfl | rfl
      · exact ⟨1, by simp [getK, ksN], by simp⟩
      · exact ⟨3, by simp [getK, ksN, q, q'], by simp⟩
  · have p := inj _ _ h1
    have p' : n0.1 ≠ n1.1 := fun e => p (Eq.symm e)
    by_cases h2 : n2 = n0
    · subst h2
      refine ⟨[n2, n1], [.int 3, .int 1], by simp [mergeD, putD, replD, ksN, p, p'], ⟨by simp, fun n hn => ?_⟩⟩
      simp at hn; rcases hn with rfl | rfl
      · exact ⟨3, by simp [getK, ksN], by simp⟩
      · exact ⟨1, by simp [getK, ksN, p, p'], by simp⟩
    · have q := inj _ _ h2
      have q' : n0.1 ≠ n2.1 := fun e => q (Eq.symm e)
      by_cases h3 : n2 = n1
      · subst h3
        refine ⟨[n0, n2], [.int 0, .int 3], by simp [mergeD, putD, replD, ksN, p, p'], ⟨by simp, fun n hn => ?_⟩⟩
        simp at hn; rcases hn with rfl | rfl
        · exact ⟨0, by simp [getK, ksN], by simp⟩
        · exact ⟨3, by simp [getK, ksN, p, p'], by simp⟩
      · have r := inj _ _ h3
        have r' : n1.1 ≠ n2.1 := fun e => r (Eq.symm e)
        refine ⟨[n0, n1, n2], [.int 0, .int 1, .int 3], by simp [mergeD, putD, replD, ksN, p, p', q, q', r, r'], ⟨by simp, fun n hn => ?_⟩⟩
        simp at hn; rcases hn with rfl | rfl | rfl
        · exact ⟨0, by simp [getK, ksN], by simp⟩
        · exact ⟨1, by simp [getK, ksN, p, p'], by simp⟩
        · exact ⟨3, by simp [getK, ksN, q, q', r, r'], by simp⟩
theorem gI_at {xs : List D} {i : Nat} {d : D} (h : xs[i]? = some d) : gIx [.l xs, .p (.int i)] = some (.val d) := by
  obtain ⟨hl, he⟩ := List.getElem?_eq_some_iff.mp h
  have h0 : (0 : Int) ≤ i := by omega
  have h1 : (i : Int) < xs.length := by omega
  simp [gIx, M.seq, atI, ixN, hl, he]
theorem lw_s8 {n0 n1 n2 : Nm} (hn : ns = n0 :: n1 :: n2 :: ns.drop 3) (ha : 0 ≤ a) (hb : a + 70000 ≤ 100000000000) (h : ∀ (t : Kk) (a' : Int), (paK t).length ≤ 364 → htK t ≤ 12 → a ≤ a' → a' ≤ a + 17000 → C.nx [x0, some (Sd cs (a')), some (.l (strN ns)), some (.l (strN hs)), x4, x5, x6, some (.p (enK t)), x8, x9, x10, x11, none, none, none]) :
    w_law_s8 (sp__law_kind 6) sp__law_next [x0, some (Sd cs (a)), some (.l (strN ns)), some (.l (strN hs)), x4, x5, x6, x7, x8, x9, x10, x11, none, none, none] C X := by
  obtain ⟨ks, vs, hS⟩ := SdM cs a
  have e6 : (4 : Int) * 4 ^ 6 = 16384 := by decide
  obtain ⟨ns', vs', hm, K⟩ := known n0 n1 n2
  have g0 : gIx [.l (strN ns), .p (.int 0)] = some (.val (.str n0.1)) := gI_at (i := 0) (by rw [hn]; rfl)
  have g1 : gIx [.l (strN ns), .p (.int 1)] = some (.val (.str n1.1)) := gI_at (i := 1) (by rw [hn]; rfl)
  have g2 : gIx [.l (strN ns), .p (.int 2)] = some (.val (.str n2.1)) := gI_at (i := 2) (by rw [hn]; rfl)
  rw [hS]
  simp [wSeq, wIf, wTV, wAnd, wOr, wNot, wAndV, wOrV, wNotV, wIfE, wRd, wCons, wNil, woVar, woE, wVar, wMove, wC, wvCons, wvNil, wTup, wLst, wNext, wRet, wRetN, wDrop, wBrk, wCt, wAsg, wgN, wgNil, wgCons, wgT, wPar, wFor, wYes, wLc, wipeE, backE, wCall, wMeth, wDictNew, wgSub, wSlB, wZipL, wiSeq, wiR1, wiR2, wiStr, wiEnum, wiEnumS, bodyK, takeM, putM, msOf, M.fz, Res.m, M.seq, M.lseq, M.mseq, M.dict, isL, isK, gList, gTuple, gAppend, gGet2, gSetd, setD, gEq, gNe, eqD_ss, eqD_ii, eqD_bb, gIn, gNi, gZip, gAll, gAny, gMul, gInt, cPos, cDiv, cMul, gAdd, slD, sliceF, D.key, List.length_cons, List.length_nil, List.getElem?_cons_succ, List.getElem?_cons_zero, List.getElem?_nil, List.set_cons_succ, List.set_cons_zero, List.getD_cons_succ, List.getD_cons_zero, Option.bind_some, Option.map_some, Option.map_none, Option.bind_none, ixN, atI, HT.sIx, cutD, Option.isSome_some, if_true, if_false, ite_true, ite_false, Bool.false_eq_true, decide_eq_true_eq, Bool.not_true, Bool.not_false, true_and, and_true, ofS_inj, String.reduceEq, reduceIte, decide_true, decide_false, Int.reduceAdd, Nat.reduceLeDiff, Nat.reduceAdd, Nat.zero_add, Nat.le_refl, Nat.zero_le, w_law_s8, wDisp, wpCons, wpNil, g0, g1, g2, keysOf, hm]
  rw [← hS]
  refine ⟨cs, a, 30, rfl, by decide, ha, by omega, fun r r0 r1 o2 => ?_⟩
  obtain ⟨ks, vs, hS⟩ := SdM cs (a + 1)
  rw [hS]
  simp [wSeq, wIf, wTV, wAnd, wOr, wNot, wAndV, wOrV, wNotV, wIfE, wRd, wCons, wNil, woVar, woE, wVar, wMove, wC, wvCons, wvNil, wTup, wLst, wNext, wRet, wRetN, wDrop, wBrk, wCt, wAsg, wgN, wgNil, wgCons, wgT, wPar, wFor, wYes, wLc, wipeE, backE, wCall, wMeth, wDictNew, wgSub, wSlB, wZipL, wiSeq, wiR1, wiR2, wiStr, wiEnum, wiEnumS, bodyK, takeM, putM, msOf, M.fz, Res.m, M.seq, M.lseq, M.mseq, M.dict, isL, isK, gList, gTuple, gAppend, gGet2, gSetd, setD, gEq, gNe, eqD_ss, eqD_ii, eqD_bb, gIn, gNi, gZip, gAll, gAny, gMul, gInt, cPos, cDiv, cMul, gAdd, slD, sliceF, D.key, List.length_cons, List.length_nil, List.getElem?_cons_succ, List.getElem?_cons_zero, List.getElem?_nil, List.set_cons_succ, List.set_cons_zero, List.getD_cons_succ, List.getD_cons_zero, Option.bind_some, Option.map_some, Option.map_none, Option.bind_none, ixN, atI, HT.sIx, cutD, Option.isSome_some, if_true, if_false, ite_true, ite_false, Bool.false_eq_true, decide_eq_true_eq, Bool.not_true, Bool.not_false, true_and, and_true, ofS_inj, String.reduceEq, reduceIte, decide_true, decide_false, Int.reduceAdd, Nat.reduceLeDiff, Nat.reduceAdd, Nat.zero_add, Nat.le_refl, Nat.zero_le]
  rw [← hS]
  refine ⟨cs, a + 1, ns', vs', 4 + r, 6, rfl, K, by decide, by decide, by omega, by omega, by omega, by omega, fun t a' z1 z2 z3 z4 o3 o4 => ?_⟩
  have := h t a' (by omega) z2 (by omega) (by omega)
  generalize Sd cs a' = S at *
  simp [wSeq, wIf, wTV, wAnd, wOr, wNot, wAndV, wOrV, wNotV, wIfE, wRd, wCons, wNil, woVar, woE, wVar, wMove, wC, wvCons, wvNil, wTup, wLst, wNext, wRet, wRetN, wDrop, wBrk, wCt, wAsg, wgN, wgNil, wgCons, wgT, wPar, wFor, wYes, wLc, wipeE, backE, wCall, wMeth, wDictNew, wgSub, wSlB, wZipL, wiSeq, wiR1, wiR2, wiStr, wiEnum, wiEnumS, bodyK, takeM, putM, msOf, M.fz, Res.m, M.seq, M.lseq, M.mseq, M.dict, isL, isK, gList, gTuple, gAppend, gGet2, gSetd, setD, gEq, gNe, eqD_ss, eqD_ii, eqD_bb, gIn, gNi, gZip, gAll, gAny, gMul, gInt, cPos, cDiv, cMul, gAdd, slD, sliceF, D.key, List.length_cons, List.length_nil, List.getElem?_cons_succ, List.getElem?_cons_zero, List.getElem?_nil, List.set_cons_succ, List.set_cons_zero, List.getD_cons_succ, List.getD_cons_zero, Option.bind_some, Option.map_some, Option.map_none, Option.bind_none, ixN, atI, HT.sIx, cutD, Option.isSome_some, if_true, if_false, ite_true, ite_false, Bool.false_eq_true, decide_eq_true_eq, Bool.not_true, Bool.not_false, true_and, and_true, ofS_inj, String.reduceEq, reduceIte, decide_true, decide_false, Int.reduceAdd, Nat.reduceLeDiff, Nat.reduceAdd, Nat.zero_add, Nat.le_refl, Nat.zero_le]
  exact this
theorem lw_s9 (h1 : htK k ≤ 12) (h2 : (paK k).length ≤ 1000) (h : C.nx [x0, some (Sd cs (a)), some (.l (strN ns)), some (.l (strN hs)), x4, x5, x6, some (.p (enK k)), some (.l ((paK k).map enK)), x9, x10, x11, none, none, none]) : w_law_s9 (sp__law_kind_parts 12) [x0, some (Sd cs (a)), some (.l (strN ns)), some (.l (strN hs)), x4, x5, x6, some (.p (enK k)), x8, x9, x10, x11, none, none, none] C X := by
  generalize Sd cs a = S at *
  simp [wSeq, wIf, wTV, wAnd, wOr, wNot, wAndV, wOrV, wNotV, wIfE, wRd, wCons, wNil, woVar, woE, wVar, wMove, wC, wvCons, wvNil, wTup, wLst, wNext, wRet, wRetN, wDrop, wBrk, wCt, wAsg, wgN, wgNil, wgCons, wgT, wPar, wFor, wYes, wLc, wipeE, backE, wCall, wMeth, wDictNew, wgSub, wSlB, wZipL, wiSeq, wiR1, wiR2, wiStr, wiEnum, wiEnumS, bodyK, takeM, putM, msOf, M.fz, Res.m, M.seq, M.lseq, M.mseq, M.dict, isL, isK, gList, gTuple, gAppend, gGet2, gSetd, setD, gEq, gNe, eqD_ss, eqD_ii, eqD_bb, gIn, gNi, gZip, gAll, gAny, gMul, gInt, cPos, cDiv, cMul, gAdd, slD, sliceF, D.key, List.length_cons, List.length_nil, List.getElem?_cons_succ, List.getElem?_cons_zero, List.getElem?_nil, List.set_cons_succ, List.set_cons_zero, List.getD_cons_succ, List.getD_cons_zero, Option.bind_some, Option.map_some, Option.map_none, Option.bind_none, ixN, atI, HT.sIx, cutD, Option.isSome_some, if_true, if_false, ite_true, ite_false, Bool.false_eq_true, decide_eq_true_eq, Bool.not_true, Bool.not_false, true_and, and_true, ofS_inj, String.reduceEq, reduceIte, decide_true, decide_false, Int.reduceAdd, Nat.reduceLeDiff, Nat.reduceAdd, Nat.zero_add, Nat.le_refl, Nat.zero_le, w_law_s9]
  refine ⟨k, rfl, h1, h2, fun o => ?_⟩
  simp [wSeq, wIf, wTV, wAnd, wOr, wNot, wAndV, wOrV, wNotV, wIfE, wRd, wCons, wNil, woVar, woE, wVar, wMove, wC, wvCons, wvNil, wTup, wLst, wNext, wRet, wRetN, wDrop, wBrk, wCt, wAsg, wgN, wgNil, wgCons, wgT, wPar, wFor, wYes, wLc, wipeE, backE, wCall, wMeth, wDictNew, wgSub, wSlB, wZipL, wiSeq, wiR1, wiR2, wiStr, wiEnum, wiEnumS, bodyK, takeM, putM, msOf, M.fz, Res.m, M.seq, M.lseq, M.mseq, M.dict, isL, isK, gList, gTuple, gAppend, gGet2, gSetd, setD, gEq, gNe, eqD_ss, eqD_ii, eqD_bb, gIn, gNi, gZip, gAll, gAny, gMul, gInt, cPos, cDiv, cMul, gAdd, slD, sliceF, D.key, List.length_cons, List.length_nil, List.getElem?_cons_succ, List.getElem?_cons_zero, List.getElem?_nil, List.set_cons_succ, List.set_cons_zero, List.getD_cons_succ, List.getD_cons_zero, Option.bind_some, Option.map_some, Option.map_none, Option.bind_none, ixN, atI, HT.sIx, cutD, Option.isSome_some, if_true, if_false, ite_true, ite_false, Bool.false_eq_true, decide_eq_true_eq, Bool.not_true, Bool.not_false, true_and, and_true, ofS_inj, String.reduceEq, reduceIte, decide_true, decide_false, Int.reduceAdd, Nat.reduceLeDiff, Nat.reduceAdd, Nat.zero_add, Nat.le_refl, Nat.zero_le]
  exact h
theorem lw_lets {Cc : List D → Env → Prop} {x1 x2 x3 : Option M} : ∀ (us : List Kk) (acc : List Nm), acc.length + us.length ≤ 2000 → (Cc (strN (acc ++ letsK us)) [x0, x1, x2, x3, x4, x5, x6, x7, x8, x9, x10, x11, none, x13, x14]) →
    wLcL [12] w_law_g4 w_law_t4 w_law_e4 Cc (us.map enK) (strN acc) [x0, x1, x2, x3, x4, x5, x6, x7, x8, x9, x10, x11, none, x13, x14] := by
  intro us
  induction us with
  | nil =>
    intro acc _ h
    have e : acc ++ letsK [] = acc := by simp [letsK]
    rw [e] at h
    exact h
  | cons u us ih =>
    intro acc hn h
    have hacc : (strN acc).length < 100000 := by simp [strN]; simp at hn; omega
    cases u with
    | letter s =>
      have e2 : strN acc ++ [.str s.1] = strN (acc ++ [s]) := by simp [strN]
      simp [wLcL, w_law_g4, w_law_t4, w_law_e4, wSeq, wIf, wTV, wAnd, wOr, wNot, wAndV, wOrV, wNotV, wIfE, wRd, wCons, wNil, woVar, woE, wVar, wMove, wC, wvCons, wvNil, wTup, wLst, wNext, wRet, wRetN, wDrop, wBrk, wCt, wAsg, wgN, wgNil, wgCons, wgT, wPar, wFor, wYes, wLc, wipeE, backE, wCall, wMeth, wDictNew, wgSub, wSlB, wZipL, wiSeq, wiR1, wiR2, wiStr, wiEnum, wiEnumS, bodyK, takeM, putM, msOf, M.fz, Res.m, M.seq, M.lseq, M.mseq, M.dict, isL, isK, gList, gTuple, gAppend, gGet2, gSetd, setD, gEq, gNe, eqD_ss, eqD_ii, eqD_bb, gIn, gNi, gZip, gAll, gAny, gMul, gInt, cPos, cDiv, cMul, gAdd, slD, sliceF, D.key, List.length_cons, List.length_nil, List.getElem?_cons_succ, List.getElem?_cons_zero, List.getElem?_nil, List.set_cons_succ, List.set_cons_zero, List.getD_cons_succ, List.getD_cons_zero, Option.bind_some, Option.map_some, Option.map_none, Option.bind_none, ixN, atI, HT.sIx, cutD, Option.isSome_some, if_true, if_false, ite_true, ite_false, Bool.false_eq_true, decide_eq_true_eq, Bool.not_true, Bool.not_false, true_and, and_true, ofS_inj, String.reduceEq, reduceIte, decide_true, decide_false, Int.reduceAdd, Nat.reduceLeDiff, Nat.reduceAdd, Nat.zero_add, Nat.le_refl, Nat.zero_le, enK, gIx, hacc]
      rw [e2]
      exact ih (acc ++ [s]) (by simp at hn ⊢; omega) (by simpa [letsK, lettK] using h)
    | _ =>
      simp [wLcL, w_law_g4, w_law_t4, w_law_e4, wSeq, wIf, wTV, wAnd, wOr, wNot, wAndV, wOrV, wNotV, wIfE, wRd, wCons, wNil, woVar, woE, wVar, wMove, wC, wvCons, wvNil, wTup, wLst, wNext, wRet, wRetN, wDrop, wBrk, wCt, wAsg, wgN, wgNil, wgCons, wgT, wPar, wFor, wYes, wLc, wipeE, backE, wCall, wMeth, wDictNew, wgSub, wSlB, wZipL, wiSeq, wiR1, wiR2, wiStr, wiEnum, wiEnumS, bodyK, takeM, putM, msOf, M.fz, Res.m, M.seq, M.lseq, M.mseq, M.dict, isL, isK, gList, gTuple, gAppend, gGet2, gSetd, setD, gEq, gNe, eqD_ss, eqD_ii, eqD_bb, gIn, gNi, gZip, gAll, gAny, gMul, gInt, cPos, cDiv, cMul, gAdd, slD, sliceF, D.key, List.length_cons, List.length_nil, List.getElem?_cons_succ, List.getElem?_cons_zero, List.getElem?_nil, List.set_cons_succ, List.set_cons_zero, List.getD_cons_succ, List.getD_cons_zero, Option.bind_some, Option.map_some, Option.map_none, Option.bind_none, ixN, atI, HT.sIx, cutD, Option.isSome_some, if_true, if_false, ite_true, ite_false, Bool.false_eq_true, decide_eq_true_eq, Bool.not_true, Bool.not_false, true_and, and_true, ofS_inj, String.reduceEq, reduceIte, decide_true, decide_false, Int.reduceAdd, Nat.reduceLeDiff, Nat.reduceAdd, Nat.zero_add, Nat.le_refl, Nat.zero_le, enK, gIx]
      exact ih acc (by simp at hn ⊢; omega) (by simpa [letsK, lettK] using h)
theorem lw_s10 (h2 : (paK k).length ≤ 1000) (h : C.nx [x0, some (Sd cs (a)), some (.l (strN ns)), some (.l (strN hs)), x4, x5, x6, x7, some (.p (.lst ((paK k).map enK))), some (.l (strN (letsK (paK k)))), x10, x11, none, none, none]) : w_law_s10 [x0, some (Sd cs (a)), some (.l (strN ns)), some (.l (strN hs)), x4, x5, x6, x7, some (.l ((paK k).map enK)), x9, x10, x11, none, none, none] C X := by
  generalize Sd cs a = S at *
  simp [wSeq, wIf, wTV, wAnd, wOr, wNot, wAndV, wOrV, wNotV, wIfE, wRd, wCons, wNil, woVar, woE, wVar, wMove, wC, wvCons, wvNil, wTup, wLst, wNext, wRet, wRetN, wDrop, wBrk, wCt, wAsg, wgN, wgNil, wgCons, wgT, wPar, wFor, wYes, wLc, wipeE, backE, wCall, wMeth, wDictNew, wgSub, wSlB, wZipL, wiSeq, wiR1, wiR2, wiStr, wiEnum, wiEnumS, bodyK, takeM, putM, msOf, M.fz, Res.m, M.seq, M.lseq, M.mseq, M.dict, isL, isK, gList, gTuple, gAppend, gGet2, gSetd, setD, gEq, gNe, eqD_ss, eqD_ii, eqD_bb, gIn, gNi, gZip, gAll, gAny, gMul, gInt, cPos, cDiv, cMul, gAdd, slD, sliceF, D.key, List.length_cons, List.length_nil, List.getElem?_cons_succ, List.getElem?_cons_zero, List.getElem?_nil, List.set_cons_succ, List.set_cons_zero, List.getD_cons_succ, List.getD_cons_zero, Option.bind_some, Option.map_some, Option.map_none, Option.bind_none, ixN, atI, HT.sIx, cutD, Option.isSome_some, if_true, if_false, ite_true, ite_false, Bool.false_eq_true, decide_eq_true_eq, Bool.not_true, Bool.not_false, true_and, and_true, ofS_inj, String.reduceEq, reduceIte, decide_true, decide_false, Int.reduceAdd, Nat.reduceLeDiff, Nat.reduceAdd, Nat.zero_add, Nat.le_refl, Nat.zero_le, w_law_s10]
  refine lw_lets (paK k) [] (by simp; omega) ?_
  simp [wSeq, wIf, wTV, wAnd, wOr, wNot, wAndV, wOrV, wNotV, wIfE, wRd, wCons, wNil, woVar, woE, wVar, wMove, wC, wvCons, wvNil, wTup, wLst, wNext, wRet, wRetN, wDrop, wBrk, wCt, wAsg, wgN, wgNil, wgCons, wgT, wPar, wFor, wYes, wLc, wipeE, backE, wCall, wMeth, wDictNew, wgSub, wSlB, wZipL, wiSeq, wiR1, wiR2, wiStr, wiEnum, wiEnumS, bodyK, takeM, putM, msOf, M.fz, Res.m, M.seq, M.lseq, M.mseq, M.dict, isL, isK, gList, gTuple, gAppend, gGet2, gSetd, setD, gEq, gNe, eqD_ss, eqD_ii, eqD_bb, gIn, gNi, gZip, gAll, gAny, gMul, gInt, cPos, cDiv, cMul, gAdd, slD, sliceF, D.key, List.length_cons, List.length_nil, List.getElem?_cons_succ, List.getElem?_cons_zero, List.getElem?_nil, List.set_cons_succ, List.set_cons_zero, List.getD_cons_succ, List.getD_cons_zero, Option.bind_some, Option.map_some, Option.map_none, Option.bind_none, ixN, atI, HT.sIx, cutD, Option.isSome_some, if_true, if_false, ite_true, ite_false, Bool.false_eq_true, decide_eq_true_eq, Bool.not_true, Bool.not_false, true_and, and_true, ofS_inj, String.reduceEq, reduceIte, decide_true, decide_false, Int.reduceAdd, Nat.reduceLeDiff, Nat.reduceAdd, Nat.zero_add, Nat.le_refl, Nat.zero_le]
  exact h
def enF (i : Nat) : List D → List D
  | [] => []
  | d :: ds => .tup [.int i, d] :: enF (i + 1) ds
theorem enumD_eq : ∀ (ds : List D) (i : Nat), ((List.range' i ds.length).zip ds).map (fun (p : Nat × D) => D.tup [.int (p.1 : Int), p.2]) = enF i ds
  | [], _ => rfl
  | d :: ds, i => by
    rw [List.length_cons, List.range'_succ, List.zip_cons_cons, List.map_cons, enumD_eq ds (i + 1)]
    rfl
theorem enumD_enF (ds : List D) : enumD ds = enF 0 ds := by
  rw [← enumD_eq, enumD, List.range_eq_range']
theorem any_N (x : Nm) (l : List Nm) : (strN l).any (fun e => eqF e (.str x.1)) = decide (x ∈ l) := by
  induction l with
  | nil => rfl
  | cons y l ih =>
    have e : (y.1 == x.1) = decide (y = x) := by
      rw [str_beq]
      by_cases h : y = x
      · subst h; simp
      · have h' : y.1 ≠ x.1 := fun e => h (Subtype.ext e)
        simp [h, h']
    have e2 : (strN (y :: l)).any (fun e => eqF e (.str x.1)) = ((y.1 == x.1) || (strN l).any (fun e => eqF e (.str x.1))) := rfl
    rw [e2, ih, e]
    by_cases h : y = x
    · subst h; simp
    · have h' : x ≠ y := fun e => h (Eq.symm e)
      simp [h, h']
theorem flat_N (l : List Nm) : (strN l).all flatD = true := by simp [strN, flatD]
theorem gNi_N (x : Nm) (l : List Nm) : gNi [.p (.str x.1), .l (strN l)] = some (.val (.bl (!decide (x ∈ l)))) := by
  have := flat_N l
  simp only [gNi, inD, M.dict, M.seq, D.key, flatD, this, any_N, Bool.true_and, Bool.and_true, if_true, Option.map_some]
theorem cut_N (pre l : List Nm) : cutD (strN (pre ++ l)) none (some (pre.length : Int)) = strN pre := by
  have e : (strN (pre ++ l)).length = pre.length + l.length := by simp [strN]
  have e2 : strN (pre ++ l) = strN pre ++ strN l := by simp [strN]
  have e3 : (strN pre).length = pre.length := by simp [strN]
  have e4 : min pre.length (pre.length + l.length) - 0 = (strN pre).length := by rw [e3]; omega
  unfold cutD
  rw [HT.sIx_none, HT.sIx_nat, e, e4, List.drop_zero, e2, List.take_left]
theorem t5_due {x : Nm} {pre l : List Nm} {C : Bool → Env → Prop} {x1 x2 x3 : Option M} (h : C (!decide (x ∈ pre)) [x0, x1, x2, x3, x4, x5, x6, x7, x8, some (.p (.lst (strN (pre ++ x :: l)))), x10, x11, x12, some (.p (.int pre.length)), some (.p (.str x.1))]) :
    w_law_t5 [x0, x1, x2, x3, x4, x5, x6, x7, x8, some (.p (.lst (strN (pre ++ x :: l)))), x10, x11, x12, some (.p (.int pre.length)), some (.p (.str x.1))] C X := by
  have hc := cut_N pre (x :: l)
  have hg := gNi_N x pre
  simp only [w_law_t5, wTV, wRd, wCons, wNil, woVar, woE, msOf, sliceF, slD, List.getElem?_cons_succ, List.getElem?_cons_zero, Option.bind_some, Option.map_some, Res.m, hc, hg, false_and, and_false, Bool.true_eq_false, ite_true, ite_false, and_self, true_and, and_true, reduceIte, if_true, if_false, Bool.false_eq_true]
  exact h
theorem lw_due {Cc : List D → Env → Prop} {x1 x2 x3 : Option M} : ∀ (l pre : List Nm), pre.length + l.length ≤ 2000 → (Cc (strN (ddp (pre ++ l))) [x0, x1, x2, x3, x4, x5, x6, x7, x8, some (.p (.lst (strN (pre ++ l)))), x10, x11, x12, none, none]) →
    wLcL [13, 14] w_law_g5 w_law_t5 w_law_e5 Cc (enF pre.length (strN l)) (strN (ddp pre)) [x0, x1, x2, x3, x4, x5, x6, x7, x8, some (.p (.lst (strN (pre ++ l)))), x10, x11, x12, none, none] := by
  intro l
  induction l with
  | nil =>
    intro pre _ h
    rw [List.append_nil] at h ⊢
    exact h
  | cons x l ih =>
    intro pre hn h
    have e3 : strN (x :: l) = .str x.1 :: strN l := rfl
    have hc := cut_N pre (x :: l)
    have hm := mem_ddp x pre
    have hs := ddp_snoc pre x
    have ha : pre ++ x :: l = (pre ++ [x]) ++ l := by simp
    have hacc : (strN (ddp pre)).length < 100000 := by have := len_ddp pre; simp [strN]; simp at hn; omega
    have key := ih (pre ++ [x]) (by simp at hn ⊢; omega) (by rw [← ha]; exact h)
    rw [← ha] at key
    have hpl : (pre ++ [x]).length = pre.length + 1 := by simp
    rw [hpl] at key
    rw [e3]
    unfold enF
    unfold wLcL
    refine ⟨rfl, ?_⟩
    show w_law_t5 [x0, x1, x2, x3, x4, x5, x6, x7, x8, some (.p (.lst (strN (pre ++ x :: l)))), x10, x11, x12, some (.p (.int pre.length)), some (.p (.str x.1))] _ _
    refine t5_due ?_
    by_cases hx : x ∈ pre
    · have e5 : ddp (pre ++ [x]) = ddp pre := by rw [hs, addN, if_pos (hm.mpr hx)]
      rw [e5] at key
      simp only [hx, decide_true, Bool.not_true, Bool.false_eq_true, if_false]
      exact key
    · have e5 : ddp (pre ++ [x]) = ddp pre ++ [x] := by rw [hs, addN, if_neg (fun q => hx (hm.mp q))]
      have e2 : strN (ddp pre) ++ [.str x.1] = strN (ddp pre ++ [x]) := by simp [strN]
      rw [e5] at key
      simp only [hx, decide_false, Bool.not_false, if_true]
      refine ⟨hacc, ?_⟩
      rw [e2]
      exact key
theorem lw_s11 {l : List Nm} (h2 : l.length ≤ 1000) (h : ∀ x9, C.nx [x0, some (Sd cs (a)), some (.l (strN ns)), some (.l (strN hs)), x4, x5, x6, x7, x8, x9, some (.l (strN (ddp l))), x11, none, none, none]) : w_law_s11 [x0, some (Sd cs (a)), some (.l (strN ns)), some (.l (strN hs)), x4, x5, x6, x7, x8, some (.l (strN l)), x10, x11, none, none, none] C X := by
  generalize Sd cs a = S at *
  simp [wSeq, wIf, wTV, wAnd, wOr, wNot, wAndV, wOrV, wNotV, wIfE, wRd, wCons, wNil, woVar, woE, wVar, wMove, wC, wvCons, wvNil, wTup, wLst, wNext, wRet, wRetN, wDrop, wBrk, wCt, wAsg, wgN, wgNil, wgCons, wgT, wPar, wFor, wYes, wLc, wipeE, backE, wCall, wMeth, wDictNew, wgSub, wSlB, wZipL, wiSeq, wiR1, wiR2, wiStr, wiEnum, wiEnumS, bodyK, takeM, putM, msOf, M.fz, Res.m, M.seq, M.lseq, M.mseq, M.dict, isL, isK, gList, gTuple, gAppend, gGet2, gSetd, setD, gEq, gNe, eqD_ss, eqD_ii, eqD_bb, gIn, gNi, gZip, gAll, gAny, gMul, gInt, cPos, cDiv, cMul, gAdd, slD, sliceF, D.key, List.length_cons, List.length_nil, List.getElem?_cons_succ, List.getElem?_cons_zero, List.getElem?_nil, List.set_cons_succ, List.set_cons_zero, List.getD_cons_succ, List.getD_cons_zero, Option.bind_some, Option.map_some, Option.map_none, Option.bind_none, ixN, atI, HT.sIx, cutD, Option.isSome_some, if_true, if_false, ite_true, ite_false, Bool.false_eq_true, decide_eq_true_eq, Bool.not_true, Bool.not_false, true_and, and_true, ofS_inj, String.reduceEq, reduceIte, decide_true, decide_false, Int.reduceAdd, Nat.reduceLeDiff, Nat.reduceAdd, Nat.zero_add, Nat.le_refl, Nat.zero_le, w_law_s11, enumD_enF]
  refine lw_due l [] (by simp; omega) ?_
  simp [wSeq, wIf, wTV, wAnd, wOr, wNot, wAndV, wOrV, wNotV, wIfE, wRd, wCons, wNil, woVar, woE, wVar, wMove, wC, wvCons, wvNil, wTup, wLst, wNext, wRet, wRetN, wDrop, wBrk, wCt, wAsg, wgN, wgNil, wgCons, wgT, wPar, wFor, wYes, wLc, wipeE, backE, wCall, wMeth, wDictNew, wgSub, wSlB, wZipL, wiSeq, wiR1, wiR2, wiStr, wiEnum, wiEnumS, bodyK, takeM, putM, msOf, M.fz, Res.m, M.seq, M.lseq, M.mseq, M.dict, isL, isK, gList, gTuple, gAppend, gGet2, gSetd, setD, gEq, gNe, eqD_ss, eqD_ii, eqD_bb, gIn, gNi, gZip, gAll, gAny, gMul, gInt, cPos, cDiv, cMul, gAdd, slD, sliceF, D.key, List.length_cons, List.length_nil, List.getElem?_cons_succ, List.getElem?_cons_zero, List.getElem?_nil, List.set_cons_succ, List.set_cons_zero, List.getD_cons_succ, List.getD_cons_zero, Option.bind_some, Option.map_some, Option.map_none, Option.bind_none, ixN, atI, HT.sIx, cutD, Option.isSome_some, if_true, if_false, ite_true, ite_false, Bool.false_eq_true, decide_eq_true_eq, Bool.not_true, Bool.not_false, true_and, and_true, ofS_inj, String.reduceEq, reduceIte, decide_true, decide_false, Int.reduceAdd, Nat.reduceLeDiff, Nat.reduceAdd, Nat.zero_add, Nat.le_refl, Nat.zero_le]
  exact h _
theorem isi_ib (i : Int) : gIsi [.p (.int i), .p (.ty "bool")] = some (.val (.bl false)) := by
  have : L2.kitB "int" "bool" = some false := by decide
  simp [gIsi, tyName, this]
theorem lw_s12 (h13 : a3 ≠ a1) (h23 : a3 ≠ a2) (h2 : (paK k).length ≤ 1000) (h : ∀ x7, C.nx [x0, some (Sd cs (a)), some (.l (strN ns)), some (.l (strN hs)), x4, x5, x6, x7, some (.p (.lst ((paK k).map enK))), x9, some (.l (strN (ddp (letsK (paK k))))), some (.p (.int (paK k).length)), none, none, none]) :
    w_law_s12 (sp__law_again (Sx a1 a2 a3)) a3 [x0, some (Sd cs (a)), some (.l (strN ns)), some (.l (strN hs)), x4, x5, x6, some (.p (enK k)), some (.p (.lst ((paK k).map enK))), x9, some (.l (strN (ddp (letsK (paK k))))), some (.p (.int (paK k).length)), none, none, none] C X := by
  generalize Sd cs a = S at *
  have hl : (ddp (letsK (paK k))).length < 100000 := by
    have e1 := len_ddp (letsK (paK k))
    have e2 : ∀ us : List Kk, (letsK us).length ≤ us.length := by
      intro us
      induction us with
      | nil => simp [letsK]
      | cons u us ih => cases u <;> simp [letsK, lettK] at ih ⊢ <;> omega
    have e3 := e2 (paK k)
    omega
  simp [wSeq, wIf, wTV, wAnd, wOr, wNot, wAndV, wOrV, wNotV, wIfE, wRd, wCons, wNil, woVar, woE, wVar, wMove, wC, wvCons, wvNil, wTup, wLst, wNext, wRet, wRetN, wDrop, wBrk, wCt, wAsg, wgN, wgNil, wgCons, wgT, wPar, wFor, wYes, wLc, wipeE, backE, wCall, wMeth, wDictNew, wgSub, wSlB, wZipL, wiSeq, wiR1, wiR2, wiStr, wiEnum, wiEnumS, bodyK, takeM, putM, msOf, M.fz, Res.m, M.seq, M.lseq, M.mseq, M.dict, isL, isK, gList, gTuple, gAppend, gGet2, gSetd, setD, gEq, gNe, eqD_ss, eqD_ii, eqD_bb, gIn, gNi, gZip, gAll, gAny, gMul, gInt, cPos, cDiv, cMul, gAdd, slD, sliceF, D.key, List.length_cons, List.length_nil, List.getElem?_cons_succ, List.getElem?_cons_zero, List.getElem?_nil, List.set_cons_succ, List.set_cons_zero, List.getD_cons_succ, List.getD_cons_zero, Option.bind_some, Option.map_some, Option.map_none, Option.bind_none, ixN, atI, HT.sIx, cutD, Option.isSome_some, if_true, if_false, ite_true, ite_false, Bool.false_eq_true, decide_eq_true_eq, Bool.not_true, Bool.not_false, true_and, and_true, ofS_inj, String.reduceEq, reduceIte, decide_true, decide_false, Int.reduceAdd, Nat.reduceLeDiff, Nat.reduceAdd, Nat.zero_add, Nat.le_refl, Nat.zero_le, w_law_s12, isi_ib, gLen]
  refine ⟨a3, enK k, _, sp_letters_in, 1, rfl, by simp [Sx, h13, h23], fun C CX h => ⟨k, rfl, h2, h⟩, by simpa [strN] using hl, pyn_lst (n := 0) fun y hy => (by
    obtain ⟨m, _, rfl⟩ := List.mem_map.mp hy
    exact pyn_str m.2 _), by decide, fun o1 o2 => ?_⟩
  simp [wSeq, wIf, wTV, wAnd, wOr, wNot, wAndV, wOrV, wNotV, wIfE, wRd, wCons, wNil, woVar, woE, wVar, wMove, wC, wvCons, wvNil, wTup, wLst, wNext, wRet, wRetN, wDrop, wBrk, wCt, wAsg, wgN, wgNil, wgCons, wgT, wPar, wFor, wYes, wLc, wipeE, backE, wCall, wMeth, wDictNew, wgSub, wSlB, wZipL, wiSeq, wiR1, wiR2, wiStr, wiEnum, wiEnumS, bodyK, takeM, putM, msOf, M.fz, Res.m, M.seq, M.lseq, M.mseq, M.dict, isL, isK, gList, gTuple, gAppend, gGet2, gSetd, setD, gEq, gNe, eqD_ss, eqD_ii, eqD_bb, gIn, gNi, gZip, gAll, gAny, gMul, gInt, cPos, cDiv, cMul, gAdd, slD, sliceF, D.key, List.length_cons, List.length_nil, List.getElem?_cons_succ, List.getElem?_cons_zero, List.getElem?_nil, List.set_cons_succ, List.set_cons_zero, List.getD_cons_succ, List.getD_cons_zero, Option.bind_some, Option.map_some, Option.map_none, Option.bind_none, ixN, atI, HT.sIx, cutD, Option.isSome_some, if_true, if_false, ite_true, ite_false, Bool.false_eq_true, decide_eq_true_eq, Bool.not_true, Bool.not_false, true_and, and_true, ofS_inj, String.reduceEq, reduceIte, decide_true, decide_false, Int.reduceAdd, Nat.reduceLeDiff, Nat.reduceAdd, Nat.zero_add, Nat.le_refl, Nat.zero_le]
  exact h _
theorem lw_s13 (h2 : (paK k).length ≤ 1000) (h : C.nx [x0, some (Sd cs (a)), some (.l (strN ns)), some (.l (strN hs)), x4, x5, x6, some (.p (enK k)), x8, x9, x10, some (.p (.int (paK k).length)), none, none, none]) : wAsg (wCall 1 sp_size_of (wCons (woVar 7) (wNil))) (wgN 11) [x0, some (Sd cs (a)), some (.l (strN ns)), some (.l (strN hs)), x4, x5, x6, some (.p (enK k)), x8, x9, x10, x11, none, none, none] C X := by
  generalize Sd cs a = S at *
  simp [wSeq, wIf, wTV, wAnd, wOr, wNot, wAndV, wOrV, wNotV, wIfE, wRd, wCons, wNil, woVar, woE, wVar, wMove, wC, wvCons, wvNil, wTup, wLst, wNext, wRet, wRetN, wDrop, wBrk, wCt, wAsg, wgN, wgNil, wgCons, wgT, wPar, wFor, wYes, wLc, wipeE, backE, wCall, wMeth, wDictNew, wgSub, wSlB, wZipL, wiSeq, wiR1, wiR2, wiStr, wiEnum, wiEnumS, bodyK, takeM, putM, msOf, M.fz, Res.m, M.seq, M.lseq, M.mseq, M.dict, isL, isK, gList, gTuple, gAppend, gGet2, gSetd, setD, gEq, gNe, eqD_ss, eqD_ii, eqD_bb, gIn, gNi, gZip, gAll, gAny, gMul, gInt, cPos, cDiv, cMul, gAdd, slD, sliceF, D.key, List.length_cons, List.length_nil, List.getElem?_cons_succ, List.getElem?_cons_zero, List.getElem?_nil, List.set_cons_succ, List.set_cons_zero, List.getD_cons_succ, List.getD_cons_zero, Option.bind_some, Option.map_some, Option.map_none, Option.bind_none, ixN, atI, HT.sIx, cutD, Option.isSome_some, if_true, if_false, ite_true, ite_false, Bool.false_eq_true, decide_eq_true_eq, Bool.not_true, Bool.not_false, true_and, and_true, ofS_inj, String.reduceEq, reduceIte, decide_true, decide_false, Int.reduceAdd, Nat.reduceLeDiff, Nat.reduceAdd, Nat.zero_add, Nat.le_refl, Nat.zero_le]
  refine ⟨k, rfl, h2, fun o => ?_⟩
  simp [wSeq, wIf, wTV, wAnd, wOr, wNot, wAndV, wOrV, wNotV, wIfE, wRd, wCons, wNil, woVar, woE, wVar, wMove, wC, wvCons, wvNil, wTup, wLst, wNext, wRet, wRetN, wDrop, wBrk, wCt, wAsg, wgN, wgNil, wgCons, wgT, wPar, wFor, wYes, wLc, wipeE, backE, wCall, wMeth, wDictNew, wgSub, wSlB, wZipL, wiSeq, wiR1, wiR2, wiStr, wiEnum, wiEnumS, bodyK, takeM, putM, msOf, M.fz, Res.m, M.seq, M.lseq, M.mseq, M.dict, isL, isK, gList, gTuple, gAppend, gGet2, gSetd, setD, gEq, gNe, eqD_ss, eqD_ii, eqD_bb, gIn, gNi, gZip, gAll, gAny, gMul, gInt, cPos, cDiv, cMul, gAdd, slD, sliceF, D.key, List.length_cons, List.length_nil, List.getElem?_cons_succ, List.getElem?_cons_zero, List.getElem?_nil, List.set_cons_succ, List.set_cons_zero, List.getD_cons_succ, List.getD_cons_zero, Option.bind_some, Option.map_some, Option.map_none, Option.bind_none, ixN, atI, HT.sIx, cutD, Option.isSome_some, if_true, if_false, ite_true, ite_false, Bool.false_eq_true, decide_eq_true_eq, Bool.not_true, Bool.not_false, true_and, and_true, ofS_inj, String.reduceEq, reduceIte, decide_true, decide_false, Int.reduceAdd, Nat.reduceLeDiff, Nat.reduceAdd, Nat.zero_add, Nat.le_refl, Nat.zero_le]
  exact h
end BV

namespace BV
open PySem L2 PyProof.Rows
def sp__law_far_right : WF := fun ms C CX => ∃ (cs : List Int) (a : Int), ms = [Sd cs a] ∧ ∀ o, C (.p (.bl true)) [o]
variable {cs : List Int} {a : Int} {C : KS} {X : KX} {x0 x1 x2 x3 x4 : Option M} {nm : Nm} {t : Tt} {k : Kk}
theorem fw_s1 (h : ∀ nm : Nm, C.nx [some (Sd cs a), some (.p (.str nm.1)), x2, x3, x4]) : w_L_far_right_s1 sp__law_name [some (Sd cs a), x1, x2, x3, x4] C X := by
  obtain ⟨ks, vs, hS⟩ := SdM cs a
  rw [hS]
  simp [wSeq, wIf, wTV, wAnd, wOr, wNot, wAndV, wOrV, wNotV, wIfE, wRd, wCons, wNil, woVar, woE, wVar, wMove, wC, wvCons, wvNil, wTup, wLst, wNext, wRet, wRetN, wDrop, wBrk, wCt, wAsg, wgN, wgNil, wgCons, wgT, wPar, wFor, wYes, wLc, wipeE, backE, wCall, wMeth, wDictNew, wgSub, wSlB, wZipL, wiSeq, wiR1, wiR2, wiStr, wiEnum, wiEnumS, bodyK, takeM, putM, msOf, M.fz, Res.m, M.seq, M.lseq, M.mseq, M.dict, isL, isK, gList, gTuple, gAppend, gGet2, gSetd, setD, gEq, gNe, eqD_ss, eqD_ii, eqD_bb, gIn, gNi, gZip, gAll, gAny, gMul, gInt, cPos, cDiv, cMul, gAdd, slD, sliceF, D.key, List.length_cons, List.length_nil, List.getElem?_cons_succ, List.getElem?_cons_zero, List.getElem?_nil, List.set_cons_succ, List.set_cons_zero, List.getD_cons_succ, List.getD_cons_zero, Option.bind_some, Option.map_some, Option.map_none, Option.bind_none, ixN, atI, HT.sIx, cutD, Option.isSome_some, if_true, if_false, ite_true, ite_false, Bool.false_eq_true, decide_eq_true_eq, Bool.not_true, Bool.not_false, true_and, and_true, ofS_inj, String.reduceEq, reduceIte, decide_true, decide_false, Int.reduceAdd, Nat.reduceLeDiff, Nat.reduceAdd, Nat.zero_add, Nat.le_refl, Nat.zero_le, w_L_far_right_s1]
  rw [← hS]
  refine ⟨cs, a, 3, rfl, by decide, by decide, fun nm _ o2 => ?_⟩
  have := h nm
  generalize Sd cs a = S at *
  simp [wSeq, wIf, wTV, wAnd, wOr, wNot, wAndV, wOrV, wNotV, wIfE, wRd, wCons, wNil, woVar, woE, wVar, wMove, wC, wvCons, wvNil, wTup, wLst, wNext, wRet, wRetN, wDrop, wBrk, wCt, wAsg, wgN, wgNil, wgCons, wgT, wPar, wFor, wYes, wLc, wipeE, backE, wCall, wMeth, wDictNew, wgSub, wSlB, wZipL, wiSeq, wiR1, wiR2, wiStr, wiEnum, wiEnumS, bodyK, takeM, putM, msOf, M.fz, Res.m, M.seq, M.lseq, M.mseq, M.dict, isL, isK, gList, gTuple, gAppend, gGet2, gSetd, setD, gEq, gNe, eqD_ss, eqD_ii, eqD_bb, gIn, gNi, gZip, gAll, gAny, gMul, gInt, cPos, cDiv, cMul, gAdd, slD, sliceF, D.key, List.length_cons, List.length_nil, List.getElem?_cons_succ, List.getElem?_cons_zero, List.getElem?_nil, List.set_cons_succ, List.set_cons_zero, List.getD_cons_succ, List.getD_cons_zero, Option.bind_some, Option.map_some, Option.map_none, Option.bind_none, ixN, atI, HT.sIx, cutD, Option.isSome_some, if_true, if_false, ite_true, ite_false, Bool.false_eq_true, decide_eq_true_eq, Bool.not_true, Bool.not_false, true_and, and_true, ofS_inj, String.reduceEq, reduceIte, decide_true, decide_false, Int.reduceAdd, Nat.reduceLeDiff, Nat.reduceAdd, Nat.zero_add, Nat.le_refl, Nat.zero_le]
  exact this
theorem fw_s2 (h : C.nx [x0, some (.p (.str nm.1)), some (.p (enT (frT nm 0))), x3, x4]) : w_L_far_right_s2 [x0, some (.p (.str nm.1)), x2, x3, x4] C X := by
  simp [wSeq, wIf, wTV, wAnd, wOr, wNot, wAndV, wOrV, wNotV, wIfE, wRd, wCons, wNil, woVar, woE, wVar, wMove, wC, wvCons, wvNil, wTup, wLst, wNext, wRet, wRetN, wDrop, wBrk, wCt, wAsg, wgN, wgNil, wgCons, wgT, wPar, wFor, wYes, wLc, wipeE, backE, wCall, wMeth, wDictNew, wgSub, wSlB, wZipL, wiSeq, wiR1, wiR2, wiStr, wiEnum, wiEnumS, bodyK, takeM, putM, msOf, M.fz, Res.m, M.seq, M.lseq, M.mseq, M.dict, isL, isK, gList, gTuple, gAppend, gGet2, gSetd, setD, gEq, gNe, eqD_ss, eqD_ii, eqD_bb, gIn, gNi, gZip, gAll, gAny, gMul, gInt, cPos, cDiv, cMul, gAdd, slD, sliceF, D.key, List.length_cons, List.length_nil, List.getElem?_cons_succ, List.getElem?_cons_zero, List.getElem?_nil, List.set_cons_succ, List.set_cons_zero, List.getD_cons_succ, List.getD_cons_zero, Option.bind_some, Option.map_some, Option.map_none, Option.bind_none, ixN, atI, HT.sIx, cutD, Option.isSome_some, if_true, if_false, ite_true, ite_false, Bool.false_eq_true, decide_eq_true_eq, Bool.not_true, Bool.not_false, true_and, and_true, ofS_inj, String.reduceEq, reduceIte, decide_true, decide_false, Int.reduceAdd, Nat.reduceLeDiff, Nat.reduceAdd, Nat.zero_add, Nat.le_refl, Nat.zero_le, w_L_far_right_s2]
  exact h
theorem fw_s3 (h : C.nx [x0, some (.p (.str nm.1)), x2, some (.p (enK (frK nm 0))), x4]) : w_L_far_right_s3 [x0, some (.p (.str nm.1)), x2, x3, x4] C X := by
  simp [wSeq, wIf, wTV, wAnd, wOr, wNot, wAndV, wOrV, wNotV, wIfE, wRd, wCons, wNil, woVar, woE, wVar, wMove, wC, wvCons, wvNil, wTup, wLst, wNext, wRet, wRetN, wDrop, wBrk, wCt, wAsg, wgN, wgNil, wgCons, wgT, wPar, wFor, wYes, wLc, wipeE, backE, wCall, wMeth, wDictNew, wgSub, wSlB, wZipL, wiSeq, wiR1, wiR2, wiStr, wiEnum, wiEnumS, bodyK, takeM, putM, msOf, M.fz, Res.m, M.seq, M.lseq, M.mseq, M.dict, isL, isK, gList, gTuple, gAppend, gGet2, gSetd, setD, gEq, gNe, eqD_ss, eqD_ii, eqD_bb, gIn, gNi, gZip, gAll, gAny, gMul, gInt, cPos, cDiv, cMul, gAdd, slD, sliceF, D.key, List.length_cons, List.length_nil, List.getElem?_cons_succ, List.getElem?_cons_zero, List.getElem?_nil, List.set_cons_succ, List.set_cons_zero, List.getD_cons_succ, List.getD_cons_zero, Option.bind_some, Option.map_some, Option.map_none, Option.bind_none, ixN, atI, HT.sIx, cutD, Option.isSome_some, if_true, if_false, ite_true, ite_false, Bool.false_eq_true, decide_eq_true_eq, Bool.not_true, Bool.not_false, true_and, and_true, ofS_inj, String.reduceEq, reduceIte, decide_true, decide_false, Int.reduceAdd, Nat.reduceLeDiff, Nat.reduceAdd, Nat.zero_add, Nat.le_refl, Nat.zero_le, w_L_far_right_s3]
  exact h
theorem fw_s6 (h : ∀ (t : Tt) (k : Kk) y, (paT t).length = 400 → (paK k).length = 499 → letsK (paK k) = [nm] → C.nx [x0, some (.p (.str nm.1)), some (.p (enT t)), some (.p (enK k)), y]) : w_L_far_right_s6 [x0, some (.p (.str nm.1)), some (.p (enT (frT nm 0))), some (.p (enK (frK nm 0))), x4] C X := by
  have e : (299 : Int).toNat = 299 := rfl
  have l1 := frT_len nm 299
  have l2 := frK_len nm 299
  have l3 := frK_let nm 299
  have key := fun m (hm : m = 299) => fr_loop (nm := nm) (C := C) (X := X) (x0 := x0) m 0 0 x4 rfl (fun y => by
    rw [Nat.zero_add, hm]
    exact h (frT nm 299) (frK nm 299) y l1 l2 l3)
  simp only [w_L_far_right_s6, wFor, wiR1, wvCons, wvNil, wC, M.fz]
  exact ⟨by decide, by decide, key _ rfl⟩
theorem fw_s7 (h2 : (paK k).length = 499) (h3 : letsK (paK k) = [nm]) (h : ∀ x3, C.nx [x0, some (.p (.str nm.1)), x2, x3, x4]) : w_L_far_right_s7 sp_size_of sp_letters_in [x0, some (.p (.str nm.1)), x2, some (.p (enK k)), x4] C X := by
  have e : eqD (.lst [.str nm.1]) (.lst [.str nm.1]) = some true := eqD_self (n := 1) (pyn_lst (n := 0) (by intro x hx; simp at hx; subst hx; exact pyn_str nm.2 0)) (by decide)
  have el : strN (ddp (letsK (paK k))) = [.str nm.1] := by rw [h3]; rfl
  have hi : ((paK k).length : Int) = 499 := by rw [h2]; rfl
  simp [wSeq, wIf, wTV, wAnd, wOr, wNot, wAndV, wOrV, wNotV, wIfE, wRd, wCons, wNil, woVar, woE, wVar, wMove, wC, wvCons, wvNil, wTup, wLst, wNext, wRet, wRetN, wDrop, wBrk, wCt, wAsg, wgN, wgNil, wgCons, wgT, wPar, wFor, wYes, wLc, wipeE, backE, wCall, wMeth, wDictNew, wgSub, wSlB, wZipL, wiSeq, wiR1, wiR2, wiStr, wiEnum, wiEnumS, bodyK, takeM, putM, msOf, M.fz, Res.m, M.seq, M.lseq, M.mseq, M.dict, isL, isK, gList, gTuple, gAppend, gGet2, gSetd, setD, gEq, gNe, eqD_ss, eqD_ii, eqD_bb, gIn, gNi, gZip, gAll, gAny, gMul, gInt, cPos, cDiv, cMul, gAdd, slD, sliceF, D.key, List.length_cons, List.length_nil, List.getElem?_cons_succ, List.getElem?_cons_zero, List.getElem?_nil, List.set_cons_succ, List.set_cons_zero, List.getD_cons_succ, List.getD_cons_zero, Option.bind_some, Option.map_some, Option.map_none, Option.bind_none, ixN, atI, HT.sIx, cutD, Option.isSome_some, if_true, if_false, ite_true, ite_false, Bool.false_eq_true, decide_eq_true_eq, Bool.not_true, Bool.not_false, true_and, and_true, ofS_inj, String.reduceEq, reduceIte, decide_true, decide_false, Int.reduceAdd, Nat.reduceLeDiff, Nat.reduceAdd, Nat.zero_add, Nat.le_refl, Nat.zero_le, w_L_far_right_s7]
  refine ⟨k, rfl, by omega, fun o => ?_⟩
  simp [wSeq, wIf, wTV, wAnd, wOr, wNot, wAndV, wOrV, wNotV, wIfE, wRd, wCons, wNil, woVar, woE, wVar, wMove, wC, wvCons, wvNil, wTup, wLst, wNext, wRet, wRetN, wDrop, wBrk, wCt, wAsg, wgN, wgNil, wgCons, wgT, wPar, wFor, wYes, wLc, wipeE, backE, wCall, wMeth, wDictNew, wgSub, wSlB, wZipL, wiSeq, wiR1, wiR2, wiStr, wiEnum, wiEnumS, bodyK, takeM, putM, msOf, M.fz, Res.m, M.seq, M.lseq, M.mseq, M.dict, isL, isK, gList, gTuple, gAppend, gGet2, gSetd, setD, gEq, gNe, eqD_ss, eqD_ii, eqD_bb, gIn, gNi, gZip, gAll, gAny, gMul, gInt, cPos, cDiv, cMul, gAdd, slD, sliceF, D.key, List.length_cons, List.length_nil, List.getElem?_cons_succ, List.getElem?_cons_zero, List.getElem?_nil, List.set_cons_succ, List.set_cons_zero, List.getD_cons_succ, List.getD_cons_zero, Option.bind_some, Option.map_some, Option.map_none, Option.bind_none, ixN, atI, HT.sIx, cutD, Option.isSome_some, if_true, if_false, ite_true, ite_false, Bool.false_eq_true, decide_eq_true_eq, Bool.not_true, Bool.not_false, true_and, and_true, ofS_inj, String.reduceEq, reduceIte, decide_true, decide_false, Int.reduceAdd, Nat.reduceLeDiff, Nat.reduceAdd, Nat.zero_add, Nat.le_refl, Nat.zero_le, hi]
  refine ⟨k, rfl, by omega, fun o => ?_⟩
  simp [wSeq, wIf, wTV, wAnd, wOr, wNot, wAndV, wOrV, wNotV, wIfE, wRd, wCons, wNil, woVar, woE, wVar, wMove, wC, wvCons, wvNil, wTup, wLst, wNext, wRet, wRetN, wDrop, wBrk, wCt, wAsg, wgN, wgNil, wgCons, wgT, wPar, wFor, wYes, wLc, wipeE, backE, wCall, wMeth, wDictNew, wgSub, wSlB, wZipL, wiSeq, wiR1, wiR2, wiStr, wiEnum, wiEnumS, bodyK, takeM, putM, msOf, M.fz, Res.m, M.seq, M.lseq, M.mseq, M.dict, isL, isK, gList, gTuple, gAppend, gGet2, gSetd, setD, gEq, gNe, eqD_ss, eqD_ii, eqD_bb, gIn, gNi, gZip, gAll, gAny, gMul, gInt, cPos, cDiv, cMul, gAdd, slD, sliceF, D.key, List.length_cons, List.length_nil, List.getElem?_cons_succ, List.getElem?_cons_zero, List.getElem?_nil, List.set_cons_succ, List.set_cons_zero, List.getD_cons_succ, List.getD_cons_zero, Option.bind_some, Option.map_some, Option.map_none, Option.bind_none, ixN, atI, HT.sIx, cutD, Option.isSome_some, if_true, if_false, ite_true, ite_false, Bool.false_eq_true, decide_eq_true_eq, Bool.not_true, Bool.not_false, true_and, and_true, ofS_inj, String.reduceEq, reduceIte, decide_true, decide_false, Int.reduceAdd, Nat.reduceLeDiff, Nat.reduceAdd, Nat.zero_add, Nat.le_refl, Nat.zero_le, el, e]
  exact h _
theorem fw_s8 (h2 : (paT t).length = 400) (h : ∀ x2, C.rt (.p (.bl true)) [x0, x1, x2, x3, x4]) : w_L_far_right_s8 sp_parts_of [x0, x1, some (.p (enT t)), x3, x4] C X := by
  simp [wSeq, wIf, wTV, wAnd, wOr, wNot, wAndV, wOrV, wNotV, wIfE, wRd, wCons, wNil, woVar, woE, wVar, wMove, wC, wvCons, wvNil, wTup, wLst, wNext, wRet, wRetN, wDrop, wBrk, wCt, wAsg, wgN, wgNil, wgCons, wgT, wPar, wFor, wYes, wLc, wipeE, backE, wCall, wMeth, wDictNew, wgSub, wSlB, wZipL, wiSeq, wiR1, wiR2, wiStr, wiEnum, wiEnumS, bodyK, takeM, putM, msOf, M.fz, Res.m, M.seq, M.lseq, M.mseq, M.dict, isL, isK, gList, gTuple, gAppend, gGet2, gSetd, setD, gEq, gNe, eqD_ss, eqD_ii, eqD_bb, gIn, gNi, gZip, gAll, gAny, gMul, gInt, cPos, cDiv, cMul, gAdd, slD, sliceF, D.key, List.length_cons, List.length_nil, List.getElem?_cons_succ, List.getElem?_cons_zero, List.getElem?_nil, List.set_cons_succ, List.set_cons_zero, List.getD_cons_succ, List.getD_cons_zero, Option.bind_some, Option.map_some, Option.map_none, Option.bind_none, ixN, atI, HT.sIx, cutD, Option.isSome_some, if_true, if_false, ite_true, ite_false, Bool.false_eq_true, decide_eq_true_eq, Bool.not_true, Bool.not_false, true_and, and_true, ofS_inj, String.reduceEq, reduceIte, decide_true, decide_false, Int.reduceAdd, Nat.reduceLeDiff, Nat.reduceAdd, Nat.zero_add, Nat.le_refl, Nat.zero_le, w_L_far_right_s8]
  refine ⟨t, rfl, by omega, fun o => ?_⟩
  simp [wSeq, wIf, wTV, wAnd, wOr, wNot, wAndV, wOrV, wNotV, wIfE, wRd, wCons, wNil, woVar, woE, wVar, wMove, wC, wvCons, wvNil, wTup, wLst, wNext, wRet, wRetN, wDrop, wBrk, wCt, wAsg, wgN, wgNil, wgCons, wgT, wPar, wFor, wYes, wLc, wipeE, backE, wCall, wMeth, wDictNew, wgSub, wSlB, wZipL, wiSeq, wiR1, wiR2, wiStr, wiEnum, wiEnumS, bodyK, takeM, putM, msOf, M.fz, Res.m, M.seq, M.lseq, M.mseq, M.dict, isL, isK, gList, gTuple, gAppend, gGet2, gSetd, setD, gEq, gNe, eqD_ss, eqD_ii, eqD_bb, gIn, gNi, gZip, gAll, gAny, gMul, gInt, cPos, cDiv, cMul, gAdd, slD, sliceF, D.key, List.length_cons, List.length_nil, List.getElem?_cons_succ, List.getElem?_cons_zero, List.getElem?_nil, List.set_cons_succ, List.set_cons_zero, List.getD_cons_succ, List.getD_cons_zero, Option.bind_some, Option.map_some, Option.map_none, Option.bind_none, ixN, atI, HT.sIx, cutD, Option.isSome_some, if_true, if_false, ite_true, ite_false, Bool.false_eq_true, decide_eq_true_eq, Bool.not_true, Bool.not_false, true_and, and_true, ofS_inj, String.reduceEq, reduceIte, decide_true, decide_false, Int.reduceAdd, Nat.reduceLeDiff, Nat.reduceAdd, Nat.zero_add, Nat.le_refl, Nat.zero_le, gLen, h2]
  exact h _
theorem hw_L_far_right : ∀ ms C CX, ms.length = 1 → sp__law_far_right ms C CX → w_L_far_right sp__law_name sp_size_of sp_letters_in sp_parts_of (env0 N_L_far_right ms) (bodyK pr_L_far_right 1 C) (fun x e => CX x (outs pr_L_far_right 1 e)) := by
  intro ms C CX _ h
  obtain ⟨cs, a, rfl, h⟩ := h
  unfold w_L_far_right
  rw [e_L_far_right]
  refine seq_i (fw_s1 (X := fun x e => CX x (outs pr_L_far_right 1 e)) fun nm => ?_)
  dsimp only
  refine seq_i (fw_s2 (X := fun x e => CX x (outs pr_L_far_right 1 e)) ?_)
  dsimp only
  refine seq_i (fw_s3 (X := fun x e => CX x (outs pr_L_far_right 1 e)) ?_)
  dsimp only
  refine seq_i (fw_s6 (X := fun x e => CX x (outs pr_L_far_right 1 e)) fun t k y l1 l2 l3 => ?_)
  dsimp only
  refine seq_i (fw_s7 (X := fun x e => CX x (outs pr_L_far_right 1 e)) l2 l3 fun x3 => ?_)
  dsimp only
  exact fw_s8 (X := fun x e => CX x (outs pr_L_far_right 1 e)) l1 fun x2 => h _
end BV

namespace BV
open PySem L2 PyProof.Rows
variable {ns hs : List Nm} {a : Int} {cs : List Int} {C : KS} {X : KX} {x0 x1 x2 x3 x4 x5 x6 x7 x8 x9 x10 x11 x12 x13 x14 : Option M} {t : Tt} {k : Kk} {a1 a2 a3 : Addr}
theorem lw_b6 {n0 n1 n2 : Nm} (h12 : a2 ≠ a1) (h13 : a3 ≠ a1) (h23 : a3 ≠ a2) (hn : ns = n0 :: n1 :: n2 :: ns.drop 3) (ha : 0 ≤ a) (hb : a + 200000 ≤ 100000000000)
    (h : ∀ (a' : Int) x5 x6 x7 x8 x9 x10 x11, a ≤ a' → a' ≤ a + 100000 → C.nx [x0, some (Sd cs (a')), some (.l (strN ns)), some (.l (strN hs)), x4, x5, x6, x7, x8, x9, x10, x11, none, none, none]) :
    w_law_b6 (sp__law_term 6) sp__law_next (sp__law_parts 18) (sp__law_again (Sx a1 a2 a3)) a1 a2 sp__law_inner (sp__law_kind 6) (sp__law_kind_parts 12) sp_size_of a3 [x0, some (Sd cs (a)), some (.l (strN ns)), some (.l (strN hs)), x4, x5, x6, x7, x8, x9, x10, x11, none, none, none] C X := by
  have hne : ns ≠ [] := by rw [hn]; simp
  have e36 : (3 : Nat) ^ 6 = 729 := by decide
  unfold w_law_b6
  refine seq_i (lw_s4 hne ha (by omega) fun t a1 bt z1 z2 => ?_)
  obtain ⟨b1, b2⟩ := bt
  rw [e36] at b1
  dsimp only
  refine seq_i (lw_s5 (by omega) (by omega) ?_)
  dsimp only
  refine seq_i (lw_s6 (by omega) (by omega) fun y5 => ?_)
  dsimp only
  refine seq_i (lw_s7 h12 (by omega) (by omega) fun y6 => ?_)
  dsimp only
  refine seq_i (lw_s8 hn (by omega) (by omega) fun k a2 l1 l2 z3 z4 => ?_)
  dsimp only
  refine seq_i (lw_s9 (by omega) (by omega) ?_)
  dsimp only
  refine seq_i (lw_s10 (by omega) ?_)
  dsimp only
  have e2 : ∀ us : List Kk, (letsK us).length ≤ us.length := by
    intro us
    induction us with
    | nil => simp [letsK]
    | cons u us ih => cases u <;> simp [letsK, lettK] at ih ⊢ <;> omega
  refine seq_i (lw_s11 (by have := e2 (paK k); omega) fun y9 => ?_)
  dsimp only
  refine seq_i (lw_s13 (by omega) ?_)
  dsimp only
  exact lw_s12 h13 h23 (by omega) fun y7 => h a2 _ _ _ _ _ _ _ (by omega) (by omega)
theorem lw_loop {n0 n1 n2 : Nm} (h12 : a2 ≠ a1) (h13 : a3 ≠ a1) (h23 : a3 ≠ a2) (hn : ns = n0 :: n1 :: n2 :: ns.drop 3)
    (h : ∀ (a' : Int) x4 x5 x6 x7 x8 x9 x10 x11, 0 ≤ a' → C.nx [x0, some (Sd cs (a')), some (.l (strN ns)), some (.l (strN hs)), x4, x5, x6, x7, x8, x9, x10, x11, none, none, none]) : ∀ (m : Nat) (lo a : Int) (x4 x5 x6 x7 x8 x9 x10 x11 : Option M), 0 ≤ a → a + m * 100000 + 200000 ≤ 100000000000 →
    wForL w_law_g6 (w_law_b6 (sp__law_term 6) sp__law_next (sp__law_parts 18) (sp__law_again (Sx a1 a2 a3)) a1 a2 sp__law_inner (sp__law_kind 6) (sp__law_kind_parts 12) sp_size_of a3) C X (rangeD lo m) [x0, some (Sd cs (a)), some (.l (strN ns)), some (.l (strN hs)), x4, x5, x6, x7, x8, x9, x10, x11, none, none, none] := by
  intro m
  induction m with
  | zero => intro lo a x4 x5 x6 x7 x8 x9 x10 x11 ha _; exact h a x4 x5 x6 x7 x8 x9 x10 x11 ha
  | succ m ih =>
    intro lo a x4 x5 x6 x7 x8 x9 x10 x11 ha hb
    rw [rangeD_succ]
    unfold wForL
    show w_law_b6 _ _ _ _ _ _ _ _ _ _ _ [x0, some (Sd cs (a)), some (.l (strN ns)), some (.l (strN hs)), some (.p (.int lo)), x5, x6, x7, x8, x9, x10, x11, none, none, none] _ X
    refine lw_b6 h12 h13 h23 hn ha (by clear h ih; omega) fun a' y5 y6 y7 y8 y9 y10 y11 z1 z2 => ?_
    exact ih (lo + 1) a' (some (.p (.int lo))) y5 y6 y7 y8 y9 y10 y11 (by clear h ih; omega) (by clear h ih; omega)
theorem lw_s14 {is : List Int} {sp1 sp2 sp3 sp4 sp5 sp6 sp7 sp8 : WF} (h : ∀ m : Nat, m ≤ 9 → wForL w_law_g6 (w_law_b6 sp1 sp2 sp3 sp4 a1 a2 sp5 sp6 sp7 sp8 a3) C X (rangeD 0 m) [some (.p (.fl (is.map .int))), some (Sd cs (a)), some (.l (strN ns)), some (.l (strN hs)), x4, x5, x6, x7, x8, x9, x10, x11, none, none, none]) :
    w_law_s13 sp1 sp2 sp3 sp4 a1 a2 sp5 sp6 sp7 sp8 a3 [some (.p (.fl (is.map .int))), some (Sd cs (a)), some (.l (strN ns)), some (.l (strN hs)), x4, x5, x6, x7, x8, x9, x10, x11, none, none, none] C X := by
  have l0 : (is.map D.int).length = is.length := by simp
  generalize Sd cs a = S at *
  generalize hb : w_law_b6 sp1 sp2 sp3 sp4 a1 a2 sp5 sp6 sp7 sp8 a3 = b at *
  have cA : ∀ i : Int, 0 ≤ i → i ≤ 8 → (1 + i).toNat ≤ 9 := by intro i h1 h2; omega
  simp only [w_law_s13, hb]
  by_cases c : (is.length : Int) < 8
  · have h1 := h (1 + (is.length : Int)).toNat (by omega)
    simp [wSeq, wIf, wTV, wAnd, wOr, wNot, wAndV, wOrV, wNotV, wIfE, wRd, wCons, wNil, woVar, woE, wVar, wMove, wC, wvCons, wvNil, wTup, wLst, wNext, wRet, wRetN, wDrop, wBrk, wCt, wAsg, wgN, wgNil, wgCons, wgT, wPar, wFor, wYes, wLc, wipeE, backE, wCall, wMeth, wDictNew, wgSub, wSlB, wZipL, wiSeq, wiR1, wiR2, wiStr, wiEnum, wiEnumS, bodyK, takeM, putM, msOf, M.fz, Res.m, M.seq, M.lseq, M.mseq, M.dict, isL, isK, gList, gTuple, gAppend, gGet2, gSetd, setD, gEq, gNe, eqD_ss, eqD_ii, eqD_bb, gIn, gNi, gZip, gAll, gAny, gMul, gInt, cPos, cDiv, cMul, gAdd, slD, sliceF, D.key, List.length_cons, List.length_nil, List.getElem?_cons_succ, List.getElem?_cons_zero, List.getElem?_nil, List.set_cons_succ, List.set_cons_zero, List.getD_cons_succ, List.getD_cons_zero, Option.bind_some, Option.map_some, Option.map_none, Option.bind_none, ixN, atI, HT.sIx, cutD, Option.isSome_some, if_true, if_false, ite_true, ite_false, Bool.false_eq_true, decide_eq_true_eq, Bool.not_true, Bool.not_false, true_and, and_true, ofS_inj, String.reduceEq, reduceIte, decide_true, decide_false, Int.reduceAdd, Nat.reduceLeDiff, Nat.reduceAdd, Nat.zero_add, Nat.le_refl, Nat.zero_le, gLen, gMin2, c]
    exact ⟨by omega, by omega, h1⟩
  · have h1 := h (1 + (8 : Int)).toNat (by decide)
    simp [wSeq, wIf, wTV, wAnd, wOr, wNot, wAndV, wOrV, wNotV, wIfE, wRd, wCons, wNil, woVar, woE, wVar, wMove, wC, wvCons, wvNil, wTup, wLst, wNext, wRet, wRetN, wDrop, wBrk, wCt, wAsg, wgN, wgNil, wgCons, wgT, wPar, wFor, wYes, wLc, wipeE, backE, wCall, wMeth, wDictNew, wgSub, wSlB, wZipL, wiSeq, wiR1, wiR2, wiStr, wiEnum, wiEnumS, bodyK, takeM, putM, msOf, M.fz, Res.m, M.seq, M.lseq, M.mseq, M.dict, isL, isK, gList, gTuple, gAppend, gGet2, gSetd, setD, gEq, gNe, eqD_ss, eqD_ii, eqD_bb, gIn, gNi, gZip, gAll, gAny, gMul, gInt, cPos, cDiv, cMul, gAdd, slD, sliceF, D.key, List.length_cons, List.length_nil, List.getElem?_cons_succ, List.getElem?_cons_zero, List.getElem?_nil, List.set_cons_succ, List.set_cons_zero, List.getD_cons_succ, List.getD_cons_zero, Option.bind_some, Option.map_some, Option.map_none, Option.bind_none, ixN, atI, HT.sIx, cutD, Option.isSome_some, if_true, if_false, ite_true, ite_false, Bool.false_eq_true, decide_eq_true_eq, Bool.not_true, Bool.not_false, true_and, and_true, ofS_inj, String.reduceEq, reduceIte, decide_true, decide_false, Int.reduceAdd, Nat.reduceLeDiff, Nat.reduceAdd, Nat.zero_add, Nat.le_refl, Nat.zero_le, gLen, gMin2, c]
    exact h1
theorem lw_s1 {is : List Int} (h : C.nx [some (.p (.fl (is.map .int))), some (Sd is 0), x2, x3, x4, x5, x6, x7, x8, x9, x10, x11, x12, x13, x14]) : w_law_s1 [some (.p (.fl (is.map .int))), x1, x2, x3, x4, x5, x6, x7, x8, x9, x10, x11, x12, x13, x14] C X := by
  unfold Sd at h
  generalize is.map D.int = L at *
  simp [wSeq, wIf, wTV, wAnd, wOr, wNot, wAndV, wOrV, wNotV, wIfE, wRd, wCons, wNil, woVar, woE, wVar, wMove, wC, wvCons, wvNil, wTup, wLst, wNext, wRet, wRetN, wDrop, wBrk, wCt, wAsg, wgN, wgNil, wgCons, wgT, wPar, wFor, wYes, wLc, wipeE, backE, wCall, wMeth, wDictNew, wgSub, wSlB, wZipL, wiSeq, wiR1, wiR2, wiStr, wiEnum, wiEnumS, bodyK, takeM, putM, msOf, M.fz, Res.m, M.seq, M.lseq, M.mseq, M.dict, isL, isK, gList, gTuple, gAppend, gGet2, gSetd, setD, gEq, gNe, eqD_ss, eqD_ii, eqD_bb, gIn, gNi, gZip, gAll, gAny, gMul, gInt, cPos, cDiv, cMul, gAdd, slD, sliceF, D.key, List.length_cons, List.length_nil, List.getElem?_cons_succ, List.getElem?_cons_zero, List.getElem?_nil, List.set_cons_succ, List.set_cons_zero, List.getD_cons_succ, List.getD_cons_zero, Option.bind_some, Option.map_some, Option.map_none, Option.bind_none, ixN, atI, HT.sIx, cutD, Option.isSome_some, if_true, if_false, ite_true, ite_false, Bool.false_eq_true, decide_eq_true_eq, Bool.not_true, Bool.not_false, true_and, and_true, ofS_inj, String.reduceEq, reduceIte, decide_true, decide_false, Int.reduceAdd, Nat.reduceLeDiff, Nat.reduceAdd, Nat.zero_add, Nat.le_refl, Nat.zero_le, w_law_s1, wDisp, wpCons, wpNil, keysOf, mergeD, putD]
  exact h
theorem lw_s2 (h : ∀ ns : List Nm, ns.length = 12 → C.nx [x0, some (Sd cs (a)), some (.l (strN ns)), x3, none, x5, x6, x7, x8, x9, x10, x11, none, none, none]) : w_law_s2 sp__law_name [x0, some (Sd cs (a)), x2, x3, none, x5, x6, x7, x8, x9, x10, x11, none, none, none] C X := by
  have key := fun (Cc : List D → Env → Prop) hh => lw_names (x0 := x0) (cs := cs) (a := a) (x2 := x2) (x3 := x3) (x5 := x5) (x6 := x6) (x7 := x7) (x8 := x8) (x9 := x9) (x10 := x10) (x11 := x11) (x12 := none) (x13 := none) (x14 := none) (Cc := Cc) 12 0 [] (by decide) (by decide) (by decide) hh
  simp only [w_law_s2, wAsg, wLc, wiR1, wvCons, wvNil, wC, M.fz]
  refine ⟨by decide, by decide, ?_⟩
  refine key _ fun ns hl => ?_
  have := h ns (by simpa using hl)
  generalize Sd cs a = S at *
  simp [wSeq, wIf, wTV, wAnd, wOr, wNot, wAndV, wOrV, wNotV, wIfE, wRd, wCons, wNil, woVar, woE, wVar, wMove, wC, wvCons, wvNil, wTup, wLst, wNext, wRet, wRetN, wDrop, wBrk, wCt, wAsg, wgN, wgNil, wgCons, wgT, wPar, wFor, wYes, wLc, wipeE, backE, wCall, wMeth, wDictNew, wgSub, wSlB, wZipL, wiSeq, wiR1, wiR2, wiStr, wiEnum, wiEnumS, bodyK, takeM, putM, msOf, M.fz, Res.m, M.seq, M.lseq, M.mseq, M.dict, isL, isK, gList, gTuple, gAppend, gGet2, gSetd, setD, gEq, gNe, eqD_ss, eqD_ii, eqD_bb, gIn, gNi, gZip, gAll, gAny, gMul, gInt, cPos, cDiv, cMul, gAdd, slD, sliceF, D.key, List.length_cons, List.length_nil, List.getElem?_cons_succ, List.getElem?_cons_zero, List.getElem?_nil, List.set_cons_succ, List.set_cons_zero, List.getD_cons_succ, List.getD_cons_zero, Option.bind_some, Option.map_some, Option.map_none, Option.bind_none, ixN, atI, HT.sIx, cutD, Option.isSome_some, if_true, if_false, ite_true, ite_false, Bool.false_eq_true, decide_eq_true_eq, Bool.not_true, Bool.not_false, true_and, and_true, ofS_inj, String.reduceEq, reduceIte, decide_true, decide_false, Int.reduceAdd, Nat.reduceLeDiff, Nat.reduceAdd, Nat.zero_add, Nat.le_refl, Nat.zero_le]
  exact this
theorem lw_s3 (h : ∀ hs : List Nm, C.nx [x0, some (Sd cs (a)), some (.l (strN ns)), some (.l (strN hs)), none, x5, x6, x7, x8, x9, x10, x11, none, none, none]) : w_law_s3 sp__law_head [x0, some (Sd cs (a)), some (.l (strN ns)), x3, none, x5, x6, x7, x8, x9, x10, x11, none, none, none] C X := by
  have key := fun (Cc : List D → Env → Prop) hh => lw_heads (x0 := x0) (cs := cs) (a := a) (x2 := some (.l (strN ns))) (x3 := x3) (x5 := x5) (x6 := x6) (x7 := x7) (x8 := x8) (x9 := x9) (x10 := x10) (x11 := x11) (x12 := none) (x13 := none) (x14 := none) (Cc := Cc) 3 0 [] (by decide) (by decide) (by decide) hh
  simp only [w_law_s3, wAsg, wLc, wiR1, wvCons, wvNil, wC, M.fz]
  refine ⟨by decide, by decide, ?_⟩
  refine key _ fun ns hl => ?_
  have := h ns
  generalize Sd cs a = S at *
  simp [wSeq, wIf, wTV, wAnd, wOr, wNot, wAndV, wOrV, wNotV, wIfE, wRd, wCons, wNil, woVar, woE, wVar, wMove, wC, wvCons, wvNil, wTup, wLst, wNext, wRet, wRetN, wDrop, wBrk, wCt, wAsg, wgN, wgNil, wgCons, wgT, wPar, wFor, wYes, wLc, wipeE, backE, wCall, wMeth, wDictNew, wgSub, wSlB, wZipL, wiSeq, wiR1, wiR2, wiStr, wiEnum, wiEnumS, bodyK, takeM, putM, msOf, M.fz, Res.m, M.seq, M.lseq, M.mseq, M.dict, isL, isK, gList, gTuple, gAppend, gGet2, gSetd, setD, gEq, gNe, eqD_ss, eqD_ii, eqD_bb, gIn, gNi, gZip, gAll, gAny, gMul, gInt, cPos, cDiv, cMul, gAdd, slD, sliceF, D.key, List.length_cons, List.length_nil, List.getElem?_cons_succ, List.getElem?_cons_zero, List.getElem?_nil, List.set_cons_succ, List.set_cons_zero, List.getD_cons_succ, List.getD_cons_zero, Option.bind_some, Option.map_some, Option.map_none, Option.bind_none, ixN, atI, HT.sIx, cutD, Option.isSome_some, if_true, if_false, ite_true, ite_false, Bool.false_eq_true, decide_eq_true_eq, Bool.not_true, Bool.not_false, true_and, and_true, ofS_inj, String.reduceEq, reduceIte, decide_true, decide_false, Int.reduceAdd, Nat.reduceLeDiff, Nat.reduceAdd, Nat.zero_add, Nat.le_refl, Nat.zero_le]
  exact this
theorem lw_s15 (h : ∀ o, C.rt (.p (.bl true)) [x0, o, some (.l (strN ns)), some (.l (strN hs)), x4, x5, x6, x7, x8, x9, x10, x11, none, none, none]) : wRet (wCall 1 sp__law_far_right (wCons (woVar 1) (wNil))) [x0, some (Sd cs (a)), some (.l (strN ns)), some (.l (strN hs)), x4, x5, x6, x7, x8, x9, x10, x11, none, none, none] C X := by
  obtain ⟨ks, vs, hS⟩ := SdM cs a
  rw [hS]
  simp [wSeq, wIf, wTV, wAnd, wOr, wNot, wAndV, wOrV, wNotV, wIfE, wRd, wCons, wNil, woVar, woE, wVar, wMove, wC, wvCons, wvNil, wTup, wLst, wNext, wRet, wRetN, wDrop, wBrk, wCt, wAsg, wgN, wgNil, wgCons, wgT, wPar, wFor, wYes, wLc, wipeE, backE, wCall, wMeth, wDictNew, wgSub, wSlB, wZipL, wiSeq, wiR1, wiR2, wiStr, wiEnum, wiEnumS, bodyK, takeM, putM, msOf, M.fz, Res.m, M.seq, M.lseq, M.mseq, M.dict, isL, isK, gList, gTuple, gAppend, gGet2, gSetd, setD, gEq, gNe, eqD_ss, eqD_ii, eqD_bb, gIn, gNi, gZip, gAll, gAny, gMul, gInt, cPos, cDiv, cMul, gAdd, slD, sliceF, D.key, List.length_cons, List.length_nil, List.getElem?_cons_succ, List.getElem?_cons_zero, List.getElem?_nil, List.set_cons_succ, List.set_cons_zero, List.getD_cons_succ, List.getD_cons_zero, Option.bind_some, Option.map_some, Option.map_none, Option.bind_none, ixN, atI, HT.sIx, cutD, Option.isSome_some, if_true, if_false, ite_true, ite_false, Bool.false_eq_true, decide_eq_true_eq, Bool.not_true, Bool.not_false, true_and, and_true, ofS_inj, String.reduceEq, reduceIte, decide_true, decide_false, Int.reduceAdd, Nat.reduceLeDiff, Nat.reduceAdd, Nat.zero_add, Nat.le_refl, Nat.zero_le]
  rw [← hS]
  refine ⟨cs, a, rfl, fun o => ?_⟩
  have := h o
  generalize Sd cs a = S at *
  simp [wSeq, wIf, wTV, wAnd, wOr, wNot, wAndV, wOrV, wNotV, wIfE, wRd, wCons, wNil, woVar, woE, wVar, wMove, wC, wvCons, wvNil, wTup, wLst, wNext, wRet, wRetN, wDrop, wBrk, wCt, wAsg, wgN, wgNil, wgCons, wgT, wPar, wFor, wYes, wLc, wipeE, backE, wCall, wMeth, wDictNew, wgSub, wSlB, wZipL, wiSeq, wiR1, wiR2, wiStr, wiEnum, wiEnumS, bodyK, takeM, putM, msOf, M.fz, Res.m, M.seq, M.lseq, M.mseq, M.dict, isL, isK, gList, gTuple, gAppend, gGet2, gSetd, setD, gEq, gNe, eqD_ss, eqD_ii, eqD_bb, gIn, gNi, gZip, gAll, gAny, gMul, gInt, cPos, cDiv, cMul, gAdd, slD, sliceF, D.key, List.length_cons, List.length_nil, List.getElem?_cons_succ, List.getElem?_cons_zero, List.getElem?_nil, List.set_cons_succ, List.set_cons_zero, List.getD_cons_succ, List.getD_cons_zero, Option.bind_some, Option.map_some, Option.map_none, Option.bind_none, ixN, atI, HT.sIx, cutD, Option.isSome_some, if_true, if_false, ite_true, ite_false, Bool.false_eq_true, decide_eq_true_eq, Bool.not_true, Bool.not_false, true_and, and_true, ofS_inj, String.reduceEq, reduceIte, decide_true, decide_false, Int.reduceAdd, Nat.reduceLeDiff, Nat.reduceAdd, Nat.zero_add, Nat.le_refl, Nat.zero_le]
  exact this
theorem hw_law (h12 : a2 ≠ a1) (h13 : a3 ≠ a1) (h23 : a3 ≠ a2) : ∀ ms C CX, ms.length = 1 → spTrue ms C CX →
    w_law sp__law_name sp__law_head (sp__law_term 6) sp__law_next (sp__law_parts 18) (sp__law_again (Sx a1 a2 a3)) sp__law_inner (sp__law_kind 6) (sp__law_kind_parts 12) sp_size_of sp__law_far_right a1 a2 a3 (env0 N_law ms) (bodyK pr_law 1 C) (fun x e => CX x (outs pr_law 1 e)) := by
  intro ms C CX _ h
  obtain ⟨is, rfl, hl, h⟩ := h
  unfold w_law
  rw [e_law]
  refine seq_i (lw_s1 (X := fun x e => CX x (outs pr_law 1 e)) ?_)
  dsimp only
  refine seq_i (lw_s2 (X := fun x e => CX x (outs pr_law 1 e)) fun ns hns => ?_)
  dsimp only
  refine seq_i (lw_s3 (X := fun x e => CX x (outs pr_law 1 e)) fun hs => ?_)
  dsimp only
  match ns, hns with
  | n0 :: n1 :: n2 :: ns', hns =>
    refine seq_i (lw_s14 (X := fun x e => CX x (outs pr_law 1 e)) fun m hm => ?_)
    refine lw_loop (X := fun x e => CX x (outs pr_law 1 e)) (n0 := n0) (n1 := n1) (n2 := n2) h12 h13 h23 rfl (fun a' x4 x5 x6 x7 x8 x9 x10 x11 ha => ?_) m 0 0 _ _ _ _ _ _ _ _ (by decide) (by omega)
    dsimp only
    exact lw_s15 (X := fun x e => CX x (outs pr_law 1 e)) fun o => h _
end BV

namespace BV
open PySem L2 PyProof.Rows
theorem fun_inj {K : PySem.W.Frag} {x1 x2 : Str} {st1 st2 : Stmt} {f : Addr} {fd1 fd2 : FuncData} (F1 : Fun K x1 x1 st1 f fd1) (F2 : Fun K x2 x2 st2 f fd2) : x1 = x2 := by
  obtain ⟨oc, od, kV, doc, pm, an, cdv, ct, osl, rfl, lk, hcd⟩ := F1.ex
  obtain ⟨oc2, od2, kV2, doc2, pm2, an2, cdv2, ct2, osl2, rfl, lk2, hcd2⟩ := F2.ex
  rw [lk] at lk2
  injection lk2 with e
  injection e with _ _ e3 _
  injection e3 with e4
  exact congrArg FuncData.name e4
theorem std_ne {K : PySem.W.Frag} {mg : Str → Option Value} {x1 x2 : Str} {st1 st2 : Stmt} {ps1 ps2 : List Str} {f1 f2 : Addr} (T1 : Std K mg x1 st1 ps1) (T2 : Std K mg x2 st2 ps2) (m1 : mg x1 = some (.ref f1)) (m2 : mg x2 = some (.ref f2)) (h : x1 ≠ x2) : f1 ≠ f2 := by
  obtain ⟨g1, fd1, F1, n1, _⟩ := T1
  obtain ⟨g2, fd2, F2, n2, _⟩ := T2
  rw [m1] at n1; rw [m2] at n2
  cases n1; cases n2
  intro e
  subst e
  exact h (fun_inj F1 F2)
theorem htT_pos (t : Tt) : 1 ≤ htT t := by cases t <;> simp [htT]
theorem htK_pos (t : Kk) : 1 ≤ htK t := by cases t <;> simp [htK]
structure Top (K : PySem.W.Frag) (mg : Str → Option Value) : Prop where
  t_terms_in : Std K mg "terms_in" s_terms_in ["term"]
  t_kinds_in : Std K mg "kinds_in" s_kinds_in ["kind"]
  t_parts_of : Std K mg "parts_of" s_parts_of ["term"]
  t_kind_parts : Std K mg "kind_parts" s_kind_parts ["kind"]
  t_letters_in : Std K mg "letters_in" s_letters_in ["kind"]
  t_size_of : Std K mg "size_of" s_size_of ["kind"]
  t_L_next : Std K mg "_law_next" s_L_next ["_law_state", "_law_many"]
  t_L_name : Std K mg "_law_name" s_L_name ["_law_state", "_law_k"]
  t_L_head : Std K mg "_law_head" s_L_head ["_law_state", "_law_k"]
  t_L_kind : Std K mg "_law_kind" s_L_kind ["_law_state", "_law_known", "_law_room", "_law_deep"]
  t_L_leaf : Std K mg "_law_leaf" s_L_leaf ["_law_state", "_law_names", "_law_heads"]
  t_L_pattern : Std K mg "_law_pattern" s_L_pattern ["_law_state", "_law_heads"]
  t_L_term : Std K mg "_law_term" s_L_term ["_law_state", "_law_names", "_law_heads", "_law_room", "_law_deep"]
  t_L_inner : Std K mg "_law_inner" s_L_inner ["_law_term_here"]
  t_L_parts : Std K mg "_law_parts" s_L_parts ["_law_term_here"]
  t_L_kind_inner : Std K mg "_law_kind_inner" s_L_kind_inner ["_law_kind_here"]
  t_L_kind_parts : Std K mg "_law_kind_parts" s_L_kind_parts ["_law_kind_here"]
  t_L_again : Std K mg "_law_again" s_L_again ["_law_call", "_law_thing", "_law_due"]
  t_L_far_right : Std K mg "_law_far_right" s_L_far_right ["_law_state"]
  t_law : Std K mg "law" s_law ["_law_script"]
  blt : Blt mg
theorem top_mk {K : PySem.W.Frag} {h : Heap} {mg : Str → Option Value} {fa : Addr} (X : K.In h) (G : h.Ns mainGlobals mg) (hfa : mg "law" = some (.ref fa))
    {f1 : Addr} {od1 an1 : Option Addr} {sl1 : Array (Option Value)} {oc1 kV1 dc1 pm1 cd1 ct1 : Value}
    {f2 : Addr} {od2 an2 : Option Addr} {sl2 : Array (Option Value)} {oc2 kV2 dc2 pm2 cd2 ct2 : Value}
    {f3 : Addr} {od3 an3 : Option Addr} {sl3 : Array (Option Value)} {oc3 kV3 dc3 pm3 cd3 ct3 : Value}
    {f4 : Addr} {od4 an4 : Option Addr} {sl4 : Array (Option Value)} {oc4 kV4 dc4 pm4 cd4 ct4 : Value}
    {f5 : Addr} {od5 an5 : Option Addr} {sl5 : Array (Option Value)} {oc5 kV5 dc5 pm5 cd5 ct5 : Value}
    {f6 : Addr} {od6 an6 : Option Addr} {sl6 : Array (Option Value)} {oc6 kV6 dc6 pm6 cd6 ct6 : Value}
    {f7 : Addr} {od7 an7 : Option Addr} {sl7 : Array (Option Value)} {oc7 kV7 dc7 pm7 cd7 ct7 : Value}
    {f8 : Addr} {od8 an8 : Option Addr} {sl8 : Array (Option Value)} {oc8 kV8 dc8 pm8 cd8 ct8 : Value}
    {f9 : Addr} {od9 an9 : Option Addr} {sl9 : Array (Option Value)} {oc9 kV9 dc9 pm9 cd9 ct9 : Value}
    {f10 : Addr} {od10 an10 : Option Addr} {sl10 : Array (Option Value)} {oc10 kV10 dc10 pm10 cd10 ct10 : Value}
    {f11 : Addr} {od11 an11 : Option Addr} {sl11 : Array (Option Value)} {oc11 kV11 dc11 pm11 cd11 ct11 : Value}
    {f12 : Addr} {od12 an12 : Option Addr} {sl12 : Array (Option Value)} {oc12 kV12 dc12 pm12 cd12 ct12 : Value}
    {f13 : Addr} {od13 an13 : Option Addr} {sl13 : Array (Option Value)} {oc13 kV13 dc13 pm13 cd13 ct13 : Value}
    {f14 : Addr} {od14 an14 : Option Addr} {sl14 : Array (Option Value)} {oc14 kV14 dc14 pm14 cd14 ct14 : Value}
    {f15 : Addr} {od15 an15 : Option Addr} {sl15 : Array (Option Value)} {oc15 kV15 dc15 pm15 cd15 ct15 : Value}
    {f16 : Addr} {od16 an16 : Option Addr} {sl16 : Array (Option Value)} {oc16 kV16 dc16 pm16 cd16 ct16 : Value}
    {f17 : Addr} {od17 an17 : Option Addr} {sl17 : Array (Option Value)} {oc17 kV17 dc17 pm17 cd17 ct17 : Value}
    {f18 : Addr} {od18 an18 : Option Addr} {sl18 : Array (Option Value)} {oc18 kV18 dc18 pm18 cd18 ct18 : Value}
    {f19 : Addr} {od19 an19 : Option Addr} {sl19 : Array (Option Value)} {oc19 kV19 dc19 pm19 cd19 ct19 : Value}
    {f20 : Addr} {od20 an20 : Option Addr} {sl20 : Array (Option Value)} {oc20 kV20 dc20 pm20 cd20 ct20 : Value}
    (a1 : PySem.W.nsIn K mainGlobals "terms_in" = some (some (.ref f1))) (l1 : K.lookup f1 = some ⟨oc1, od1, .func (PySem.W.fnOf "terms_in" "terms_in" (defArgs s_terms_in) (defBody s_terms_in) (defScope s_terms_in) .none kV1 dc1 pm1 an1 cd1 ct1), sl1⟩) (c1 : PySem.W.codeIn K cd1 "terms_in" = true) (k1 : PySem.W.keepIn K (.ref f1) = true)
    (a2 : PySem.W.nsIn K mainGlobals "kinds_in" = some (some (.ref f2))) (l2 : K.lookup f2 = some ⟨oc2, od2, .func (PySem.W.fnOf "kinds_in" "kinds_in" (defArgs s_kinds_in) (defBody s_kinds_in) (defScope s_kinds_in) .none kV2 dc2 pm2 an2 cd2 ct2), sl2⟩) (c2 : PySem.W.codeIn K cd2 "kinds_in" = true) (k2 : PySem.W.keepIn K (.ref f2) = true)
    (a3 : PySem.W.nsIn K mainGlobals "parts_of" = some (some (.ref f3))) (l3 : K.lookup f3 = some ⟨oc3, od3, .func (PySem.W.fnOf "parts_of" "parts_of" (defArgs s_parts_of) (defBody s_parts_of) (defScope s_parts_of) .none kV3 dc3 pm3 an3 cd3 ct3), sl3⟩) (c3 : PySem.W.codeIn K cd3 "parts_of" = true) (k3 : PySem.W.keepIn K (.ref f3) = true)
    (a4 : PySem.W.nsIn K mainGlobals "kind_parts" = some (some (.ref f4))) (l4 : K.lookup f4 = some ⟨oc4, od4, .func (PySem.W.fnOf "kind_parts" "kind_parts" (defArgs s_kind_parts) (defBody s_kind_parts) (defScope s_kind_parts) .none kV4 dc4 pm4 an4 cd4 ct4), sl4⟩) (c4 : PySem.W.codeIn K cd4 "kind_parts" = true) (k4 : PySem.W.keepIn K (.ref f4) = true)
    (a5 : PySem.W.nsIn K mainGlobals "letters_in" = some (some (.ref f5))) (l5 : K.lookup f5 = some ⟨oc5, od5, .func (PySem.W.fnOf "letters_in" "letters_in" (defArgs s_letters_in) (defBody s_letters_in) (defScope s_letters_in) .none kV5 dc5 pm5 an5 cd5 ct5), sl5⟩) (c5 : PySem.W.codeIn K cd5 "letters_in" = true) (k5 : PySem.W.keepIn K (.ref f5) = true)
    (a6 : PySem.W.nsIn K mainGlobals "size_of" = some (some (.ref f6))) (l6 : K.lookup f6 = some ⟨oc6, od6, .func (PySem.W.fnOf "size_of" "size_of" (defArgs s_size_of) (defBody s_size_of) (defScope s_size_of) .none kV6 dc6 pm6 an6 cd6 ct6), sl6⟩) (c6 : PySem.W.codeIn K cd6 "size_of" = true) (k6 : PySem.W.keepIn K (.ref f6) = true)
    (a7 : PySem.W.nsIn K mainGlobals "_law_next" = some (some (.ref f7))) (l7 : K.lookup f7 = some ⟨oc7, od7, .func (PySem.W.fnOf "_law_next" "_law_next" (defArgs s_L_next) (defBody s_L_next) (defScope s_L_next) .none kV7 dc7 pm7 an7 cd7 ct7), sl7⟩) (c7 : PySem.W.codeIn K cd7 "_law_next" = true) (k7 : PySem.W.keepIn K (.ref f7) = true)
    (a8 : PySem.W.nsIn K mainGlobals "_law_name" = some (some (.ref f8))) (l8 : K.lookup f8 = some ⟨oc8, od8, .func (PySem.W.fnOf "_law_name" "_law_name" (defArgs s_L_name) (defBody s_L_name) (defScope s_L_name) .none kV8 dc8 pm8 an8 cd8 ct8), sl8⟩) (c8 : PySem.W.codeIn K cd8 "_law_name" = true) (k8 : PySem.W.keepIn K (.ref f8) = true)
    (a9 : PySem.W.nsIn K mainGlobals "_law_head" = some (some (.ref f9))) (l9 : K.lookup f9 = some ⟨oc9, od9, .func (PySem.W.fnOf "_law_head" "_law_head" (defArgs s_L_head) (defBody s_L_head) (defScope s_L_head) .none kV9 dc9 pm9 an9 cd9 ct9), sl9⟩) (c9 : PySem.W.codeIn K cd9 "_law_head" = true) (k9 : PySem.W.keepIn K (.ref f9) = true)
    (a10 : PySem.W.nsIn K mainGlobals "_law_kind" = some (some (.ref f10))) (l10 : K.lookup f10 = some ⟨oc10, od10, .func (PySem.W.fnOf "_law_kind" "_law_kind" (defArgs s_L_kind) (defBody s_L_kind) (defScope s_L_kind) .none kV10 dc10 pm10 an10 cd10 ct10), sl10⟩) (c10 : PySem.W.codeIn K cd10 "_law_kind" = true) (k10 : PySem.W.keepIn K (.ref f10) = true)
    (a11 : PySem.W.nsIn K mainGlobals "_law_leaf" = some (some (.ref f11))) (l11 : K.lookup f11 = some ⟨oc11, od11, .func (PySem.W.fnOf "_law_leaf" "_law_leaf" (defArgs s_L_leaf) (defBody s_L_leaf) (defScope s_L_leaf) .none kV11 dc11 pm11 an11 cd11 ct11), sl11⟩) (c11 : PySem.W.codeIn K cd11 "_law_leaf" = true) (k11 : PySem.W.keepIn K (.ref f11) = true)
    (a12 : PySem.W.nsIn K mainGlobals "_law_pattern" = some (some (.ref f12))) (l12 : K.lookup f12 = some ⟨oc12, od12, .func (PySem.W.fnOf "_law_pattern" "_law_pattern" (defArgs s_L_pattern) (defBody s_L_pattern) (defScope s_L_pattern) .none kV12 dc12 pm12 an12 cd12 ct12), sl12⟩) (c12 : PySem.W.codeIn K cd12 "_law_pattern" = true) (k12 : PySem.W.keepIn K (.ref f12) = true)
    (a13 : PySem.W.nsIn K mainGlobals "_law_term" = some (some (.ref f13))) (l13 : K.lookup f13 = some ⟨oc13, od13, .func (PySem.W.fnOf "_law_term" "_law_term" (defArgs s_L_term) (defBody s_L_term) (defScope s_L_term) .none kV13 dc13 pm13 an13 cd13 ct13), sl13⟩) (c13 : PySem.W.codeIn K cd13 "_law_term" = true) (k13 : PySem.W.keepIn K (.ref f13) = true)
    (a14 : PySem.W.nsIn K mainGlobals "_law_inner" = some (some (.ref f14))) (l14 : K.lookup f14 = some ⟨oc14, od14, .func (PySem.W.fnOf "_law_inner" "_law_inner" (defArgs s_L_inner) (defBody s_L_inner) (defScope s_L_inner) .none kV14 dc14 pm14 an14 cd14 ct14), sl14⟩) (c14 : PySem.W.codeIn K cd14 "_law_inner" = true) (k14 : PySem.W.keepIn K (.ref f14) = true)
    (a15 : PySem.W.nsIn K mainGlobals "_law_parts" = some (some (.ref f15))) (l15 : K.lookup f15 = some ⟨oc15, od15, .func (PySem.W.fnOf "_law_parts" "_law_parts" (defArgs s_L_parts) (defBody s_L_parts) (defScope s_L_parts) .none kV15 dc15 pm15 an15 cd15 ct15), sl15⟩) (c15 : PySem.W.codeIn K cd15 "_law_parts" = true) (k15 : PySem.W.keepIn K (.ref f15) = true)
    (a16 : PySem.W.nsIn K mainGlobals "_law_kind_inner" = some (some (.ref f16))) (l16 : K.lookup f16 = some ⟨oc16, od16, .func (PySem.W.fnOf "_law_kind_inner" "_law_kind_inner" (defArgs s_L_kind_inner) (defBody s_L_kind_inner) (defScope s_L_kind_inner) .none kV16 dc16 pm16 an16 cd16 ct16), sl16⟩) (c16 : PySem.W.codeIn K cd16 "_law_kind_inner" = true) (k16 : PySem.W.keepIn K (.ref f16) = true)
    (a17 : PySem.W.nsIn K mainGlobals "_law_kind_parts" = some (some (.ref f17))) (l17 : K.lookup f17 = some ⟨oc17, od17, .func (PySem.W.fnOf "_law_kind_parts" "_law_kind_parts" (defArgs s_L_kind_parts) (defBody s_L_kind_parts) (defScope s_L_kind_parts) .none kV17 dc17 pm17 an17 cd17 ct17), sl17⟩) (c17 : PySem.W.codeIn K cd17 "_law_kind_parts" = true) (k17 : PySem.W.keepIn K (.ref f17) = true)
    (a18 : PySem.W.nsIn K mainGlobals "_law_again" = some (some (.ref f18))) (l18 : K.lookup f18 = some ⟨oc18, od18, .func (PySem.W.fnOf "_law_again" "_law_again" (defArgs s_L_again) (defBody s_L_again) (defScope s_L_again) .none kV18 dc18 pm18 an18 cd18 ct18), sl18⟩) (c18 : PySem.W.codeIn K cd18 "_law_again" = true) (k18 : PySem.W.keepIn K (.ref f18) = true)
    (a19 : PySem.W.nsIn K mainGlobals "_law_far_right" = some (some (.ref f19))) (l19 : K.lookup f19 = some ⟨oc19, od19, .func (PySem.W.fnOf "_law_far_right" "_law_far_right" (defArgs s_L_far_right) (defBody s_L_far_right) (defScope s_L_far_right) .none kV19 dc19 pm19 an19 cd19 ct19), sl19⟩) (c19 : PySem.W.codeIn K cd19 "_law_far_right" = true) (k19 : PySem.W.keepIn K (.ref f19) = true)
    (a20 : PySem.W.nsIn K mainGlobals "law" = some (some (.ref f20))) (l20 : K.lookup f20 = some ⟨oc20, od20, .func (PySem.W.fnOf "law" "law" (defArgs s_law) (defBody s_law) (defScope s_law) .none kV20 dc20 pm20 an20 cd20 ct20), sl20⟩) (c20 : PySem.W.codeIn K cd20 "law" = true) (k20 : PySem.W.keepIn K (.ref f20) = true)
    (z0 : PySem.W.nsIn K mainGlobals "all" = some none)
    (z1 : PySem.W.nsIn K mainGlobals "bool" = some none)
    (z2 : PySem.W.nsIn K mainGlobals "enumerate" = some none)
    (z3 : PySem.W.nsIn K mainGlobals "isinstance" = some none)
    (z4 : PySem.W.nsIn K mainGlobals "len" = some none)
    (z5 : PySem.W.nsIn K mainGlobals "list" = some none)
    (z6 : PySem.W.nsIn K mainGlobals "min" = some none)
    (z7 : PySem.W.nsIn K mainGlobals "range" = some none)
    (z8 : PySem.W.nsIn K mainGlobals "str" = some none)
    (z9 : PySem.W.nsIn K mainGlobals "tuple" = some none) :
    Top K mg ∧ ∃ fd : FuncData, Fun K "law" "law" s_law fa fd ∧ (∀ (s : Shared) (v : Value), BindsTo s fd ⟨[v], []⟩ [("_law_script", v)]) := by
  have e := hfa.symm.trans (PySem.W.mg_of X G a20)
  cases e
  have F1 := fun_mk (st := s_terms_in) l1 c1 k1
  have b1 := F1.binds (ps := ["term"]) fun _ _ _ _ _ _ us hl => match us, hl with | [_], _ => rfl
  have F2 := fun_mk (st := s_kinds_in) l2 c2 k2
  have b2 := F2.binds (ps := ["kind"]) fun _ _ _ _ _ _ us hl => match us, hl with | [_], _ => rfl
  have F3 := fun_mk (st := s_parts_of) l3 c3 k3
  have b3 := F3.binds (ps := ["term"]) fun _ _ _ _ _ _ us hl => match us, hl with | [_], _ => rfl
  have F4 := fun_mk (st := s_kind_parts) l4 c4 k4
  have b4 := F4.binds (ps := ["kind"]) fun _ _ _ _ _ _ us hl => match us, hl with | [_], _ => rfl
  have F5 := fun_mk (st := s_letters_in) l5 c5 k5
  have b5 := F5.binds (ps := ["kind"]) fun _ _ _ _ _ _ us hl => match us, hl with | [_], _ => rfl
  have F6 := fun_mk (st := s_size_of) l6 c6 k6
  have b6 := F6.binds (ps := ["kind"]) fun _ _ _ _ _ _ us hl => match us, hl with | [_], _ => rfl
  have F7 := fun_mk (st := s_L_next) l7 c7 k7
  have b7 := F7.binds (ps := ["_law_state", "_law_many"]) fun _ _ _ _ _ _ us hl => match us, hl with | [_, _], _ => rfl
  have F8 := fun_mk (st := s_L_name) l8 c8 k8
  have b8 := F8.binds (ps := ["_law_state", "_law_k"]) fun _ _ _ _ _ _ us hl => match us, hl with | [_, _], _ => rfl
  have F9 := fun_mk (st := s_L_head) l9 c9 k9
  have b9 := F9.binds (ps := ["_law_state", "_law_k"]) fun _ _ _ _ _ _ us hl => match us, hl with | [_, _], _ => rfl
  have F10 := fun_mk (st := s_L_kind) l10 c10 k10
  have b10 := F10.binds (ps := ["_law_state", "_law_known", "_law_room", "_law_deep"]) fun _ _ _ _ _ _ us hl => match us, hl with | [_, _, _, _], _ => rfl
  have F11 := fun_mk (st := s_L_leaf) l11 c11 k11
  have b11 := F11.binds (ps := ["_law_state", "_law_names", "_law_heads"]) fun _ _ _ _ _ _ us hl => match us, hl with | [_, _, _], _ => rfl
  have F12 := fun_mk (st := s_L_pattern) l12 c12 k12
  have b12 := F12.binds (ps := ["_law_state", "_law_heads"]) fun _ _ _ _ _ _ us hl => match us, hl with | [_, _], _ => rfl
  have F13 := fun_mk (st := s_L_term) l13 c13 k13
  have b13 := F13.binds (ps := ["_law_state", "_law_names", "_law_heads", "_law_room", "_law_deep"]) fun _ _ _ _ _ _ us hl => match us, hl with | [_, _, _, _, _], _ => rfl
  have F14 := fun_mk (st := s_L_inner) l14 c14 k14
  have b14 := F14.binds (ps := ["_law_term_here"]) fun _ _ _ _ _ _ us hl => match us, hl with | [_], _ => rfl
  have F15 := fun_mk (st := s_L_parts) l15 c15 k15
  have b15 := F15.binds (ps := ["_law_term_here"]) fun _ _ _ _ _ _ us hl => match us, hl with | [_], _ => rfl
  have F16 := fun_mk (st := s_L_kind_inner) l16 c16 k16
  have b16 := F16.binds (ps := ["_law_kind_here"]) fun _ _ _ _ _ _ us hl => match us, hl with | [_], _ => rfl
  have F17 := fun_mk (st := s_L_kind_parts) l17 c17 k17
  have b17 := F17.binds (ps := ["_law_kind_here"]) fun _ _ _ _ _ _ us hl => match us, hl with | [_], _ => rfl
  have F18 := fun_mk (st := s_L_again) l18 c18 k18
  have b18 := F18.binds (ps := ["_law_call", "_law_thing", "_law_due"]) fun _ _ _ _ _ _ us hl => match us, hl with | [_, _, _], _ => rfl
  have F19 := fun_mk (st := s_L_far_right) l19 c19 k19
  have b19 := F19.binds (ps := ["_law_state"]) fun _ _ _ _ _ _ us hl => match us, hl with | [_], _ => rfl
  have F20 := fun_mk (st := s_law) l20 c20 k20
  have b20 := F20.binds (ps := ["_law_script"]) fun _ _ _ _ _ _ us hl => match us, hl with | [_], _ => rfl
  exact ⟨⟨⟨_, _, F1, PySem.W.mg_of X G a1, b1⟩, ⟨_, _, F2, PySem.W.mg_of X G a2, b2⟩, ⟨_, _, F3, PySem.W.mg_of X G a3, b3⟩, ⟨_, _, F4, PySem.W.mg_of X G a4, b4⟩, ⟨_, _, F5, PySem.W.mg_of X G a5, b5⟩, ⟨_, _, F6, PySem.W.mg_of X G a6, b6⟩, ⟨_, _, F7, PySem.W.mg_of X G a7, b7⟩, ⟨_, _, F8, PySem.W.mg_of X G a8, b8⟩, ⟨_, _, F9, PySem.W.mg_of X G a9, b9⟩, ⟨_, _, F10, PySem.W.mg_of X G a10, b10⟩, ⟨_, _, F11, PySem.W.mg_of X G a11, b11⟩, ⟨_, _, F12, PySem.W.mg_of X G a12, b12⟩, ⟨_, _, F13, PySem.W.mg_of X G a13, b13⟩, ⟨_, _, F14, PySem.W.mg_of X G a14, b14⟩, ⟨_, _, F15, PySem.W.mg_of X G a15, b15⟩, ⟨_, _, F16, PySem.W.mg_of X G a16, b16⟩, ⟨_, _, F17, PySem.W.mg_of X G a17, b17⟩, ⟨_, _, F18, PySem.W.mg_of X G a18, b18⟩, ⟨_, _, F19, PySem.W.mg_of X G a19, b19⟩, ⟨_, _, F20, PySem.W.mg_of X G a20, b20⟩, ⟨PySem.W.mg_none_of X G z0, PySem.W.mg_none_of X G z1, PySem.W.mg_none_of X G z2, PySem.W.mg_none_of X G z3, PySem.W.mg_none_of X G z4, PySem.W.mg_none_of X G z5, PySem.W.mg_none_of X G z6, PySem.W.mg_none_of X G z7, PySem.W.mg_none_of X G z8, PySem.W.mg_none_of X G z9⟩⟩, _, F20, fun s v => .of_eq rfl⟩

section
variable {P : Program} {w : World} {K : PySem.W.Frag} {mg : Str → Option Value} {base : Heap}
theorem f_terms_in (T : Top K mg) : Fn P w K mg base "terms_in" 1 1 sp_terms_in := T.t_terms_in.ok (k := 0) sc_terms_in rfl (by decide) (fun f => d_terms_in T.blt f) hw_terms_in
theorem f_kinds_in (T : Top K mg) : Fn P w K mg base "kinds_in" 1 1 sp_kinds_in := T.t_kinds_in.ok (k := 0) sc_kinds_in rfl (by decide) (fun f => d_kinds_in T.blt f) hw_kinds_in
theorem f_parts_of (T : Top K mg) : Fn P w K mg base "parts_of" 2 1 sp_parts_of := T.t_parts_of.ok (k := 1) sc_parts_of rfl (by decide) (fun f => d_parts_of T.blt (f_terms_in T) (by decide) f) hw_parts_of
theorem f_kind_parts (T : Top K mg) : Fn P w K mg base "kind_parts" 2 1 sp_kind_parts := T.t_kind_parts.ok (k := 1) sc_kind_parts rfl (by decide) (fun f => d_kind_parts T.blt (f_kinds_in T) (by decide) f) hw_kind_parts
theorem f_letters_in (T : Top K mg) : Fn P w K mg base "letters_in" 3 1 sp_letters_in := T.t_letters_in.ok (k := 2) sc_letters_in rfl (by decide) (fun f => d_letters_in T.blt (f_kind_parts T) (by decide) f) hw_letters_in
theorem f_size_of (T : Top K mg) : Fn P w K mg base "size_of" 3 1 sp_size_of := T.t_size_of.ok (k := 2) sc_size_of rfl (by decide) (fun f => d_size_of T.blt (f_kind_parts T) (by decide) f) hw_size_of
theorem f_next (T : Top K mg) : Fn P w K mg base "_law_next" 1 2 sp__law_next := T.t_L_next.ok (k := 0) sc_L_next rfl (by decide) (fun f => d_L_next T.blt f) hw_L_next
theorem f_name (T : Top K mg) : Fn P w K mg base "_law_name" 1 2 sp__law_name := T.t_L_name.ok (k := 0) sc_L_name rfl (by decide) (fun f => d_L_name T.blt f) hw_L_name
theorem f_head (T : Top K mg) : Fn P w K mg base "_law_head" 2 2 sp__law_head := T.t_L_head.ok (k := 1) sc_L_head rfl (by decide) (fun f => d_L_head T.blt (f_name T) (by decide) f) hw_L_head
theorem f_kind (T : Top K mg) : ∀ n, Fn P w K mg base "_law_kind" (n + 1) 4 (sp__law_kind n)
  | 0 => (T.t_L_kind.no rfl fun ms C CX ⟨cs, a, ns, vs, room, deep, _, _, h1, h2, _⟩ => by simp at h2; omega).mono (by decide)
  | n + 1 => T.t_L_kind.ok (k := n + 1) sc_L_kind rfl (by decide) (fun f => d_L_kind T.blt (f_next T) (f_name T) (f_kind T n) (by omega) (by omega) (Nat.le_refl _) f) (hw_L_kind n)
theorem f_leaf (T : Top K mg) : Fn P w K mg base "_law_leaf" 2 3 sp__law_leaf := T.t_L_leaf.ok (k := 1) sc_L_leaf rfl (by decide) (fun f => d_L_leaf T.blt (f_next T) (by decide) f) hw_L_leaf
theorem f_pattern (T : Top K mg) : Fn P w K mg base "_law_pattern" 2 2 sp__law_pattern := T.t_L_pattern.ok (k := 1) sc_L_pattern rfl (by decide) (fun f => d_L_pattern T.blt (f_name T) (f_next T) (by decide) (by decide) f) hw_L_pattern
theorem f_term (T : Top K mg) : ∀ n, Fn P w K mg base "_law_term" (n + 2) 5 (sp__law_term n)
  | 0 => (T.t_L_term.no rfl fun ms C CX ⟨cs, a, ns, hs, room, deep, _, _, h1, h2, _⟩ => by simp at h2; omega).mono (by decide)
  | n + 1 => T.t_L_term.ok (k := n + 2) sc_L_term rfl (by decide) (fun f => d_L_term T.blt (f_next T) (f_leaf T) (f_term T n) (f_pattern T) (by omega) (by omega) (Nat.le_refl _) (by omega) f) (hw_L_term n)
theorem f_inner (T : Top K mg) : Fn P w K mg base "_law_inner" 1 1 sp__law_inner := T.t_L_inner.ok (k := 0) sc_L_inner rfl (by decide) (fun f => d_L_inner T.blt f) hw_L_inner
theorem f_parts (T : Top K mg) : ∀ n, Fn P w K mg base "_law_parts" (n + 1) 1 (sp__law_parts n)
  | 0 => (T.t_L_parts.no rfl fun ms C CX ⟨t, _, h, _⟩ => by have := htT_pos t; omega).mono (by decide)
  | n + 1 => T.t_L_parts.ok (k := n + 1) sc_L_parts rfl (by decide) (fun f => d_L_parts T.blt (f_inner T) (f_parts T n) (by omega) (Nat.le_refl _) f) (hw_L_parts n)
theorem f_kind_inner (T : Top K mg) : Fn P w K mg base "_law_kind_inner" 1 1 sp__law_kind_inner := T.t_L_kind_inner.ok (k := 0) sc_L_kind_inner rfl (by decide) (fun f => d_L_kind_inner T.blt f) hw_L_kind_inner
theorem f_kparts (T : Top K mg) : ∀ n, Fn P w K mg base "_law_kind_parts" (n + 1) 1 (sp__law_kind_parts n)
  | 0 => (T.t_L_kind_parts.no rfl fun ms C CX ⟨t, _, h, _⟩ => by have := htK_pos t; omega).mono (by decide)
  | n + 1 => T.t_L_kind_parts.ok (k := n + 1) sc_L_kind_parts rfl (by decide) (fun f => d_L_kind_parts T.blt (f_kind_inner T) (f_kparts T n) (by omega) (Nat.le_refl _) f) (hw_L_kind_parts n)
theorem fam (T : Top K mg) {f1 f2 f3 : Addr} (m1 : mg "parts_of" = some (.ref f1)) (m2 : mg "terms_in" = some (.ref f2)) (m3 : mg "letters_in" = some (.ref f3)) : ∀ f sp, Sx f1 f2 f3 f = some sp → FnAt P w K mg base f 3 1 sp := by
  intro f sp h
  unfold Sx at h
  split at h
  · rename_i e
    cases h
    subst e
    exact ((f_parts_of T).mono (by decide)).at m1
  · split at h
    · rename_i e
      cases h
      subst e
      exact ((f_terms_in T).mono (by decide)).at m2
    · split at h
      · rename_i e
        cases h
        subst e
        exact (f_letters_in T).at m3
      · cases h
theorem f_again (T : Top K mg) {f1 f2 f3 : Addr} (m1 : mg "parts_of" = some (.ref f1)) (m2 : mg "terms_in" = some (.ref f2)) (m3 : mg "letters_in" = some (.ref f3)) : Fn P w K mg base "_law_again" 4 3 (sp__law_again (Sx f1 f2 f3)) := T.t_L_again.ok (k := 3) sc_L_again rfl (by decide) (fun f => d_L_again T.blt (fam T m1 m2 m3) (by decide) f) (hw_L_again _)
theorem f_far (T : Top K mg) : Fn P w K mg base "_law_far_right" 4 1 sp__law_far_right := T.t_L_far_right.ok (k := 3) sc_L_far_right rfl (by decide) (fun f => d_L_far_right T.blt (f_name T) (f_size_of T) (f_letters_in T) (f_parts_of T) (by decide) (by decide) (by decide) (by decide) f) hw_L_far_right
theorem end_mk {l : PySem.W.OpenLaw} {w : World} {fa : Addr} (T : Top K mg ∧ ∃ fd : FuncData, Fun K "law" "law" s_law fa fd ∧ (∀ (s : Shared) (v : Value), BindsTo s fd ⟨[v], []⟩ [("_law_script", v)])) :
    ∃ fd : FuncData, (∀ (s : Shared) (v : Value), BindsTo s fd ⟨[v], []⟩ [("_law_script", v)]) ∧ ∀ base : Heap, K.In base → base.Ns mainGlobals mg → FnOk l.prog w K mg base (L2.CX l.prog w) 20 fa fd ["_law_script"] (spF K 1 spTrue) := by
  obtain ⟨T, fd, F, b⟩ := T
  obtain ⟨f1, _, _, m1, _⟩ := T.t_parts_of
  obtain ⟨f2, _, _, m2, _⟩ := T.t_terms_in
  obtain ⟨f3, _, _, m3, _⟩ := T.t_letters_in
  have h12 := std_ne T.t_terms_in T.t_parts_of m2 m1 (by simp [ofS_inj])
  have h13 := std_ne T.t_letters_in T.t_parts_of m3 m1 (by simp [ofS_inj])
  have h23 := std_ne T.t_letters_in T.t_terms_in m3 m2 (by simp [ofS_inj])
  refine ⟨fd, b, fun base _ _ => fn_ok (k := 19) F sc_law rfl (by decide) (d_law T.blt (f_name T) (f_head T) (f_term T 6) (f_next T) (f_parts T 18) (f_again T m1 m2 m3) (f_inner T) (f_kind T 6) (f_kparts T 12) (f_size_of T) (f_far T) m1 m2 m3 (by decide) (by decide) (by decide) (by decide) (by decide) (by decide) (by decide) (by decide) (by decide) (by decide) (by decide) fa) (hw_law h12 h13 h23)⟩
end
end BV
open PySem PySem.W PyProof.Rows in
set_option maxRecDepth 100000 in
set_option maxHeartbeats 0 in
theorem PySem.Challenge.cw_kindsmith_k02_parts_holds : PySem.Challenge.rw_kindsmith_k02_parts.Holds := by
  w_on; o_law; k_head; (case hw => w_witness2)
  k_fill
  refine BV.walkB (l := PySem.Challenge.rw_kindsmith_k02_parts) (k := 20) (x := "_law_script") rfl rfl ⟨rfl, by decide, by decide⟩ (fun w h Y => PySem.W.kIn_of Y) ?F
  case F =>
    intro w mg fa h KX G hmg
    refine' BV.end_mk (BV.top_mk KX G hmg ?a1 ?l1 ?c1 ?k1 ?a2 ?l2 ?c2 ?k2 ?a3 ?l3 ?c3 ?k3 ?a4 ?l4 ?c4 ?k4 ?a5 ?l5 ?c5 ?k5 ?a6 ?l6 ?c6 ?k6 ?a7 ?l7 ?c7 ?k7 ?a8 ?l8 ?c8 ?k8 ?a9 ?l9 ?c9 ?k9 ?a10 ?l10 ?c10 ?k10 ?a11 ?l11 ?c11 ?k11 ?a12 ?l12 ?c12 ?k12 ?a13 ?l13 ?c13 ?k13 ?a14 ?l14 ?c14 ?k14 ?a15 ?l15 ?c15 ?k15 ?a16 ?l16 ?c16 ?k16 ?a17 ?l17 ?c17 ?k17 ?a18 ?l18 ?c18 ?k18 ?a19 ?l19 ?c19 ?k19 ?a20 ?l20 ?c20 ?k20 ?z0 ?z1 ?z2 ?z3 ?z4 ?z5 ?z6 ?z7 ?z8 ?z9)
    (case a1 => k_is)
    (case l1 => k_is)
    (case c1 => k_is)
    (case k1 => k_is)
    (case a2 => k_is)
    (case l2 => k_is)
    (case c2 => k_is)
    (case k2 => k_is)
    (case a3 => k_is)
    (case l3 => k_is)
    (case c3 => k_is)
    (case k3 => k_is)
    (case a4 => k_is)
    (case l4 => k_is)
    (case c4 => k_is)
    (case k4 => k_is)
    (case a5 => k_is)
    (case l5 => k_is)
    (case c5 => k_is)
    (case k5 => k_is)
    (case a6 => k_is)
    (case l6 => k_is)
    (case c6 => k_is)
    (case k6 => k_is)
    (case a7 => k_is)
    (case l7 => k_is)
    (case c7 => k_is)
    (case k7 => k_is)
    (case a8 => k_is)
    (case l8 => k_is)
    (case c8 => k_is)
    (case k8 => k_is)
    (case a9 => k_is)
    (case l9 => k_is)
    (case c9 => k_is)
    (case k9 => k_is)
    (case a10 => k_is)
    (case l10 => k_is)
    (case c10 => k_is)
    (case k10 => k_is)
    (case a11 => k_is)
    (case l11 => k_is)
    (case c11 => k_is)
    (case k11 => k_is)
    (case a12 => k_is)
    (case l12 => k_is)
    (case c12 => k_is)
    (case k12 => k_is)
    (case a13 => k_is)
    (case l13 => k_is)
    (case c13 => k_is)
    (case k13 => k_is)
    (case a14 => k_is)
    (case l14 => k_is)
    (case c14 => k_is)
    (case k14 => k_is)
    (case a15 => k_is)
    (case l15 => k_is)
    (case c15 => k_is)
    (case k15 => k_is)
    (case a16 => k_is)
    (case l16 => k_is)
    (case c16 => k_is)
    (case k16 => k_is)
    (case a17 => k_is)
    (case l17 => k_is)
    (case c17 => k_is)
    (case k17 => k_is)
    (case a18 => k_is)
    (case l18 => k_is)
    (case c18 => k_is)
    (case k18 => k_is)
    (case a19 => k_is)
    (case l19 => k_is)
    (case c19 => k_is)
    (case k19 => k_is)
    (case a20 => k_is)
    (case l20 => k_is)
    (case c20 => k_is)
    (case k20 => k_is)
    (case z0 => k_is)
    (case z1 => k_is)
    (case z2 => k_is)
    (case z3 => k_is)
    (case z4 => k_is)
    (case z5 => k_is)
    (case z6 => k_is)
    (case z7 => k_is)
    (case z8 => k_is)
    (case z9 => k_is)
#print axioms PySem.Challenge.cw_kindsmith_k02_parts_holds


