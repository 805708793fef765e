import PyProof.Rows.All
import Wide.All
import OpenK.AllK
import Wide.FinOn
import HandS.ForMost
import HandS.SortOrd
import HandS.SortInts
import HandS.Deep
import HandS.Wide
import HandS.IsInst
import HandS.TupAny
import HandS.Conv
import HandS.TupMul
import HandS.SetFor
import HandS.Strs
import PySem.Challenge.RW_heardbyall_k85_talks_one_by_one
-- V1
set_option Elab.async false
set_option linter.all false
set_option maxRecDepth 100000
set_option maxHeartbeats 4000000
namespace Vl
open PySem L2

abbrev PD := PyData
abbrev Fg := PySem.W.Frag

section
variable {K : Fg} {H H' G G' : Hp} {a : Addr}
theorem rdM {u : HO} (s : Same H H') (h : Rd H a u) : Rd H' a u := by
  rcases h with h | ⟨o, h⟩
  · exact Or.inl (s a _ h)
  · exact Or.inr ⟨o, s a _ h⟩
theorem sqlM {xs : List V} (s : Same H H') (h : SqL K H a xs) : SqL K H' a xs := s.seq h
theorem sqtM {xs : List V} (s : Same H H') (h : SqT K H a xs) : SqT K H' a xs := by
  rcases h with h | h
  · exact Or.inl (rdM s h)
  · exact Or.inr h
mutual
theorem dpM (s : Same H H') : ∀ (d : PD) (v : V), Dp K H v d → Dp K H' v d
  | .none, _, h => by cases h; exact Dp.non
  | .bool b, _, h => by cases h; exact Dp.bl b
  | .int i, _, h => by cases h; exact Dp.int i
  | .str x, _, h => by cases h; exact Dp.str x
  | .list ds, _, h => by
    cases h with
    | lst q r => exact Dp.lst (sqlM s q) (dpaM s ds _ r)
  | .tuple ds, _, h => by
    cases h with
    | tup q r => exact Dp.tup (sqtM s q) (dpaM s ds _ r)
  | .dict _, _, h => nomatch h
theorem dpaM (s : Same H H') : ∀ (ds : List PD) (vs : List V), DpAll K H vs ds → DpAll K H' vs ds
  | [], _, h => by cases h; exact DpAll.nil
  | d :: ds, _, h => by
    cases h with
    | cons q r => exact DpAll.cons (dpM s d _ q) (dpaM s ds _ r)
end

/-- the top in H, the items in G -/
def It (K : Fg) (H G : Hp) (v : V) : PD → Prop
  | .list ds => ∃ a xs, v = .ref a ∧ SqL K H a xs ∧ DpAll K G xs ds
  | d => Dp K G v d
theorem itM {v : V} {d : PD} (s : Same H H') (t : Same G G') (h : It K H G v d) : It K H' G' v d := by
  cases d with
  | list ds => obtain ⟨a, xs, e, q, r⟩ := h; exact ⟨a, xs, e, sqlM s q, dpaM t _ _ r⟩
  | tuple ds => exact dpM t _ _ h
  | none => exact dpM t _ _ h
  | bool b => exact dpM t _ _ h
  | int i => exact dpM t _ _ h
  | str x => exact dpM t _ _ h
  | dict z => exact dpM t _ _ h
theorem it_dp {v : V} {d : PD} : It K G G v d ↔ Dp K G v d := by
  cases d with
  | list ds =>
    constructor
    · rintro ⟨a, xs, rfl, q, r⟩; exact Dp.lst q r
    · intro h; cases h with | lst q r => exact ⟨_, _, rfl, q, r⟩
  | tuple ds => exact Iff.rfl
  | none => exact Iff.rfl
  | bool b => exact Iff.rfl
  | int i => exact Iff.rfl
  | str x => exact Iff.rfl
  | dict z => exact Iff.rfl
theorem it_up {v : V} {d : PD} (t : Same G H) (h : It K H G v d) : Dp K H v d := it_dp.mp (itM (Same.refl H) t h)
end

/-- an object that is changed: a list, a dict with int and text keys, one with tuples of such -/
inductive Obj where
  | ol (xs : List PD)
  | od (kvs : List (Key × PD))
  | ot (kvs : List (List Key × PD))
  | fk (kvs : List (Key × PD))
def ObjAt (K : Fg) (G H : Hp) (a : Addr) : Obj → Prop
  | .ol xs => ∃ vs, H a = some (.lst vs) ∧ DpAll K G vs xs
  | .od kvs => ∃ ps, H a = some (.dK ps) ∧ Paired (fun (p : Key × V) (q : Key × PD) => p.1 = q.1 ∧ Dp K G p.2 q.2) ps kvs
  | .ot kvs => ∃ ps, H a = some (.dT ps) ∧ Paired (fun (p : List Key × V) (q : List Key × PD) => p.1 = q.1 ∧ Dp K G p.2 q.2) ps kvs
  | .fk kvs => ∃ o ps, H a = some (.frz o (.dK ps)) ∧ Paired (fun (p : Key × V) (q : Key × PD) => p.1 = q.1 ∧ Dp K G p.2 q.2) ps kvs
theorem objM {K : Fg} {G G' H H' : Hp} {a : Addr} {o : Obj} (t : Same G G') (e : H' a = H a) (h : ObjAt K G H a o) : ObjAt K G' H' a o := by
  cases o with
  | ol xs => obtain ⟨vs, q, r⟩ := h; exact ⟨vs, e.trans q, dpaM t _ _ r⟩
  | od kvs => obtain ⟨vs, q, r⟩ := h; exact ⟨vs, e.trans q, Paired.mapP r fun p z ⟨x, y⟩ => ⟨x, dpM t _ _ y⟩⟩
  | ot kvs => obtain ⟨vs, q, r⟩ := h; exact ⟨vs, e.trans q, Paired.mapP r fun p z ⟨x, y⟩ => ⟨x, dpM t _ _ y⟩⟩
  | fk kvs => obtain ⟨o, vs, q, r⟩ := h; exact ⟨o, vs, e.trans q, Paired.mapP r fun p z ⟨x, y⟩ => ⟨x, dpM t _ _ y⟩⟩
theorem objS {K : Fg} {G H : Hp} {a : Addr} {o : Obj} (h : ObjAt K G H a o) : H a ≠ none := by
  cases o with
  | ol xs => obtain ⟨vs, q, r⟩ := h; rw [q]; exact nofun
  | od kvs => obtain ⟨vs, q, r⟩ := h; rw [q]; exact nofun
  | ot kvs => obtain ⟨vs, q, r⟩ := h; rw [q]; exact nofun
  | fk kvs => obtain ⟨o, vs, q, r⟩ := h; rw [q]; exact nofun

/-- what a name holds: nothing known; a lasting value; an object of its own; an object lent by the caller -/
inductive Slot where
  | un | dur (d : PD) | own (o : Obj) | io (o : Obj)
abbrev AS := List Slot
abbrev Ow := Addr → Option (Option Nat)
def SlotR (K : Fg) (G H : Hp) (ow : Ow) (pin : Nat → Addr) (i : Nat) (z : Option (Option V)) : Slot → Prop
  | .un => True
  | .dur d => ∃ v, z = some (some v) ∧ Dp K G v d
  | .own o => ∃ a, z = some (some (.ref a)) ∧ ow a = some (some i) ∧ ObjAt K G H a o
  | .io o => ∃ a, z = some (some (.ref a)) ∧ ow a = some (some i) ∧ pin i = a ∧ ObjAt K G H a o
/-- the lasting part of the heap -/
def Hd (ow : Ow) (G H0 H : Hp) : Hp := fun a => if ow a = none then (if H0 a = none then H a else G a) else none
structure SR (K : Fg) (G H0 : Hp) (pin : Nat → Addr) (ow : Ow) (σ : L2.St) (H : Hp) (as : AS) : Prop where
  len : as.length = σ.length
  own : ∀ a o, ow a = some o → H0 a = none ∧ H a ≠ none
  same : Same H0 H
  sub : Same G H0
  slot : ∀ i s, as[i]? = some s → SlotR K (Hd ow G H0 H) H ow pin i (σ[i]?) s
structure Stp (G H0 : Hp) (ow : Ow) (H : Hp) (ow' : Ow) (H' : Hp) : Prop where
  dur : Same (Hd ow G H0 H) (Hd ow' G H0 H')
  tmp : ∀ a, ow a = some none → ow' a = some none ∧ H' a = H a
  dom : ∀ a, H a ≠ none → H' a ≠ none
theorem Stp.refl {G H0 : Hp} {ow : Ow} {H : Hp} : Stp G H0 ow H ow H := ⟨Same.refl _, fun _ h => ⟨h, rfl⟩, fun _ h => h⟩
theorem Stp.trans {G H0 : Hp} {ow ow1 ow2 : Ow} {H H1 H2 : Hp} (a : Stp G H0 ow H ow1 H1) (b : Stp G H0 ow1 H1 ow2 H2) : Stp G H0 ow H ow2 H2 :=
  ⟨a.dur.trans b.dur, fun x h => ⟨(b.tmp x (a.tmp x h).1).1, (b.tmp x (a.tmp x h).1).2.trans (a.tmp x h).2⟩, fun x h => b.dom x (a.dom x h)⟩
section
variable {K : Fg} {G H0 H H' : Hp} {pin : Nat → Addr} {ow ow' : Ow} {σ : L2.St} {as : AS}
theorem SR.hd (S : SR K G H0 pin ow σ H as) : Same (Hd ow G H0 H) H := fun b o e => by
  unfold Hd at e
  split at e
  · split at e
    · exact e
    · exact S.same _ _ (S.sub _ _ e)
  · cases e
theorem hd_free {a : Addr} (h : ow a ≠ none) : Hd ow G H0 H a = none := by
  unfold Hd; rw [if_neg h]
theorem SR.free (S : SR K G H0 pin ow σ H as) {a : Addr} (h : H a = none) : ow a = none ∧ H0 a = none := by
  constructor
  · cases e : ow a with
    | none => rfl
    | some o => exact absurd h (S.own a o e).2
  · exact S.same.free h
/-- nothing that stands has changed -/
theorem SR.grow (S : SR K G H0 pin ow σ H as) (s : Same H H') : SR K G H0 pin ow σ H' as ∧ Stp G H0 ow H ow H' := by
  have hs : Same (Hd ow G H0 H) (Hd ow G H0 H') := fun b o e => by
    unfold Hd at e ⊢
    split at e
    · rename_i h1
      rw [if_pos h1]
      split at e
      · rename_i h2
        rw [if_pos h2]; exact s b o e
      · rename_i h2
        rw [if_neg h2]; exact e
    · cases e
  have hk : ∀ a, ow a ≠ none → H' a = H a := fun a h => by
    cases e : ow a with
    | none => exact absurd e h
    | some o =>
      cases q : H a with
      | none => exact absurd q (S.own a o e).2
      | some x => rw [s a x q]
  refine ⟨⟨S.len, fun a o e => ⟨(S.own a o e).1, ?_⟩, S.same.trans s, S.sub, fun i z h => ?_⟩, ⟨hs, fun a h => ⟨h, hk a (by rw [h]; exact nofun)⟩, fun a h => ?_⟩⟩
  · rw [hk a (by rw [e]; exact nofun)]; exact (S.own a o e).2
  · have q := S.slot i z h
    cases z with
    | un => trivial
    | dur d => obtain ⟨v, e, r⟩ := q; exact ⟨v, e, dpM hs _ _ r⟩
    | own o => obtain ⟨a, e, w, r⟩ := q; exact ⟨a, e, w, objM hs (hk a (by rw [w]; exact nofun)) r⟩
    | io o => obtain ⟨a, e, w, g, r⟩ := q; exact ⟨a, e, w, g, objM hs (hk a (by rw [w]; exact nofun)) r⟩
  · cases q : H a with
    | none => exact absurd q h
    | some x => rw [s a x q]; exact nofun
end

abbrev M (α : Type) := AS → Option (α × AS)
inductive Lv | B | I | D
def LvR (l : Lv) (K : Fg) (Hd H : Hp) (v : V) (d : PD) : Prop := match l with
  | .B => Dp K H v d
  | .I => It K H Hd v d
  | .D => Dp K Hd v d
theorem lvM {l : Lv} {K : Fg} {Hd Hd' H H' : Hp} {v : V} {d : PD} (s : Same Hd Hd') (t : l = .D ∨ Same H H') (h : LvR l K Hd H v d) : LvR l K Hd' H' v d := by
  cases l with
  | B => rcases t with t | t
         · cases t
         · exact dpM t _ _ h
  | I => rcases t with t | t
         · cases t
         · exact itM t s h
  | D => exact dpM s _ _ h
/-- an expression's value -/
structure EV (X : Cx) (p : Bool) (l : Lv) (e : Expr) (m : M PD) : Prop where
  pur : p = true → ∀ as r as', m as = some (r, as') → as' = as
  ok : ∃ t, PE X e t ∧ ∀ (G H0 : Hp) (pin : Nat → Addr) (ow : Ow) (σ : L2.St) (H : Hp) (as : AS) (r : PD) (as' : AS) (Q : VK), SR X.K G H0 pin ow σ H as → m as = some (r, as') →
    (∀ v H' ow', Stp G H0 ow H ow' H' → (p = true → Same H H') → SR X.K G H0 pin ow' σ H' as' → LvR l X.K (Hd ow' G H0 H') H' v r → Q v H') → t σ H Q
structure ET (X : Cx) (p : Bool) (e : Expr) (m : M Bool) : Prop where
  pur : p = true → ∀ as r as', m as = some (r, as') → as' = as
  ok : ∃ t, PT X e t ∧ ∀ (G H0 : Hp) (pin : Nat → Addr) (ow : Ow) (σ : L2.St) (H : Hp) (as : AS) (r : Bool) (as' : AS) (Q : Bool → Hp → Prop), SR X.K G H0 pin ow σ H as → m as = some (r, as') →
    (∀ H' ow', Stp G H0 ow H ow' H' → (p = true → Same H H') → SR X.K G H0 pin ow' σ H' as' → Q r H') → t σ H Q
inductive Res where
  | val (d : PD) | obj (o : Obj)
def FR (K : Fg) (G H0 : Hp) (ow : Ow) (H : Hp) (ow' : Ow) (H' : Hp) (v : V) : Res → Prop
  | .val d => Dp K (Hd ow' G H0 H') v d
  | .obj o => ∃ a, v = .ref a ∧ ow a ≠ some none ∧ ow' a = some none ∧ ObjAt K (Hd ow' G H0 H') H' a o
/-- an expression whose value may be a new object -/
structure EF (X : Cx) (p : Bool) (e : Expr) (m : M Res) : Prop where
  pur : p = true → ∀ as r as', m as = some (r, as') → as' = as
  ok : ∃ t, PE X e t ∧ ∀ (G H0 : Hp) (pin : Nat → Addr) (ow : Ow) (σ : L2.St) (H : Hp) (as : AS) (r : Res) (as' : AS) (Q : VK), SR X.K G H0 pin ow σ H as → m as = some (r, as') →
    (∀ v H' ow', Stp G H0 ow H ow' H' → (p = true → Same H H') → SR X.K G H0 pin ow' σ H' as' → FR X.K G H0 ow H ow' H' v r → Q v H') → t σ H Q
def LvRs (l : Lv) (K : Fg) (Hd H : Hp) : List V → List PD → Prop := Paired (LvR l K Hd H)
/-- arguments -/
structure EA (X : Cx) (p : Bool) (l : Lv) (es : List Expr) (m : M (List PD)) : Prop where
  pur : p = true → ∀ as r as', m as = some (r, as') → as' = as
  ok : ∃ t, PA X es t ∧ ∀ (G H0 : Hp) (pin : Nat → Addr) (ow : Ow) (σ : L2.St) (H : Hp) (as : AS) (r : List PD) (as' : AS) (Q : List V → Hp → Prop), SR X.K G H0 pin ow σ H as → m as = some (r, as') →
    (∀ vs H' ow', Stp G H0 ow H ow' H' → (p = true → Same H H') → SR X.K G H0 pin ow' σ H' as' → LvRs l X.K (Hd ow' G H0 H') H' vs r → Q vs H') → t σ H Q
end Vl

-- V2
set_option Elab.async false
set_option linter.all false
set_option maxRecDepth 100000
set_option maxHeartbeats 4000000
namespace Vl
open PySem L2

def mPure {α : Type} (a : α) : M α := fun as => some (a, as)
def mBind {α β : Type} (m : M α) (f : α → M β) : M β := fun as => match m as with
  | none => none
  | some (a, as1) => f a as1
def mOpt {α : Type} (o : Option α) : M α := fun as => match o with
  | none => none
  | some a => some (a, as)
theorem bind_some {α β : Type} {m : M α} {f : α → M β} {as : AS} {b : β} {as' : AS} (h : mBind m f as = some (b, as')) : ∃ a as1, m as = some (a, as1) ∧ f a as1 = some (b, as') := by
  unfold mBind at h
  split at h
  · cases h
  · rename_i a as1 e
    exact ⟨a, as1, e, h⟩
theorem opt_some {α : Type} {o : Option α} {as : AS} {b : α} {as' : AS} (h : mOpt o as = some (b, as')) : o = some b ∧ as' = as := by
  unfold mOpt at h
  split at h
  · cases h
  · cases h; exact ⟨rfl, rfl⟩
theorem pure_some {α : Type} {a : α} {as : AS} {b : α} {as' : AS} (h : mPure a as = some (b, as')) : b = a ∧ as' = as := by
  cases h; exact ⟨rfl, rfl⟩

/-! ### the heap grows: what is new lasts; a new object of one's own -/
def gr (G H H' : Hp) : Hp := fun a => if H a = none then H' a else G a
def put (ow : Ow) (a : Addr) (z : Option (Option Nat)) : Ow := fun b => if b = a then z else ow b
theorem put_same {ow : Ow} {a : Addr} {z : Option (Option Nat)} : put ow a z a = z := by unfold put; rw [if_pos rfl]
theorem put_ne {ow : Ow} {a b : Addr} {z : Option (Option Nat)} (h : b ≠ a) : put ow a z b = ow b := by unfold put; rw [if_neg h]
section
variable {K : Fg} {G H0 H H' : Hp} {pin : Nat → Addr} {ow ow' : Ow} {σ : L2.St} {as : AS} {a : Addr} {o : Obj}
theorem hd_own {b : Addr} (h : ow b = none) : Hd ow G H0 H b = if H0 b = none then H b else G b := by
  unfold Hd; rw [if_pos h]
theorem SR.gr (S : SR K G H0 pin ow σ H as) (s : Same H H') : Same (gr (Hd ow G H0 H) H H') (Hd ow G H0 H') := fun b x e => by
  unfold Vl.gr at e
  split at e
  · rename_i h
    obtain ⟨h1, h2⟩ := S.free h
    rw [hd_own h1, if_pos h2]; exact e
  · exact (S.grow s).2.dur b x e
theorem slotM {G' : Hp} {z : Option (Option V)} {i : Nat} {t : Slot} (s : Same G G') (hw : ∀ b, ow b = some (some i) → ow' b = some (some i) ∧ H' b = H b) (h : SlotR K G H ow pin i z t) : SlotR K G' H' ow' pin i z t := by
  cases t with
  | un => trivial
  | dur d => obtain ⟨v, e, r⟩ := h; exact ⟨v, e, dpM s _ _ r⟩
  | own o => obtain ⟨a, e, w, r⟩ := h; exact ⟨a, e, (hw a w).1, objM s (hw a w).2 r⟩
  | io o => obtain ⟨a, e, w, g, r⟩ := h; exact ⟨a, e, (hw a w).1, g, objM s (hw a w).2 r⟩
/-- a new object, kept apart -/
theorem SR.lay (S : SR K G H0 pin ow σ H as) (s : Same H H') (h : H a = none) (h' : H' a ≠ none) :
    SR K G H0 pin (put ow a (some none)) σ H' as ∧ Stp G H0 ow H (put ow a (some none)) H' ∧ ow a = none := by
  obtain ⟨h1, h2⟩ := S.free h
  obtain ⟨S', st⟩ := S.grow s
  have hs : Same (Hd ow G H0 H) (Hd (put ow a (some none)) G H0 H') := fun b x e => by
    have hb : b ≠ a := fun q => by
      subst q
      rw [hd_own h1, if_pos h2, h] at e; cases e
    have q := st.dur b x e
    unfold Hd at q ⊢
    rw [put_ne hb]; exact q
  refine ⟨⟨S'.len, fun b x e => ?_, S'.same, S'.sub, fun i z hz => ?_⟩, ⟨hs, fun b e => ?_, st.dom⟩, h1⟩
  · by_cases q : b = a
    · subst q; exact ⟨h2, h'⟩
    · rw [put_ne q] at e; exact S'.own b x e
  · refine slotM hs (fun b w => ?_) (S.slot i z hz)
    have q : b ≠ a := fun q => by subst q; rw [h1] at w; cases w
    refine ⟨by rw [put_ne q]; exact w, ?_⟩
    cases e : H b with
    | none => exact absurd e (S.own b _ w).2
    | some x => rw [s b x e]
  · have q : b ≠ a := fun q => by subst q; rw [h1] at e; cases e
    rw [put_ne q]; exact st.tmp b e
/-- a kept object becomes a lasting one -/
theorem SR.fix (S : SR K G H0 pin ow σ H as) (h : ow a = some none) : SR K G H0 pin (put ow a none) σ H as ∧ Same (Hd ow G H0 H) (Hd (put ow a none) G H0 H) ∧ Hd (put ow a none) G H0 H a = H a := by
  have h2 := (S.own a _ h).1
  have hs : Same (Hd ow G H0 H) (Hd (put ow a none) G H0 H) := fun b x e => by
    have hb : b ≠ a := fun q => by
      subst q
      rw [hd_free (by rw [h]; exact nofun)] at e; cases e
    unfold Hd at e ⊢
    rw [put_ne hb]; exact e
  refine ⟨⟨S.len, fun b x e => ?_, S.same, S.sub, fun i z hz => ?_⟩, hs, ?_⟩
  · by_cases q : b = a
    · subst q; rw [put_same] at e; cases e
    · rw [put_ne q] at e; exact S.own b x e
  · refine slotM hs (fun b w => ?_) (S.slot i z hz)
    have q : b ≠ a := fun q => by subst q; rw [h] at w; cases w
    exact ⟨by rw [put_ne q]; exact w, rfl⟩
  · rw [hd_own put_same, if_pos h2]
end

/-! ### changes of level -/
def Res.v : Res → Option PD
  | .val d => some d
  | .obj (.ol xs) => some (.list xs)
  | _ => none
def mV (m : M Res) : M PD := mBind m fun r => mOpt r.v
def mF (m : M PD) : M Res := mBind m fun d => mPure (.val d)
section
variable {X : Cx} {e : Expr} {p : Bool} {l : Lv} {m : M PD}
theorem EV.up (h : EV X p .D e m) : EV X p l e m := by
  obtain ⟨t, h1, h2⟩ := h.ok
  refine ⟨h.pur, t, h1, fun G H0 pin ow σ H as r as' Q S hm k => ?_⟩
  refine h2 G H0 pin ow σ H as r as' Q S hm fun v H' ow' st sm S' lv => k v H' ow' st sm S' ?_
  cases l with
  | B => exact dpM S'.hd _ _ lv
  | I => exact itM S'.hd (Same.refl _) (it_dp.mpr lv)
  | D => exact lv
theorem EV.imp (h : EV X p l e m) : EV X false l e m := by
  obtain ⟨t, h1, h2⟩ := h.ok
  exact ⟨fun z => (by cases z), t, h1, fun G H0 pin ow σ H as r as' Q S hm k => h2 G H0 pin ow σ H as r as' Q S hm fun v H' ow' st sm S' lv => k v H' ow' st (fun z => by cases z) S' lv⟩
theorem EF.imp {m : M Res} (h : EF X p e m) : EF X false e m := by
  obtain ⟨t, h1, h2⟩ := h.ok
  exact ⟨fun z => (by cases z), t, h1, fun G H0 pin ow σ H as r as' Q S hm k => h2 G H0 pin ow σ H as r as' Q S hm fun v H' ow' st sm S' lv => k v H' ow' st (fun z => by cases z) S' lv⟩
theorem EV.f (h : EV X p .D e m) : EF X p e (mF m) := by
  obtain ⟨t, h1, h2⟩ := h.ok
  refine ⟨fun z as r as' hm => ?_, t, h1, fun G H0 pin ow σ H as r as' Q S hm k => ?_⟩
  · obtain ⟨d, as1, q1, q2⟩ := bind_some hm
    obtain ⟨_, rfl⟩ := pure_some q2
    exact h.pur z _ _ _ q1
  · obtain ⟨d, as1, q1, q2⟩ := bind_some hm
    obtain ⟨rfl, rfl⟩ := pure_some q2
    exact h2 G H0 pin ow σ H as d as' Q S q1 fun v H' ow' st sm S' lv => k v H' ow' st sm S' lv
theorem EF.v {m : M Res} (h : EF X p e m) : EV X p l e (mV m) := by
  refine EV.up ?_
  obtain ⟨t, h1, h2⟩ := h.ok
  refine ⟨fun z as r as' hm => ?_, t, h1, fun G H0 pin ow σ H as r as' Q S hm k => ?_⟩
  · obtain ⟨d, as1, q1, q2⟩ := bind_some hm
    obtain ⟨_, rfl⟩ := opt_some q2
    exact h.pur z _ _ _ q1
  · obtain ⟨d, as1, q1, q2⟩ := bind_some hm
    obtain ⟨q3, rfl⟩ := opt_some q2
    refine h2 G H0 pin ow σ H as d as' Q S q1 fun v H' ow' st sm S' fr => ?_
    cases d with
    | val d => cases q3; exact k v H' ow' st sm S' fr
    | obj o =>
      obtain ⟨a, rfl, w1, w2, ob⟩ := fr
      obtain ⟨S2, s2, ha⟩ := S'.fix w2
      cases o with
      | ol xs =>
        cases q3
        obtain ⟨vs, hv, hd⟩ := ob
        refine k _ H' (put ow' a none) ⟨st.dur.trans s2, fun b hb => ?_, st.dom⟩ sm S2 (Dp.lst (SqL.of (ha.trans hv)) (dpaM s2 _ _ hd))
        have q : b ≠ a := fun q => by subst q; exact w1 hb
        rw [put_ne q]; exact st.tmp b hb
      | od _ => cases q3
      | ot _ => cases q3
      | fk _ => cases q3
end

/-! ### operations on values -/
def rm (a : Addr) (G : Hp) : Hp := fun b => if b = a then none else G b
def OkRes (K : Fg) (G H H' : Hp) (v : V) : Res → Prop
  | .val d => Dp K (gr G H H') v d
  | .obj o => ∃ a, v = .ref a ∧ H a = none ∧ ObjAt K (rm a (gr G H H')) H' a o
theorem gr_sub {G H H' : Hp} (s : Same G H) : Same G (gr G H H') := fun b x e => by
  unfold gr
  rw [if_neg (by rw [s b x e]; exact nofun)]
  exact e
theorem rm_sub {G H H' : Hp} {a : Addr} (s : Same G H) (h : H a = none) : Same G (rm a (gr G H H')) := fun b x e => by
  unfold rm
  rw [if_neg (fun q => by subst q; rw [s b x e] at h; cases h)]
  exact gr_sub s b x e
/-- r does f: a new object or a lasting value, of what stands in G -/
def R2O (K : Fg) (r : R2) (f : PD → PD → Option Res) : Prop := ∀ (G H : Hp) (x y : V) (dx dy : PD) (res : Res), Same G H → It K H G x dx → It K H G y dy → f dx dy = some res →
  ∀ Q : VK, (∀ v H', Same H H' → OkRes K G H H' v res → Q v H') → r x y H Q
/-- r does f, a value without a place -/
def nil : Hp := fun _ => none
def R2S (K : Fg) (r : R2) (f : PD → PD → Option PD) : Prop := ∀ (H : Hp) (x y : V) (dx dy : PD) (d : PD), Dp K H x dx → Dp K H y dy → f dx dy = some d →
  ∀ Q : VK, (∀ v H', Same H H' → Dp K nil v d → Q v H') → r x y H Q
def R1O (K : Fg) (r : V → Hp → VK → Prop) (f : PD → Option Res) : Prop := ∀ (G H : Hp) (x : V) (dx : PD) (res : Res), Same G H → It K H G x dx → f dx = some res →
  ∀ Q : VK, (∀ v H', Same H H' → OkRes K G H H' v res → Q v H') → r x H Q
def R1S (K : Fg) (r : V → Hp → VK → Prop) (f : PD → Option PD) : Prop := ∀ (H : Hp) (x : V) (dx : PD) (d : PD), Dp K H x dx → f dx = some d →
  ∀ Q : VK, (∀ v H', Same H H' → Dp K nil v d → Q v H') → r x H Q
def RnO (K : Fg) (r : List V → Hp → VK → Prop) (f : List PD → Option Res) : Prop := ∀ (G H : Hp) (xs : List V) (ds : List PD) (res : Res), Same G H → Paired (It K H G) xs ds → f ds = some res →
  ∀ Q : VK, (∀ v H', Same H H' → OkRes K G H H' v res → Q v H') → r xs H Q
def RnS (K : Fg) (r : List V → Hp → VK → Prop) (f : List PD → Option PD) : Prop := ∀ (H : Hp) (xs : List V) (ds : List PD) (d : PD), Paired (Dp K H) xs ds → f ds = some d →
  ∀ Q : VK, (∀ v H', Same H H' → Dp K nil v d → Q v H') → r xs H Q
theorem same_nil {H : Hp} : Same nil H := fun _ _ e => by cases e
section
variable {X : Cx} {a b : Expr} {p p1 p2 : Bool} {l l1 : Lv} {ma mb : M PD} {pos : Pos}
theorem lv_it {l : Lv} {K : Fg} {Hd H : Hp} {v : V} {d : PD} (s : Same Hd H) (hl : l ≠ .B) (h : LvR l K Hd H v d) : It K H Hd v d := by
  cases l with
  | B => exact absurd rfl hl
  | I => exact h
  | D => exact itM s (Same.refl _) (it_dp.mpr h)
theorem lv_dp {l : Lv} {K : Fg} {Hd H : Hp} {v : V} {d : PD} (s : Same Hd H) (h : LvR l K Hd H v d) : Dp K H v d := by
  cases l with
  | B => exact h
  | I => exact it_up s h
  | D => exact dpM s _ _ h
/-- what an operation gives, to its end -/
theorem fin_o {K : Fg} {G H0 H H' : Hp} {pin : Nat → Addr} {ow0 ow : Ow} {Hs : Hp} {σ : L2.St} {as : AS} {v : V} {res : Res} {Q : VK} {pp : Prop} (S : SR K G H0 pin ow σ H as) (st0 : Stp G H0 ow0 Hs ow H) (sm0 : pp → Same Hs H) (s : Same H H')
    (h : OkRes K (Hd ow G H0 H) H H' v res)
    (k : ∀ v H' ow', Stp G H0 ow0 Hs ow' H' → (pp → Same Hs H') → SR K G H0 pin ow' σ H' as → FR K G H0 ow0 Hs ow' H' v res → Q v H') : Q v H' := by
  cases res with
  | val d =>
    obtain ⟨S', st⟩ := S.grow s
    exact k v H' ow (st0.trans st) (fun z => (sm0 z).trans s) S' (dpM (S.gr s) _ _ h)
  | obj o =>
    obtain ⟨c, rfl, hn, ob⟩ := h
    obtain ⟨S', st, w⟩ := S.lay s hn (objS ob)
    have hs : Same (rm c (gr (Hd ow G H0 H) H H')) (Hd (put ow c (some none)) G H0 H') := fun b x e => by
      unfold rm at e
      split at e
      · cases e
      · rename_i hb
        have q := S.gr s b x e
        unfold Hd at q ⊢
        rw [put_ne hb]; exact q
    refine k _ H' _ (st0.trans st) (fun z => (sm0 z).trans s) S' ⟨c, rfl, fun q => ?_, put_same, objM hs rfl ob⟩
    have := (st0.tmp c q).1
    rw [w] at this; cases this
theorem fin_s {K : Fg} {G H0 H H' : Hp} {pin : Nat → Addr} {ow0 ow : Ow} {Hs : Hp} {σ : L2.St} {as : AS} {v : V} {d : PD} {Q : VK} {pp : Prop} (S : SR K G H0 pin ow σ H as) (st0 : Stp G H0 ow0 Hs ow H) (sm0 : pp → Same Hs H) (s : Same H H')
    (h : Dp K nil v d)
    (k : ∀ v H' ow', Stp G H0 ow0 Hs ow' H' → (pp → Same Hs H') → SR K G H0 pin ow' σ H' as → LvR .D K (Hd ow' G H0 H') H' v d → Q v H') : Q v H' := by
  obtain ⟨S', st⟩ := S.grow s
  exact k v H' ow (st0.trans st) (fun z => (sm0 z).trans s) S' (dpM same_nil _ _ h)

/-- two values, one behind the other -/
theorem EV.two (ha : EV X p1 l a ma) (hb : EV X p2 l1 b mb) (hs : l = .D ∨ p2 = true) : ∃ ta tb, PE X a ta ∧ PE X b tb ∧
    ∀ (G H0 : Hp) (pin : Nat → Addr) (ow : Ow) (σ : L2.St) (H : Hp) (as : AS) (x y : PD) (as1 as2 : AS) (R : V → V → Hp → Prop), SR X.K G H0 pin ow σ H as → ma as = some (x, as1) → mb as1 = some (y, as2) →
      (∀ v w H' ow', Stp G H0 ow H ow' H' → ((p1 && p2) = true → Same H H') → SR X.K G H0 pin ow' σ H' as2 → LvR l X.K (Hd ow' G H0 H') H' v x → LvR l1 X.K (Hd ow' G H0 H') H' w y → R v w H') → ta σ H fun v H1 => tb σ H1 fun w H2 => R v w H2 := by
  obtain ⟨ta, a1, a2⟩ := ha.ok
  obtain ⟨tb, b1, b2⟩ := hb.ok
  refine ⟨ta, tb, a1, b1, fun G H0 pin ow σ H as x y as1 as2 R S h1 h2 k => ?_⟩
  refine a2 G H0 pin ow σ H as x as1 _ S h1 fun v H1 ow1 st1 sm1 S1 lv1 => ?_
  refine b2 G H0 pin ow1 σ H1 as1 y as2 _ S1 h2 fun w H2 ow2 st2 sm2 S2 lv2 => ?_
  refine k v w H2 ow2 (st1.trans st2) (fun z => ?_) S2 (lvM st2.dur (hs.imp id sm2) lv1) lv2
  have z' : p1 = true ∧ p2 = true := by simpa using z
  exact (sm1 z'.1).trans (sm2 z'.2)
theorem pur2 {α β γ : Type} {m : M α} {n : α → M β} {f : α → β → Option γ} {p1 p2 : Bool} (h1 : p1 = true → ∀ as r as', m as = some (r, as') → as' = as) (h2 : p2 = true → ∀ x as r as', n x as = some (r, as') → as' = as) (z : (p1 && p2) = true) :
    ∀ as r as', mBind m (fun x => mBind (n x) fun y => mOpt (f x y)) as = some (r, as') → as' = as := fun as r as' h => by
  have z' : p1 = true ∧ p2 = true := by simpa using z
  obtain ⟨x, as1, q1, q⟩ := bind_some h
  obtain ⟨y, as2, q2, q⟩ := bind_some q
  obtain ⟨_, rfl⟩ := opt_some q
  exact (h2 z'.2 _ _ _ _ q2).trans (h1 z'.1 _ _ _ q1)
def m2 {α : Type} (f : PD → PD → Option α) (m n : M PD) : M α := mBind m fun x => mBind n fun y => mOpt (f x y)
def m1 {α : Type} (f : PD → Option α) (m : M PD) : M α := mBind m fun x => mOpt (f x)
theorem pur1 {α : Type} {m : M PD} {f : PD → Option α} {p : Bool} (h1 : p = true → ∀ as r as', m as = some (r, as') → as' = as) (z : p = true) : ∀ as r as', m1 f m as = some (r, as') → as' = as := fun as r as' h => by
  obtain ⟨x, as1, q1, q⟩ := bind_some h
  obtain ⟨_, rfl⟩ := opt_some q
  exact h1 z _ _ _ q1
theorem ef_op {op : Operator} {r : R2} {f : PD → PD → Option Res} (ho : OpR X (binaryOp op) r) (hr : R2O X.K r f) (ha : EV X p1 l a ma) (hb : EV X p2 l1 b mb) (hs : l = .D ∨ p2 = true := by first | exact .inr rfl | exact .inl rfl) (hl : l ≠ .B := by nofun) (hl1 : l1 ≠ .B := by nofun) :
    EF X (p1 && p2) (.BinOp a op b pos) (m2 f ma mb) := by
  obtain ⟨ta, tb, e1, e2, q⟩ := ha.two hb hs
  refine ⟨fun z => pur2 ha.pur (fun z _ => hb.pur z) z, _, pe_op ho e1 e2, fun G H0 pin ow σ H as r as' Q S hm k => ?_⟩
  obtain ⟨x, as1, q1, hm⟩ := bind_some hm
  obtain ⟨y, as2, q2, hm⟩ := bind_some hm
  obtain ⟨q3, rfl⟩ := opt_some hm
  refine q G H0 pin ow σ H as x y as1 as' _ S q1 q2 fun v w H' ow' st sm S' lv lw => ?_
  exact hr _ _ _ _ _ _ _ S'.hd (lv_it S'.hd hl lv) (lv_it S'.hd hl1 lw) q3 _ fun z H2 s2 okr => fin_o S' st sm s2 okr k
theorem ev_op {op : Operator} {r : R2} {f : PD → PD → Option PD} (ho : OpR X (binaryOp op) r) (hr : R2S X.K r f) (ha : EV X p1 l a ma) (hb : EV X p2 l1 b mb) (hs : l = .D ∨ p2 = true := by first | exact .inr rfl | exact .inl rfl) :
    EV X (p1 && p2) .D (.BinOp a op b pos) (m2 f ma mb) := by
  obtain ⟨ta, tb, e1, e2, q⟩ := ha.two hb hs
  refine ⟨fun z => pur2 ha.pur (fun z _ => hb.pur z) z, _, pe_op ho e1 e2, fun G H0 pin ow σ H as r as' Q S hm k => ?_⟩
  obtain ⟨x, as1, q1, hm⟩ := bind_some hm
  obtain ⟨y, as2, q2, hm⟩ := bind_some hm
  obtain ⟨q3, rfl⟩ := opt_some hm
  refine q G H0 pin ow σ H as x y as1 as' _ S q1 q2 fun v w H' ow' st sm S' lv lw => ?_
  exact hr _ _ _ _ _ _ (lv_dp S'.hd lv) (lv_dp S'.hd lw) q3 _ fun z H2 s2 okr => fin_s S' st sm s2 okr k
theorem ev_cmp {op : CmpOp} {r : R2} {f : PD → PD → Option PD} (ho : OpR X (compareOp op) r) (hr : R2S X.K r f) (ha : EV X p1 l a ma) (hb : EV X p2 l1 b mb) (hmk : behindInMarks op b = false) (hs : l = .D ∨ p2 = true := by first | exact .inr rfl | exact .inl rfl) :
    EV X (p1 && p2) .D (.Compare a [op] [b] pos) (m2 f ma mb) := by
  obtain ⟨ta, tb, e1, e2, q⟩ := ha.two hb hs
  refine ⟨fun z => pur2 ha.pur (fun z _ => hb.pur z) z, _, pe_cmpR ho e1 e2 hmk, fun G H0 pin ow σ H as r as' Q S hm k => ?_⟩
  obtain ⟨x, as1, q1, hm⟩ := bind_some hm
  obtain ⟨y, as2, q2, hm⟩ := bind_some hm
  obtain ⟨q3, rfl⟩ := opt_some hm
  refine q G H0 pin ow σ H as x y as1 as' _ S q1 q2 fun v w H' ow' st sm S' lv lw => ?_
  exact hr _ _ _ _ _ _ (lv_dp S'.hd lv) (lv_dp S'.hd lw) q3 _ fun z H2 s2 okr => fin_s S' st sm s2 okr k
def asB : PD → Option Bool
  | .bool b => some b
  | _ => none
def m2b (f : PD → PD → Option PD) (m n : M PD) : M Bool := m2 (fun x y => (f x y).bind asB) m n
theorem et_cmp {op : CmpOp} {r : R2} {f : PD → PD → Option PD} (ho : OpR X (compareOp op) r) (hr : R2S X.K r f) (ha : EV X p1 l a ma) (hb : EV X p2 l1 b mb) (hmk : behindInMarks op b = false) (hs : l = .D ∨ p2 = true := by first | exact .inr rfl | exact .inl rfl) :
    ET X (p1 && p2) (.Compare a [op] [b] pos) (m2b f ma mb) := by
  obtain ⟨ta, tb, e1, e2, q⟩ := ha.two hb hs
  refine ⟨fun z => pur2 ha.pur (fun z _ => hb.pur z) z, _, pt_cmpR ho e1 e2 hmk, fun G H0 pin ow σ H as r as' Q S hm k => ?_⟩
  obtain ⟨x, as1, q1, hm⟩ := bind_some hm
  obtain ⟨y, as2, q2, hm⟩ := bind_some hm
  obtain ⟨q3, rfl⟩ := opt_some hm
  have q3 : (f x y).bind asB = some r := q3
  cases q4 : f x y with
  | none => rw [q4] at q3; cases q3
  | some d =>
    rw [q4] at q3
    cases d with
    | bool c =>
      cases q3
      refine q G H0 pin ow σ H as x y as1 as' _ S q1 q2 fun v w H' ow' st sm S' lv lw => ?_
      refine hr _ _ _ _ _ _ (lv_dp S'.hd lv) (lv_dp S'.hd lw) q4 _ fun z H2 s2 okr => ?_
      cases okr
      obtain ⟨S3, st3⟩ := S'.grow s2
      exact ⟨_, rfl, k H2 ow' (st.trans st3) (fun z => (sm z).trans s2) S3⟩
    | none => cases q3
    | int _ => cases q3
    | str _ => cases q3
    | list _ => cases q3
    | tuple _ => cases q3
    | dict _ => cases q3
end
end Vl

-- V3
set_option Elab.async false
set_option linter.all false
set_option maxRecDepth 100000
set_option maxHeartbeats 4000000
namespace Vl
open PySem L2

section
variable {X : Cx} {p p1 p2 p3 : Bool} {l l1 : Lv} {pos : Pos}

/-! ### names and constants -/
/-- a name's lasting value -/
def mD (i : Nat) : M PD := fun as => match as[i]? with
  | some (.dur d) => some (d, as)
  | _ => none
/-- a name's value, for looking at -/
def mI (i : Nat) : M PD := fun as => match as[i]? with
  | some (.dur d) => some (d, as)
  | some (.own (.ol xs)) => some (.list xs, as)
  | some (.io (.ol xs)) => some (.list xs, as)
  | _ => none
theorem ev_nD {i : Nat} {x : Str} (hN : X.N[i]? = some x := by rfl) (hv : Vis X.env.scope x := by first | exact Or.inl rfl | exact Or.inr (Or.inl rfl) | exact Or.inr (Or.inr rfl)) (hd : (x == ("__debug__" : Str)) = false := by decide)
    (hcd : (x == ("__classdict__" : Str)) = false := by decide) : EV X true .D (.Name x pos) (mD i) := by
  have inv : ∀ {as : AS} {r : PD} {as' : AS}, mD i as = some (r, as') → as[i]? = some (.dur r) ∧ as' = as := fun {as r as'} h => by
    unfold mD at h
    split at h
    · rename_i d e; cases h; exact ⟨e, rfl⟩
    · cases h
  refine ⟨fun _ as r as' h => (inv h).2, _, pe_var hN hv hd hcd, fun G H0 pin ow σ H as r as' Q S hm k => ?_⟩
  obtain ⟨e, rfl⟩ := inv hm
  obtain ⟨v, q, r⟩ := S.slot i _ e
  exact ⟨v, q, k v H ow Stp.refl (fun _ => Same.refl _) S r⟩
theorem ev_nI {i : Nat} {x : Str} (hN : X.N[i]? = some x := by rfl) (hv : Vis X.env.scope x := by first | exact Or.inl rfl | exact Or.inr (Or.inl rfl) | exact Or.inr (Or.inr rfl)) (hd : (x == ("__debug__" : Str)) = false := by decide)
    (hcd : (x == ("__classdict__" : Str)) = false := by decide) : EV X true .I (.Name x pos) (mI i) := by
  refine ⟨fun _ as r as' h => ?_, _, pe_var hN hv hd hcd, fun G H0 pin ow σ H as r as' Q S hm k => ?_⟩
  · unfold mI at h
    split at h <;> cases h <;> rfl
  · unfold mI at hm
    split at hm
    · rename_i d e
      cases hm
      obtain ⟨v, q, r⟩ := S.slot i _ e
      exact ⟨v, q, k v H ow Stp.refl (fun _ => Same.refl _) S (itM S.hd (Same.refl _) (it_dp.mpr r))⟩
    · rename_i xs e
      cases hm
      obtain ⟨a, q, w, vs, hv, hd⟩ := S.slot i _ e
      exact ⟨_, q, k _ H ow Stp.refl (fun _ => Same.refl _) S ⟨a, vs, rfl, SqL.of hv, hd⟩⟩
    · rename_i xs e
      cases hm
      obtain ⟨a, q, w, _, vs, hv, hd⟩ := S.slot i _ e
      exact ⟨_, q, k _ H ow Stp.refl (fun _ => Same.refl _) S ⟨a, vs, rfl, SqL.of hv, hd⟩⟩
    · cases hm
theorem EV.toB {e : Expr} {m : M PD} (h : EV X p .I e m) : EV X p .B e m := by
  obtain ⟨t, h1, h2⟩ := h.ok
  exact ⟨h.pur, t, h1, fun G H0 pin ow σ H as r as' Q S hm k => h2 G H0 pin ow σ H as r as' Q S hm fun v H' ow' st sm S' lv => k v H' ow' st sm S' (it_up S'.hd lv)⟩
/-- an own object's name given away: it lasts from now on; the slot forgets it (M), or keeps the lasting value (Z) -/
def mMv (i : Nat) : M Res := fun as => match as[i]? with
  | some (.own o) => some (.obj o, as.set i .un)
  | _ => none
def mZ (i : Nat) : M PD := fun as => match as[i]? with
  | some (.dur d) => some (d, as)
  | some (.own (.ol xs)) => some (.list xs, as.set i (.dur (.list xs)))
  | _ => none
/-- an object of slot i becomes a kept one -/
theorem SR.take {K : Fg} {G H0 H : Hp} {pin : Nat → Addr} {ow : Ow} {σ : L2.St} {as : AS} {i : Nat} {a : Addr} {o : Obj} (S : SR K G H0 pin ow σ H as) (e : as[i]? = some (.own o)) (w : ow a = some (some i)) (hz : σ[i]? = some (some (.ref a))) (s : Slot)
    (hs : ∀ G', SlotR K G' H (put ow a (some none)) pin i (some (some (.ref a))) s) : SR K G H0 pin (put ow a (some none)) σ H (as.set i s) := by
  have hd : Same (Hd ow G H0 H) (Hd (put ow a (some none)) G H0 H) := fun b x q => by
    have hb : b ≠ a := fun z => by
      subst z
      rw [hd_free (by rw [w]; exact nofun)] at q; cases q
    unfold Hd at q ⊢
    rw [put_ne hb]; exact q
  refine ⟨by rw [List.length_set]; exact S.len, fun b x q => ?_, S.same, S.sub, fun j z h => ?_⟩
  · by_cases hb : b = a
    · subst hb; exact S.own b _ w
    · rw [put_ne hb] at q; exact S.own b x q
  · by_cases hj : i = j
    · subst hj
      have hi : i < as.length := (List.getElem?_eq_some_iff.mp e).1
      rw [List.getElem?_set_self hi] at h
      cases h
      rw [hz]; exact hs _
    · rw [List.getElem?_set_ne hj] at h
      refine slotM hd (fun b wb => ?_) (S.slot j z h)
      have hb : b ≠ a := fun q => by
        subst q
        rw [w] at wb
        exact hj (Option.some.inj (Option.some.inj wb))
      exact ⟨by rw [put_ne hb]; exact wb, rfl⟩
theorem stp_take {G H0 H : Hp} {ow : Ow} {i : Nat} {a : Addr} (w : ow a = some (some i)) (z : Option (Option Nat)) (hz : z = some none ∨ (z = none ∧ H0 a = none)) : Stp G H0 ow H (put ow a z) H := by
  refine ⟨fun b x q => ?_, fun b q => ?_, fun _ h => h⟩
  · have hb : b ≠ a := fun z => by
      subst z
      rw [hd_free (by rw [w]; exact nofun)] at q; cases q
    unfold Hd at q ⊢
    rw [put_ne hb]; exact q
  · have hb : b ≠ a := fun z => by
      subst z
      rw [w] at q; cases q
    rw [put_ne hb]; exact ⟨q, rfl⟩
theorem ef_mv {i : Nat} {x : Str} (hN : X.N[i]? = some x := by rfl) (hv : Vis X.env.scope x := by first | exact Or.inl rfl | exact Or.inr (Or.inl rfl) | exact Or.inr (Or.inr rfl)) (hd : (x == ("__debug__" : Str)) = false := by decide)
    (hcd : (x == ("__classdict__" : Str)) = false := by decide) : EF X false (.Name x pos) (mMv i) := by
  refine ⟨fun z => (by cases z), _, pe_var hN hv hd hcd, fun G H0 pin ow σ H as r as' Q S hm k => ?_⟩
  unfold mMv at hm
  split at hm
  · rename_i o e
    cases hm
    obtain ⟨a, q, w, ob⟩ := S.slot i _ e
    have st : Stp G H0 ow H (put ow a (some none)) H := stp_take w _ (.inl rfl)
    exact ⟨_, q, k _ H (put ow a (some none)) st (fun z => by cases z) (S.take e w q .un fun _ => trivial) ⟨a, rfl, by rw [w]; exact nofun, put_same, objM st.dur rfl ob⟩⟩
  · cases hm
theorem ev_z {i : Nat} {x : Str} (hN : X.N[i]? = some x := by rfl) (hv : Vis X.env.scope x := by first | exact Or.inl rfl | exact Or.inr (Or.inl rfl) | exact Or.inr (Or.inr rfl)) (hd : (x == ("__debug__" : Str)) = false := by decide)
    (hcd : (x == ("__classdict__" : Str)) = false := by decide) : EV X false .D (.Name x pos) (mZ i) := by
  refine ⟨fun z => (by cases z), _, pe_var hN hv hd hcd, fun G H0 pin ow σ H as r as' Q S hm k => ?_⟩
  unfold mZ at hm
  split at hm
  · rename_i d e
    cases hm
    obtain ⟨v, q, r⟩ := S.slot i _ e
    exact ⟨v, q, k v H ow Stp.refl (fun z => by cases z) S r⟩
  · rename_i xs e
    cases hm
    obtain ⟨a, q, w, ob⟩ := S.slot i _ e
    have h0 := (S.own a _ w).1
    have st : Stp G H0 ow H (put ow a none) H := stp_take w _ (.inr ⟨rfl, h0⟩)
    have st1 : Stp G H0 ow H (put ow a (some none)) H := stp_take w _ (.inl rfl)
    obtain ⟨vs, hvs, hds⟩ := ob
    have hv : Dp X.K (Hd (put ow a none) G H0 H) (.ref a) (.list xs) := Dp.lst (SqL.of (by rw [hd_own put_same, if_pos h0]; exact hvs)) (dpaM st.dur _ _ hds)
    have S2 := S.take e w q .un fun _ => trivial
    obtain ⟨S3, hs3, _⟩ := S2.fix put_same
    have e3 : put (put ow a (some none)) a none = put ow a none := by
      funext b; unfold put; split <;> rfl
    rw [e3] at S3
    refine ⟨_, q, k _ H (put ow a none) st (fun z => by cases z) ⟨by rw [List.length_set]; exact S.len, S3.own, S3.same, S3.sub, fun j z h => ?_⟩ hv⟩
    by_cases hj : i = j
    · subst hj
      have hi : i < as.length := (List.getElem?_eq_some_iff.mp e).1
      rw [List.getElem?_set_self hi] at h
      cases h
      exact ⟨_, q, hv⟩
    · rw [List.getElem?_set_ne hj] at h
      exact S3.slot j z (by rw [List.getElem?_set_ne hj]; exact h)
  · cases hm
/-- a constant -/
theorem ev_c {e : Expr} {v : V} {d : PD} (h : PE X e (tC v)) (hd : ∀ K, Dp K nil v d) : EV X true .D e (mPure d) := by
  refine ⟨fun _ as r as' h => (pure_some h).2, _, h, fun G H0 pin ow σ H as r as' Q S hm k => ?_⟩
  obtain ⟨rfl, rfl⟩ := pure_some hm
  exact k v H ow Stp.refl (fun _ => Same.refl _) S (dpM same_nil _ _ (hd _))
theorem ev_int {i : Int} {j : Nat} : EV X true .D (.Constant (.int i) j pos) (mPure (.int i)) := ev_c pe_int fun _ => Dp.int i
theorem ev_bl {b : Bool} {j : Nat} : EV X true .D (.Constant (.bool b) j pos) (mPure (.bool b)) := ev_c pe_bl fun _ => Dp.bl b
theorem ev_non {j : Nat} : EV X true .D (.Constant .none j pos) (mPure .none) := ev_c pe_non fun _ => Dp.non
theorem ev_str {x : Str} {j : Nat} : EV X true .D (.Constant (.str x) j pos) (mPure (.str x)) := ev_c pe_str fun _ => Dp.str x

/-! ### arguments -/
theorem ea_nil : EA X true l [] (mPure []) := by
  refine ⟨fun _ as r as' h => (pure_some h).2, _, pa_nil, fun G H0 pin ow σ H as r as' Q S hm k => ?_⟩
  obtain ⟨rfl, rfl⟩ := pure_some hm
  exact k [] H ow Stp.refl (fun _ => Same.refl _) S .nil
def mCons (m : M PD) (ms : M (List PD)) : M (List PD) := mBind m fun x => mBind ms fun xs => mPure (x :: xs)
theorem ea_cons {e : Expr} {es : List Expr} {m : M PD} {ms : M (List PD)} (ha : EV X p1 l e m) (hr : EA X p2 l es ms) (hs : l = .D ∨ p2 = true := by first | exact .inr rfl | exact .inl rfl)
    (hst : starEach (e :: es) X.env = (false, eval e X.env) :: starEach es X.env := by rfl) : EA X (p1 && p2) l (e :: es) (mCons m ms) := by
  obtain ⟨ta, a1, a2⟩ := ha.ok
  obtain ⟨tb, b1, b2⟩ := hr.ok
  refine ⟨fun z as r as' h => ?_, _, pa_cons a1 b1 hst, fun G H0 pin ow σ H as r as' Q S hm k => ?_⟩
  · have z' : p1 = true ∧ p2 = true := by simpa using z
    obtain ⟨x, as1, q1, q⟩ := bind_some h
    obtain ⟨y, as2, q2, q⟩ := bind_some q
    obtain ⟨_, rfl⟩ := pure_some q
    exact (hr.pur z'.2 _ _ _ q2).trans (ha.pur z'.1 _ _ _ q1)
  · obtain ⟨x, as1, q1, q⟩ := bind_some hm
    obtain ⟨y, as2, q2, q⟩ := bind_some q
    obtain ⟨rfl, rfl⟩ := pure_some q
    refine a2 G H0 pin ow σ H as x as1 _ S q1 fun v H1 ow1 st1 sm1 S1 lv1 => ?_
    refine b2 G H0 pin ow1 σ H1 as1 y as' _ S1 q2 fun vs H2 ow2 st2 sm2 S2 lv2 => ?_
    refine k _ H2 ow2 (st1.trans st2) (fun z => ?_) S2 (.cons (lvM st2.dur (hs.imp id sm2) lv1) lv2)
    have z' : p1 = true ∧ p2 = true := by simpa using z
    exact (sm1 z'.1).trans (sm2 z'.2)
theorem dpa_of {K : Fg} {H : Hp} : ∀ {vs : List V} {ds : List PD}, Paired (Dp K H) vs ds → DpAll K H vs ds
  | _, _, .nil => .nil
  | _, _, .cons h t => .cons h (dpa_of t)
theorem of_dpa {K : Fg} {H : Hp} : ∀ {vs : List V} {ds : List PD}, DpAll K H vs ds → Paired (Dp K H) vs ds
  | [], [], _ => .nil
  | _ :: _, _ :: _, .cons h t => .cons h (of_dpa t)
theorem dpa_len {K : Fg} {H : Hp} {vs : List V} {ds : List PD} (h : DpAll K H vs ds) : vs.length = ds.length := (of_dpa h).length
def fTup (xs : List PD) : Option Res := if xs.length ≤ 1000 then some (.val (.tuple xs)) else none
def fLst (xs : List PD) : Option Res := if xs.length ≤ 1000 then some (.obj (.ol xs)) else none
def mN (f : List PD → Option Res) (ms : M (List PD)) : M Res := mBind ms fun xs => mOpt (f xs)
theorem pur_n {α : Type} {ms : M (List PD)} {f : List PD → Option α} (h : p = true → ∀ as r as', ms as = some (r, as') → as' = as) (z : p = true) (as : AS) (r : α) (as' : AS) (hm : mBind ms (fun xs => mOpt (f xs)) as = some (r, as')) : as' = as := by
  obtain ⟨x, as1, q1, q⟩ := bind_some hm
  obtain ⟨_, rfl⟩ := opt_some q
  exact h z _ _ _ q1
theorem ef_tup {es : List Expr} {x1 : Nat} {ms : M (List PD)} (h : EA X p .D es ms) : EF X p (.Tuple es x1 pos) (mN fTup ms) := by
  obtain ⟨t, a1, a2⟩ := h.ok
  refine ⟨fun z => pur_n h.pur z, _, pe_tup a1, fun G H0 pin ow σ H as r as' Q S hm k => ?_⟩
  obtain ⟨xs, as1, q1, q⟩ := bind_some hm
  obtain ⟨q2, rfl⟩ := opt_some q
  unfold fTup at q2
  split at q2
  · rename_i hz
    cases q2
    refine a2 G H0 pin ow σ H as xs as' _ S q1 fun vs H1 ow1 st sm S1 lv => ?_
    have lv' := dpa_of lv
    refine ⟨by rw [dpa_len lv']; exact Nat.le_trans hz (by decide), fun b hb => ?_⟩
    refine fin_o S1 st sm (fun c x e => by rw [upd_ne (ne_of_none e hb)]; exact e) (v := .ref b) (res := .val (.tuple xs)) ?_ k
    exact Dp.tup (SqT.of (by unfold gr; rw [if_pos hb]; exact upd_same)) (dpaM (gr_sub S1.hd) _ _ lv')
  · cases q2
theorem ef_lst {es : List Expr} {ms : M (List PD)} (h : EA X p .D es ms) : EF X p (.List es pos) (mN fLst ms) := by
  obtain ⟨t, a1, a2⟩ := h.ok
  refine ⟨fun z => pur_n h.pur z, _, pe_lst a1, fun G H0 pin ow σ H as r as' Q S hm k => ?_⟩
  obtain ⟨xs, as1, q1, q⟩ := bind_some hm
  obtain ⟨q2, rfl⟩ := opt_some q
  unfold fLst at q2
  split at q2
  · rename_i hz
    cases q2
    refine a2 G H0 pin ow σ H as xs as' _ S q1 fun vs H1 ow1 st sm S1 lv => ?_
    have lv' := dpa_of lv
    refine ⟨by rw [dpa_len lv']; exact Nat.le_trans hz (by decide), fun b hb => ?_⟩
    refine fin_o S1 st sm (fun c x e => by rw [upd_ne (ne_of_none e hb)]; exact e) (v := .ref b) (res := .obj (.ol xs)) ?_ k
    exact ⟨b, rfl, hb, vs, upd_same, dpaM (rm_sub S1.hd hb) _ _ lv'⟩
  · cases q2

/-! ### calls of what is built in -/
theorem paired_map {α β : Type} {F G : α → β → Prop} {l : List α} {m : List β} (h : Paired F l m) (k : ∀ a b, F a b → G a b) : Paired G l m := Paired.mapP h k
theorem ef_callB {id : String} {r : List V → Hp → VK → Prop} {f : List PD → Option Res} {x : Str} {q : Pos} {e : Expr} {es : List Expr} {ms : M (List PD)} (hc : CallR X (.builtin id) r) (hr : RnO X.K r f) (hm : X.mg x = none) (hv : bootBuiltins x = some (.builtin id)) (ha : EA X p l (e :: es) ms)
    (hg : Gl X x := by rfl) (hl : l ≠ .B := by nofun) (hn : x ≠ "__name__" := by decide) (hdb : (x == ("__debug__" : Str)) = false := by decide)
    (h3 : starEach (e :: es) X.env = (false, eval e X.env) :: starEach es X.env := by rfl) (h4 : (backTo pos (starEach es X.env)).any (·.1) = false := by rfl) : EF X p (.Call (.Name x q) (e :: es) [] pos) (mN f ms) := by
  obtain ⟨t, a1, a2⟩ := ha.ok
  refine ⟨fun z => pur_n ha.pur z, _, pe_callB hc hg hm hv a1 hn hdb h3 h4, fun G H0 pin ow σ H as r as' Q S hm k => ?_⟩
  obtain ⟨xs, as1, q1, q⟩ := bind_some hm
  obtain ⟨q2, rfl⟩ := opt_some q
  refine a2 G H0 pin ow σ H as xs as' _ S q1 fun vs H1 ow1 st sm S1 lv => ?_
  exact hr _ _ _ _ _ S1.hd (paired_map lv fun _ _ h => lv_it S1.hd hl h) q2 _ fun z H2 s2 okr => fin_o S1 st sm s2 okr k
theorem ef_callTy {id : String} {r : List V → Hp → VK → Prop} {f : List PD → Option Res} {x : Str} {q : Pos} {e : Expr} {es : List Expr} {ms : M (List PD)} (hc : CallR X (.type id) r) (hr : RnO X.K r f) (hm : X.mg x = none) (hv : bootBuiltins x = some (.type id)) (ha : EA X p l (e :: es) ms)
    (hg : Gl X x := by rfl) (hl : l ≠ .B := by nofun) (hn : x ≠ "__name__" := by decide) (hdb : (x == ("__debug__" : Str)) = false := by decide)
    (h3 : starEach (e :: es) X.env = (false, eval e X.env) :: starEach es X.env := by rfl) (h4 : (backTo pos (starEach es X.env)).any (·.1) = false := by rfl) : EF X p (.Call (.Name x q) (e :: es) [] pos) (mN f ms) := by
  obtain ⟨t, a1, a2⟩ := ha.ok
  refine ⟨fun z => pur_n ha.pur z, _, pe_callTy hc hg hm hv a1 hn hdb h3 h4, fun G H0 pin ow σ H as r as' Q S hm k => ?_⟩
  obtain ⟨xs, as1, q1, q⟩ := bind_some hm
  obtain ⟨q2, rfl⟩ := opt_some q
  refine a2 G H0 pin ow σ H as xs as' _ S q1 fun vs H1 ow1 st sm S1 lv => ?_
  exact hr _ _ _ _ _ S1.hd (paired_map lv fun _ _ h => lv_it S1.hd hl h) q2 _ fun z H2 s2 okr => fin_o S1 st sm s2 okr k
def mS (f : List PD → Option PD) (ms : M (List PD)) : M PD := mBind ms fun xs => mOpt (f xs)
theorem ev_callB {id : String} {r : List V → Hp → VK → Prop} {f : List PD → Option PD} {x : Str} {q : Pos} {e : Expr} {es : List Expr} {ms : M (List PD)} (hc : CallR X (.builtin id) r) (hr : RnS X.K r f) (hm : X.mg x = none) (hv : bootBuiltins x = some (.builtin id)) (ha : EA X p l (e :: es) ms)
    (hg : Gl X x := by rfl) (hn : x ≠ "__name__" := by decide) (hdb : (x == ("__debug__" : Str)) = false := by decide)
    (h3 : starEach (e :: es) X.env = (false, eval e X.env) :: starEach es X.env := by rfl) (h4 : (backTo pos (starEach es X.env)).any (·.1) = false := by rfl) : EV X p .D (.Call (.Name x q) (e :: es) [] pos) (mS f ms) := by
  obtain ⟨t, a1, a2⟩ := ha.ok
  refine ⟨fun z => pur_n ha.pur z, _, pe_callB hc hg hm hv a1 hn hdb h3 h4, fun G H0 pin ow σ H as r as' Q S hm k => ?_⟩
  obtain ⟨xs, as1, q1, q⟩ := bind_some hm
  obtain ⟨q2, rfl⟩ := opt_some q
  refine a2 G H0 pin ow σ H as xs as' _ S q1 fun vs H1 ow1 st sm S1 lv => ?_
  exact hr _ _ _ _ (paired_map lv fun _ _ h => lv_dp S1.hd h) q2 _ fun z H2 s2 okr => fin_s S1 st sm s2 okr k
theorem ev_callTy {id : String} {r : List V → Hp → VK → Prop} {f : List PD → Option PD} {x : Str} {q : Pos} {e : Expr} {es : List Expr} {ms : M (List PD)} (hc : CallR X (.type id) r) (hr : RnS X.K r f) (hm : X.mg x = none) (hv : bootBuiltins x = some (.type id)) (ha : EA X p l (e :: es) ms)
    (hg : Gl X x := by rfl) (hn : x ≠ "__name__" := by decide) (hdb : (x == ("__debug__" : Str)) = false := by decide)
    (h3 : starEach (e :: es) X.env = (false, eval e X.env) :: starEach es X.env := by rfl) (h4 : (backTo pos (starEach es X.env)).any (·.1) = false := by rfl) : EV X p .D (.Call (.Name x q) (e :: es) [] pos) (mS f ms) := by
  obtain ⟨t, a1, a2⟩ := ha.ok
  refine ⟨fun z => pur_n ha.pur z, _, pe_callTy hc hg hm hv a1 hn hdb h3 h4, fun G H0 pin ow σ H as r as' Q S hm k => ?_⟩
  obtain ⟨xs, as1, q1, q⟩ := bind_some hm
  obtain ⟨q2, rfl⟩ := opt_some q
  refine a2 G H0 pin ow σ H as xs as' _ S q1 fun vs H1 ow1 st sm S1 lv => ?_
  exact hr _ _ _ _ (paired_map lv fun _ _ h => lv_dp S1.hd h) q2 _ fun z H2 s2 okr => fin_s S1 st sm s2 okr k

/-! ### calls of defs -/
/-- the promise of a def that changes nothing: from lasting arguments F's answer -/
def SpP (K : Fg) (F : List PD → Option Res) : Sp := fun vs H Q _ => ∃ (G : Hp) (ds : List PD) (res : Res), Same G H ∧ DpAll K G vs ds ∧ F ds = some res ∧ ∀ v H', Same H H' → OkRes K G H H' v res → Q v H'
structure Fn (P : Program) (w : World) (K : Fg) (mg : Str → Option Value) (base : Heap) (k : Nat) (x : Str) (F : List PD → Option Res) : Prop where
  ex : ∃ f fd ps, FnOk P w K mg base CX0 k f fd ps (SpP K F) ∧ mg x = some (.ref f) ∧ PySem.W.keepIn K (.ref f) = true ∧ Binds K fd ps []
theorem ef_call {k : Nat} {F : List PD → Option Res} {x : Str} {q : Pos} {e : Expr} {es : List Expr} {ms : M (List PD)} (hf : Fn X.prog X.w X.K X.mg X.base k x F) (hr : Room k X.A) (ha : EA X p .D (e :: es) ms)
    (hg : Gl X x := by rfl) (hdb : (x == ("__debug__" : Str)) = false := by decide)
    (h3 : starEach (e :: es) X.env = (false, eval e X.env) :: starEach es X.env := by rfl) (h4 : (backTo pos (starEach es X.env)).any (·.1) = false := by rfl) : EF X p (.Call (.Name x q) (e :: es) [] pos) (mN F ms) := by
  obtain ⟨f, fd, ps, ok, hm, kp, b⟩ := hf.ex
  obtain ⟨t, a1, a2⟩ := ha.ok
  refine ⟨fun z => pur_n ha.pur z, _, pe_call ok hr hg hm kp b .nil pass0 a1 hdb h3 h4, fun G H0 pin ow σ H as r as' Q S hm k => ?_⟩
  obtain ⟨xs, as1, q1, q⟩ := bind_some hm
  obtain ⟨q2, rfl⟩ := opt_some q
  refine a2 G H0 pin ow σ H as xs as' _ S q1 fun vs H1 ow1 st sm S1 lv => ?_
  show SpP X.K F (vs ++ []) H1 Q E0
  rw [List.append_nil]
  exact ⟨_, xs, r, S1.hd, dpa_of lv, q2, fun v H2 s2 okr => fin_o S1 st sm s2 okr k⟩

/-! ### tests, and or not, a if t else b -/
theorem et_val {e : Expr} {m : M PD} (h : EV X p l e m) (he : ∀ whole, isTrue e X.env whole = (do let v ← whole; standAt e.pos; holding [v] (truthy v)) := by intro _; rfl) : ET X p e (m1 asB m) := by
  obtain ⟨t, a1, a2⟩ := h.ok
  refine ⟨fun z => pur1 h.pur z, _, pt_val a1 he, fun G H0 pin ow σ H as r as' Q S hm k => ?_⟩
  obtain ⟨x, as1, q1, q⟩ := bind_some hm
  obtain ⟨q2, rfl⟩ := opt_some q
  refine a2 G H0 pin ow σ H as x as' _ S q1 fun v H1 ow1 st sm S1 lv => ?_
  have lv := lv_dp S1.hd lv
  cases x with
  | bool c => cases q2; cases lv; exact ⟨_, rfl, k H1 ow1 st sm S1⟩
  | none => cases q2
  | int _ => cases q2
  | str _ => cases q2
  | list _ => cases q2
  | tuple _ => cases q2
  | dict _ => cases q2
structure EW (X : Cx) (p : Bool) (e : Expr) (m : M Bool) : Prop where
  pur : p = true → ∀ as r as', m as = some (r, as') → as' = as
  ok : ∃ t, PW X e t ∧ ∀ (G H0 : Hp) (pin : Nat → Addr) (ow : Ow) (σ : L2.St) (H : Hp) (as : AS) (r : Bool) (as' : AS) (Q : Bool → Hp → Prop), SR X.K G H0 pin ow σ H as → m as = some (r, as') →
    (∀ H' ow', Stp G H0 ow H ow' H' → (p = true → Same H H') → SR X.K G H0 pin ow' σ H' as' → Q r H') → t σ H Q
theorem EW.t {e : Expr} {m : M Bool} (h : EW X p e m) : ET X p e m := by
  obtain ⟨t, a1, a2⟩ := h.ok
  exact ⟨h.pur, t, a1.pt, a2⟩
def mAnd (m n : M Bool) : M Bool := mBind m fun c => if c = true then n else mPure false
def mOr (m n : M Bool) : M Bool := mBind m fun c => if c = true then mPure true else n
def mNot (m : M Bool) : M Bool := mBind m fun c => mPure !c
variable {a b : Expr} {rest : List Expr} {ma mb : M Bool}
theorem ew_and1 (h : ET X p a ma) : EW X p (.BoolOp .And [a] pos) ma := by
  obtain ⟨t, a1, a2⟩ := h.ok
  exact ⟨h.pur, t, pw_and1 a1, a2⟩
theorem ew_or1 (h : ET X p a ma) : EW X p (.BoolOp .Or [a] pos) ma := by
  obtain ⟨t, a1, a2⟩ := h.ok
  exact ⟨h.pur, t, pw_or1 a1, a2⟩
theorem pur_and (h1 : p1 = true → ∀ as r as', ma as = some (r, as') → as' = as) (h2 : p2 = true → ∀ as r as', mb as = some (r, as') → as' = as) (z : (p1 && p2) = true) (as : AS) (r : Bool) (as' : AS) (h : mAnd ma mb as = some (r, as')) : as' = as := by
  have z' : p1 = true ∧ p2 = true := by simpa using z
  obtain ⟨c, as1, q1, q⟩ := bind_some h
  cases c with
  | true => exact (h2 z'.2 _ _ _ q).trans (h1 z'.1 _ _ _ q1)
  | false => exact (pure_some q).2.trans (h1 z'.1 _ _ _ q1)
theorem pur_or (h1 : p1 = true → ∀ as r as', ma as = some (r, as') → as' = as) (h2 : p2 = true → ∀ as r as', mb as = some (r, as') → as' = as) (z : (p1 && p2) = true) (as : AS) (r : Bool) (as' : AS) (h : mOr ma mb as = some (r, as')) : as' = as := by
  have z' : p1 = true ∧ p2 = true := by simpa using z
  obtain ⟨c, as1, q1, q⟩ := bind_some h
  cases c with
  | false => exact (h2 z'.2 _ _ _ q).trans (h1 z'.1 _ _ _ q1)
  | true => exact (pure_some q).2.trans (h1 z'.1 _ _ _ q1)
theorem ew_and (ha : ET X p1 a ma) (hb : EW X p2 (.BoolOp .And (b :: rest) pos) mb) : EW X (p1 && p2) (.BoolOp .And (a :: b :: rest) pos) (mAnd ma mb) := by
  obtain ⟨ta, a1, a2⟩ := ha.ok
  obtain ⟨tb, b1, b2⟩ := hb.ok
  refine ⟨fun z => pur_and ha.pur hb.pur z, _, pw_and a1 b1, fun G H0 pin ow σ H as r as' Q S hm k => ?_⟩
  obtain ⟨c, as1, q1, q⟩ := bind_some hm
  refine a2 G H0 pin ow σ H as c as1 _ S q1 fun H1 ow1 st1 sm1 S1 => ?_
  cases c with
  | true =>
    refine iteT (b2 G H0 pin ow1 σ H1 as1 r as' Q S1 q fun H2 ow2 st2 sm2 S2 => k H2 ow2 (st1.trans st2) (fun z => ?_) S2)
    have z' : p1 = true ∧ p2 = true := by simpa using z
    exact (sm1 z'.1).trans (sm2 z'.2)
  | false =>
    obtain ⟨rfl, rfl⟩ := pure_some q
    refine iteF (k H1 ow1 st1 (fun z => ?_) S1)
    have z' : p1 = true ∧ p2 = true := by simpa using z
    exact sm1 z'.1
theorem ew_or (ha : ET X p1 a ma) (hb : EW X p2 (.BoolOp .Or (b :: rest) pos) mb) : EW X (p1 && p2) (.BoolOp .Or (a :: b :: rest) pos) (mOr ma mb) := by
  obtain ⟨ta, a1, a2⟩ := ha.ok
  obtain ⟨tb, b1, b2⟩ := hb.ok
  refine ⟨fun z => pur_or ha.pur hb.pur z, _, pw_or a1 b1, fun G H0 pin ow σ H as r as' Q S hm k => ?_⟩
  obtain ⟨c, as1, q1, q⟩ := bind_some hm
  refine a2 G H0 pin ow σ H as c as1 _ S q1 fun H1 ow1 st1 sm1 S1 => ?_
  cases c with
  | false =>
    refine iteF (b2 G H0 pin ow1 σ H1 as1 r as' Q S1 q fun H2 ow2 st2 sm2 S2 => k H2 ow2 (st1.trans st2) (fun z => ?_) S2)
    have z' : p1 = true ∧ p2 = true := by simpa using z
    exact (sm1 z'.1).trans (sm2 z'.2)
  | true =>
    obtain ⟨rfl, rfl⟩ := pure_some q
    refine iteT (k H1 ow1 st1 (fun z => ?_) S1)
    have z' : p1 = true ∧ p2 = true := by simpa using z
    exact sm1 z'.1
theorem et_not (ha : ET X p a ma) : ET X p (.UnaryOp .Not a pos) (mNot ma) := by
  obtain ⟨ta, a1, a2⟩ := ha.ok
  refine ⟨fun z as r as' h => ?_, _, pt_not a1, fun G H0 pin ow σ H as r as' Q S hm k => ?_⟩
  · obtain ⟨c, as1, q1, q⟩ := bind_some h
    exact (pure_some q).2.trans (ha.pur z _ _ _ q1)
  · obtain ⟨c, as1, q1, q⟩ := bind_some hm
    obtain ⟨rfl, rfl⟩ := pure_some q
    exact a2 G H0 pin ow σ H as c as' _ S q1 fun H1 ow1 st1 sm1 S1 => k H1 ow1 st1 sm1 S1
end
end Vl

-- V4
set_option Elab.async false
set_option linter.all false
set_option maxRecDepth 100000
set_option maxHeartbeats 4000000
namespace Vl
open PySem L2

theorem paired_at {α β : Type} {F : α → β → Prop} {l : List α} {m : List β} (h : Paired F l m) : ∀ (i : Nat) (h1 : i < l.length) (h2 : i < m.length), F l[i] m[i] := by
  induction h with
  | nil => intro i h1 h2; exact absurd h1 (by simp)
  | cons h t ih =>
    intro i h1 h2
    cases i with
    | zero => exact h
    | succ i => exact ih i (by simpa using h1) (by simpa using h2)
theorem paired_snoc {α β : Type} {F : α → β → Prop} {l : List α} {m : List β} {a : α} {b : β} (h : Paired F l m) (q : F a b) : Paired F (l ++ [a]) (m ++ [b]) := by
  induction h with
  | nil => exact .cons q .nil
  | cons h t ih => exact .cons h ih
/-! ### slots set anew -/
def drop (ow : Ow) (i : Nat) : Ow := fun b => if ow b = some (some i) then none else ow b
theorem drop_none {ow : Ow} {i : Nat} {b : Addr} (h : ow b = none) : drop ow i b = none := by
  unfold drop; rw [h]; simp
theorem drop_ne {ow : Ow} {i : Nat} {b : Addr} (h : ow b ≠ some (some i)) : drop ow i b = ow b := by
  unfold drop; rw [if_neg h]
theorem drop_eq {ow : Ow} {i : Nat} {b : Addr} (h : ow b = some (some i)) : drop ow i b = none := by
  unfold drop; rw [if_pos h]
section
variable {K : Fg} {G H0 H H' : Hp} {pin : Nat → Addr} {ow ow' : Ow} {σ : L2.St} {as : AS} {i : Nat}
theorem SR.drop (S : SR K G H0 pin ow σ H as) (z : Option V) : SR K G H0 pin (drop ow i) (σ.set i z) H (as.set i .un) ∧ Stp G H0 ow H (Vl.drop ow i) H := by
  have hs : Same (Hd ow G H0 H) (Hd (Vl.drop ow i) G H0 H) := fun b x e => by
    have hb : ow b = none := by
      cases q : ow b with
      | none => rfl
      | some o => rw [hd_free (by rw [q]; exact nofun)] at e; cases e
    rw [hd_own hb] at e
    rw [hd_own (drop_none hb)]; exact e
  refine ⟨⟨by rw [List.length_set, List.length_set]; exact S.len, fun b x e => ?_, S.same, S.sub, fun j t h => ?_⟩, hs, fun b e => ?_, fun _ h => h⟩
  · by_cases q : ow b = some (some i)
    · rw [drop_eq q] at e; cases e
    · rw [drop_ne q] at e; exact S.own b x e
  · by_cases hj : i = j
    · subst hj
      by_cases hl : i < as.length
      · rw [List.getElem?_set_self hl] at h
        cases h; trivial
      · rw [List.getElem?_eq_none (by rw [List.length_set]; omega)] at h; cases h
    · rw [List.getElem?_set_ne hj] at h
      rw [List.getElem?_set_ne hj]
      refine slotM hs (fun b w => ⟨?_, rfl⟩) (S.slot j t h)
      rw [drop_ne (fun q => hj (Option.some.inj (Option.some.inj (q.symm.trans w))))]; exact w
  · refine ⟨?_, rfl⟩
    rw [drop_ne (by rw [e]; intro q; cases q)]; exact e
/-- only slot i is told anew -/
theorem SR.tell (S : SR K G H0 pin ow σ H as) {s : Slot} (hs : i < as.length → SlotR K (Hd ow G H0 H) H ow pin i (σ[i]?) s) : SR K G H0 pin ow σ H (as.set i s) := by
  refine ⟨by rw [List.length_set]; exact S.len, S.own, S.same, S.sub, fun j t h => ?_⟩
  by_cases hj : i = j
  · subst hj
    by_cases hl : i < as.length
    · rw [List.getElem?_set_self hl] at h
      cases h; exact hs hl
    · rw [List.getElem?_eq_none (by rw [List.length_set]; omega)] at h; cases h
  · rw [List.getElem?_set_ne hj] at h
    exact S.slot j t h
theorem SR.setD (S : SR K G H0 pin ow σ H as) {v : V} {d : PD} (h : Dp K (Hd ow G H0 H) v d) : SR K G H0 pin (Vl.drop ow i) (σ.set i (some v)) H (as.set i (.dur d)) ∧ Stp G H0 ow H (Vl.drop ow i) H := by
  obtain ⟨S1, st⟩ := S.drop (i := i) (some v)
  refine ⟨?_, st⟩
  have S2 := S1.tell (i := i) (s := .dur d) fun hl => ⟨v, List.getElem?_set_self (by rw [List.length_set, S.len] at hl; exact hl), dpM st.dur _ _ h⟩
  rw [List.set_set] at S2; exact S2
theorem SR.setO (S : SR K G H0 pin ow σ H as) {a : Addr} {o : Obj} (w : ow a = some none) (h : ObjAt K (Hd ow G H0 H) H a o) : SR K G H0 pin (put (Vl.drop ow i) a (some (some i))) (σ.set i (some (.ref a))) H (as.set i (.own o)) ∧ Same (Hd ow G H0 H) (Hd (put (Vl.drop ow i) a (some (some i))) G H0 H) := by
  obtain ⟨S1, st⟩ := S.drop (i := i) (some (.ref a))
  have w1 : Vl.drop ow i a = some none := by rw [drop_ne (by rw [w]; intro q; cases q)]; exact w
  have hs : Same (Hd (Vl.drop ow i) G H0 H) (Hd (put (Vl.drop ow i) a (some (some i))) G H0 H) := fun b x e => by
    have hb : b ≠ a := fun q => by
      subst q
      rw [hd_free (by rw [w1]; exact nofun)] at e; cases e
    unfold Hd at e ⊢
    rw [put_ne hb]; exact e
  refine ⟨⟨by rw [List.length_set, List.length_set]; exact S.len, fun b x e => ?_, S.same, S.sub, fun j t h2 => ?_⟩, st.dur.trans hs⟩
  · by_cases q : b = a
    · subst q; exact S.own b _ w
    · rw [put_ne q] at e; exact S1.own b x e
  · by_cases hj : i = j
    · subst hj
      by_cases hl : i < as.length
      · rw [List.getElem?_set_self hl] at h2
        cases h2
        exact ⟨a, List.getElem?_set_self (by rw [← S.len]; exact hl), put_same, objM (st.dur.trans hs) rfl h⟩
      · rw [List.getElem?_eq_none (by rw [List.length_set]; omega)] at h2; cases h2
    · have h3 := S1.slot j t (by rw [List.getElem?_set_ne hj] at h2 ⊢; exact h2)
      refine slotM hs (fun b wb => ⟨?_, rfl⟩) h3
      have hb : b ≠ a := fun q => by subst q; rw [w1] at wb; cases wb
      rw [put_ne hb]; exact wb
/-- an object that is owned is changed in its place -/
theorem SR.write (S : SR K G H0 pin ow σ H as) {a : Addr} {u : HO} (w : ow a ≠ none) (s : ∀ j t, as[j]? = some t → (ow a = some (some j) → SlotR K (Hd ow G H0 H) (upd H a u) ow pin j (σ[j]?) t)) :
    SR K G H0 pin ow σ (upd H a u) as ∧ Same (Hd ow G H0 H) (Hd ow G H0 (upd H a u)) := by
  have h0 : H0 a = none := by
    cases q : ow a with
    | none => exact absurd q w
    | some o => exact (S.own a o q).1
  have hs : Same (Hd ow G H0 H) (Hd ow G H0 (upd H a u)) := fun b x e => by
    have hb : b ≠ a := fun q => by subst q; rw [hd_free w] at e; cases e
    unfold Hd at e ⊢
    rw [upd_ne hb]; exact e
  refine ⟨⟨S.len, fun b x e => ⟨(S.own b x e).1, ?_⟩, fun b x e => ?_, S.sub, fun j t h => ?_⟩, hs⟩
  · by_cases q : b = a
    · subst q; rw [upd_same]; exact nofun
    · rw [upd_ne q]; exact (S.own b x e).2
  · rw [upd_ne (ne_of_none e h0)]; exact S.same b x e
  · by_cases q : ow a = some (some j)
    · exact slotM hs (fun b wb => ⟨wb, rfl⟩) (s j t h q)
    · refine slotM hs (fun b wb => ⟨wb, upd_ne fun e => ?_⟩) (S.slot j t h)
      subst e; exact q wb
end

/-! ### targets -/
/-- a target of names alone: the slots is, from a lasting value -/
structure EG (X : Cx) (tg : Expr) (is : List Nat) (g : PD → AS → Option AS) : Prop where
  ok : ∃ t, PG X tg t ∧ ∀ (G H0 : Hp) (pin : Nat → Addr) (ow : Ow) (σ : L2.St) (H : Hp) (as : AS) (v : V) (d : PD) (as' : AS) (Q : L2.St → Hp → Prop), SR X.K G H0 pin ow σ H as → Dp X.K (Hd ow G H0 H) v d → g d as = some as' →
    (∀ σ' ow', Stp G H0 ow H ow' H → SR X.K G H0 pin ow' σ' H as' → σ'.length = σ.length → (∀ j, j ∉ is → σ'[j]? = σ[j]?) → Q σ' H) → t v σ H Q
  loc : ∀ d as as', g d as = some as' → as'.length = as.length ∧ ∀ j, j ∉ is → as'[j]? = as[j]?
def gN (i : Nat) : PD → AS → Option AS := fun d as => match as[i]? with
  | some (.io _) => none
  | none => none
  | _ => some (as.set i (.dur d))
theorem gN_some {i : Nat} {d : PD} {as as' : AS} (h : gN i d as = some as') : as' = as.set i (.dur d) := by
  unfold gN at h
  split at h
  · cases h
  · cases h
  · cases h; rfl
section
variable {X : Cx} {pos : Pos} {p p1 p2 : Bool} {l : Lv}
theorem eg_n {i : Nat} {x : Str} (hN : X.N.Nodup) (hi : X.N[i]? = some x := by rfl) (hx : L2.Loc X.env.scope x := by first | exact Or.inl rfl | exact Or.inr rfl) (hf : X.fn x = true ∨ X.env.scope.names.lookup x = some .local := by first | exact .inl rfl | exact .inr rfl) : EG X (.Name x pos) [i] (gN i) := by
  refine ⟨⟨_, pg_name hN hi hx hf, fun G H0 pin ow σ H as v d as' Q S hd hg k => ?_⟩, fun d as as' h => ?_⟩
  · have e := gN_some hg
    subst e
    obtain ⟨S', st⟩ := S.setD (i := i) hd
    refine k _ _ st S' (by rw [List.length_set]) fun j hj => ?_
    rw [List.getElem?_set_ne (fun e => hj (by rw [e]; exact List.mem_singleton.mpr rfl))]
  · have e := gN_some h
    subst e
    refine ⟨by rw [List.length_set], fun j hj => ?_⟩
    rw [List.getElem?_set_ne (fun e => hj (by rw [e]; exact List.mem_singleton.mpr rfl))]
structure EGs (X : Cx) (ts : List Expr) (is : List Nat) (n : Nat) (g : List PD → AS → Option AS) : Prop where
  ok : ∃ t, PGs X ts t ∧ ∀ (G H0 : Hp) (pin : Nat → Addr) (ow : Ow) (σ : L2.St) (H : Hp) (as : AS) (vs : List V) (ds : List PD) (as' : AS) (Q : L2.St → Hp → Prop), SR X.K G H0 pin ow σ H as → DpAll X.K (Hd ow G H0 H) vs ds → g ds as = some as' →
    (∀ σ' ow', Stp G H0 ow H ow' H → SR X.K G H0 pin ow' σ' H as' → σ'.length = σ.length → (∀ j, j ∉ is → σ'[j]? = σ[j]?) → Q σ' H) → t vs σ H Q
  len : ∀ ds as as', g ds as = some as' → ds.length = n
  loc : ∀ ds as as', g ds as = some as' → as'.length = as.length ∧ ∀ j, j ∉ is → as'[j]? = as[j]?
def gNil : List PD → AS → Option AS := fun ds as => match ds with
  | [] => some as
  | _ :: _ => none
def gCons (g : PD → AS → Option AS) (gs : List PD → AS → Option AS) : List PD → AS → Option AS := fun ds as => match ds with
  | [] => none
  | d :: r => match g d as with
    | none => none
    | some as1 => gs r as1
theorem egs_nil : EGs X [] [] 0 gNil := by
  refine ⟨⟨_, pgs_nil, fun G H0 pin ow σ H as vs ds as' Q S hd hg k => ?_⟩, fun ds as as' h => ?_, fun ds as as' h => ?_⟩
  · cases ds with
    | nil =>
      cases hg
      cases hd
      exact ⟨rfl, k σ ow Stp.refl S rfl fun _ _ => rfl⟩
    | cons _ _ => cases hg
  · cases ds with
    | nil => rfl
    | cons _ _ => cases h
  · cases ds with
    | nil => cases h; exact ⟨rfl, fun _ _ => rfl⟩
    | cons _ _ => cases h
theorem egs_cons {e : Expr} {es : List Expr} {is js : List Nat} {n : Nat} {g : PD → AS → Option AS} {gs : List PD → AS → Option AS} (h1 : EG X e is g) (h2 : EGs X es js n gs)
    (hs : List.map (fun x => x.2) (assignEach (e :: es) X.env) = assign e X.env :: List.map (fun x => x.2) (assignEach es X.env) := by rfl) : EGs X (e :: es) (is ++ js) (n + 1) (gCons g gs) := by
  obtain ⟨t, a1, a2⟩ := h1.ok
  obtain ⟨u, b1, b2⟩ := h2.ok
  refine ⟨⟨_, pgs_cons a1 b1 hs, fun G H0 pin ow σ H as vs ds as' Q S hd hg k => ?_⟩, fun ds as as' h => ?_, fun ds as as' h => ?_⟩
  · cases hd with
    | nil => cases hg
    | @cons v vs d ds q r =>
      cases hg1 : g d as with
      | none => unfold gCons at hg; simp only [hg1] at hg; cases hg
      | some as1 =>
        have hg : gs ds as1 = some as' := by unfold gCons at hg; simp only [hg1] at hg; exact hg
        refine ⟨v, vs, rfl, ?_⟩
        refine a2 G H0 pin ow σ H as v d as1 _ S q hg1 fun σ1 ow1 st1 S1 l1 o1 => ?_
        refine b2 G H0 pin ow1 σ1 H as1 vs ds as' _ S1 (dpaM st1.dur _ _ r) hg fun σ2 ow2 st2 S2 l2 o2 => ?_
        refine k σ2 ow2 (st1.trans st2) S2 (l2.trans l1) fun j hj => ?_
        rw [o2 j (fun z => hj (List.mem_append_right _ z)), o1 j (fun z => hj (List.mem_append_left _ z))]
  · cases ds with
    | nil => cases h
    | cons d r =>
      cases hg1 : g d as with
      | none => unfold gCons at h; simp only [hg1] at h; cases h
      | some as1 =>
        have h : gs r as1 = some as' := by unfold gCons at h; simp only [hg1] at h; exact h
        rw [List.length_cons, h2.len _ _ _ h]
  · cases ds with
    | nil => cases h
    | cons d r =>
      cases hg1 : g d as with
      | none => unfold gCons at h; simp only [hg1] at h; cases h
      | some as1 =>
        have h : gs r as1 = some as' := by unfold gCons at h; simp only [hg1] at h; exact h
        obtain ⟨l1, o1⟩ := h1.loc _ _ _ hg1
        obtain ⟨l2, o2⟩ := h2.loc _ _ _ h
        refine ⟨l2.trans l1, fun j hj => ?_⟩
        rw [o2 j (fun z => hj (List.mem_append_right _ z)), o1 j (fun z => hj (List.mem_append_left _ z))]
def gT (gs : List PD → AS → Option AS) : PD → AS → Option AS := fun d as => match d with
  | .tuple ds => gs ds as
  | _ => none
theorem eg_tup {es : List Expr} {k : Nat} {is : List Nat} {n : Nat} {gs : List PD → AS → Option AS} (hc : X.calm = true) (h : EGs X es is n gs) (h1 : (assignEach es X.env).length = n := by rfl) (h2 : List.findIdx? (fun x => x.1) (assignEach es X.env) = none := by rfl) : EG X (.Tuple es k pos) is (gT gs) := by
  obtain ⟨t, a1, a2⟩ := h.ok
  refine ⟨⟨_, pg_tup hc a1 h1 h2, fun G H0 pin ow σ H as v d as' Q S hd hg k => ?_⟩, fun d as as' hg => ?_⟩
  · cases d with
    | tuple ds =>
      cases hd with
      | @tup a xs _ q r =>
        refine ⟨a, xs, rfl, sqtM S.hd q, ?_, a2 G H0 pin ow σ H as xs ds as' Q S r hg k⟩
        rw [dpa_len r]; exact h.len _ _ _ hg
    | none => cases hg
    | bool _ => cases hg
    | int _ => cases hg
    | str _ => cases hg
    | list _ => cases hg
    | dict _ => cases hg
  · cases d with
    | tuple ds => exact h.loc ds as as' hg
    | none => cases hg
    | bool _ => cases hg
    | int _ => cases hg
    | str _ => cases hg
    | list _ => cases hg
    | dict _ => cases hg

/-! ### statements -/
inductive Ctl where
  | nx | bk | ct | rt (r : Res)
abbrev MS := AS → Option (Ctl × AS)
def RtR (K : Fg) (G H0 : Hp) (ow : Ow) (H : Hp) (v : V) : Res → Prop
  | .val d => Dp K (Hd ow G H0 H) v d
  | .obj o => ∃ a, v = .ref a ∧ ow a = some none ∧ ObjAt K (Hd ow G H0 H) H a o
def DR (K : Fg) (G H0 : Hp) (pin : Nat → Addr) (ow : Ow) (H : Hp) (D : Ends) (c : Ctl) (as' : AS) : Prop := match c with
  | .nx => ∀ σ' H' ow', Same (Hd ow G H0 H) (Hd ow' G H0 H') → SR K G H0 pin ow' σ' H' as' → D.nx σ' H'
  | .bk => ∀ σ' H' ow', Same (Hd ow G H0 H) (Hd ow' G H0 H') → SR K G H0 pin ow' σ' H' as' → D.bk σ' H'
  | .ct => ∀ σ' H' ow', Same (Hd ow G H0 H) (Hd ow' G H0 H') → SR K G H0 pin ow' σ' H' as' → D.ct σ' H'
  | .rt r => ∀ v σ' H' ow', Same (Hd ow G H0 H) (Hd ow' G H0 H') → SR K G H0 pin ow' σ' H' as' → RtR K G H0 ow' H' v r → D.rt v H'
theorem DR.mono {K : Fg} {G H0 : Hp} {pin : Nat → Addr} {ow ow1 : Ow} {H H1 : Hp} {D : Ends} {c : Ctl} {as' : AS} (s : Same (Hd ow G H0 H) (Hd ow1 G H0 H1)) (h : DR K G H0 pin ow H D c as') : DR K G H0 pin ow1 H1 D c as' := by
  cases c with
  | nx => exact fun σ' H' ow' s' S' => h σ' H' ow' (s.trans s') S'
  | bk => exact fun σ' H' ow' s' S' => h σ' H' ow' (s.trans s') S'
  | ct => exact fun σ' H' ow' s' S' => h σ' H' ow' (s.trans s') S'
  | rt r => exact fun v σ' H' ow' s' S' => h v σ' H' ow' (s.trans s') S'
structure ES (X : Cx) (st : Stmt) (m : MS) : Prop where
  ok : ∃ t, PS X st t ∧ ∀ (G H0 : Hp) (pin : Nat → Addr) (ow : Ow) (σ : L2.St) (H : Hp) (as : AS) (c : Ctl) (as' : AS) (D : Ends), SR X.K G H0 pin ow σ H as → m as = some (c, as') → DR X.K G H0 pin ow H D c as' → t D σ H
structure ESs (X : Cx) (st : List Stmt) (m : MS) : Prop where
  ok : ∃ t, PSs X st t ∧ ∀ (G H0 : Hp) (pin : Nat → Addr) (ow : Ow) (σ : L2.St) (H : Hp) (as : AS) (c : Ctl) (as' : AS) (D : Ends), SR X.K G H0 pin ow σ H as → m as = some (c, as') → DR X.K G H0 pin ow H D c as' → t D σ H
def sNx : MS := fun as => some (.nx, as)
def sThen (m n : MS) : MS := fun as => match m as with
  | none => none
  | some (.nx, as1) => n as1
  | some (c, as1) => some (c, as1)
theorem ess_nil : ESs X [] sNx := by
  refine ⟨_, pss_nil, fun G H0 pin ow σ H as c as' D S hm k => ?_⟩
  cases hm
  exact k σ H ow (Same.refl _) S
theorem ess_one {st : Stmt} {m : MS} (h : ES X st m) : ESs X [st] m := by
  obtain ⟨t, a1, a2⟩ := h.ok
  exact ⟨t, pss_one a1, a2⟩
theorem ess_cons {st : Stmt} {rest : List Stmt} {m n : MS} (h1 : ES X st m) (h2 : ESs X rest n) : ESs X (st :: rest) (sThen m n) := by
  obtain ⟨t, a1, a2⟩ := h1.ok
  obtain ⟨u, b1, b2⟩ := h2.ok
  refine ⟨_, pss_cons a1 b1, fun G H0 pin ow σ H as c as' D S hm k => ?_⟩
  cases e : m as with
  | none => unfold sThen at hm; simp only [e] at hm; cases hm
  | some z =>
    obtain ⟨c1, as1⟩ := z
    have hd : DR X.K G H0 pin ow H { D with nx := u D } c1 as1 := by
      cases c1 with
      | nx =>
        have hm : n as1 = some (c, as') := by unfold sThen at hm; simp only [e] at hm; exact hm
        exact fun σ' H' ow' s' S' => b2 G H0 pin ow' σ' H' as1 c as' D S' hm (k.mono s')
      | bk =>
        have hm : some (Ctl.bk, as1) = some (c, as') := by unfold sThen at hm; simp only [e] at hm; exact hm
        cases hm; exact k
      | ct =>
        have hm : some (Ctl.ct, as1) = some (c, as') := by unfold sThen at hm; simp only [e] at hm; exact hm
        cases hm; exact k
      | rt r =>
        have hm : some (Ctl.rt r, as1) = some (c, as') := by unfold sThen at hm; simp only [e] at hm; exact hm
        cases hm; exact k
    exact a2 G H0 pin ow σ H as c1 as1 { D with nx := u D } S e hd
theorem es_pass : ES X (.Pass pos) sNx := by
  refine ⟨_, ps_pass, fun G H0 pin ow σ H as c as' D S hm k => ?_⟩
  cases hm
  exact k σ H ow (Same.refl _) S
def sBk : MS := fun as => some (.bk, as)
def sCt : MS := fun as => some (.ct, as)
theorem es_break : ES X (.Break pos) sBk := by
  refine ⟨_, ps_break, fun G H0 pin ow σ H as c as' D S hm k => ?_⟩
  cases hm
  exact k σ H ow (Same.refl _) S
theorem es_continue : ES X (.Continue pos) sCt := by
  refine ⟨_, ps_continue, fun G H0 pin ow σ H as c as' D S hm k => ?_⟩
  cases hm
  exact k σ H ow (Same.refl _) S
/-- x = e -/
def sSet (i : Nat) (m : M Res) : MS := fun as => match m as with
  | none => none
  | some (r, as1) => match as1[i]? with
    | some (.io _) => none
    | none => none
    | _ => some (.nx, as1.set i (match r with | .val d => .dur d | .obj o => .own o))
theorem es_set {i : Nat} {x : Str} {e : Expr} {m : M Res} {pos' : Pos} (hN : X.N.Nodup) (he : EF X p e m) (hi : X.N[i]? = some x := by rfl) (hx : L2.Loc X.env.scope x := by first | exact Or.inl rfl | exact Or.inr rfl)
    (hs : swapsWith e (some (.Name x pos')) pos.line X.env = pure false := by rfl) (hf : X.fn x = true ∨ X.env.scope.names.lookup x = some .local := by first | exact .inl rfl | exact .inr rfl) : ES X (.Assign [.Name x pos'] e pos) (sSet i m) := by
  obtain ⟨t, a1, a2⟩ := he.ok
  refine ⟨_, ps_set hN hi hx a1 hs hf, fun G H0 pin ow σ H as c as' D S hm k => ?_⟩
  unfold sSet at hm
  split at hm
  · cases hm
  · rename_i r as1 q
    refine a2 G H0 pin ow σ H as r as1 _ S q fun v H1 ow1 st sm S1 fr => ?_
    split at hm
    · cases hm
    · cases hm
    · cases hm
      cases r with
      | val d =>
        obtain ⟨S2, st2⟩ := S1.setD (i := i) fr
        exact k _ _ _ (st.dur.trans st2.dur) S2
      | obj o =>
        obtain ⟨a, rfl, w, w1, ob⟩ := fr
        obtain ⟨S2, s2⟩ := S1.setO (i := i) w1 ob
        exact k _ _ _ (st.dur.trans s2) S2
/-- x, y = e; a target of names -/
def sAsg (g : PD → AS → Option AS) (m : M PD) : MS := fun as => match m as with
  | none => none
  | some (d, as1) => match g d as1 with
    | none => none
    | some as2 => some (.nx, as2)
theorem es_asg {tg e : Expr} {is : List Nat} {g : PD → AS → Option AS} {m : M PD} (he : EV X p .D e m) (hg : EG X tg is g) (hs : swapsWithSole [tg] e pos.line X.env = pure false := by rfl) (hw : swappedStores [tg] e X.env = pure none := by rfl)
    (h3 : List.map (fun x => x.2) (assignEach [tg] X.env) = [assign tg X.env] := by rfl) : ES X (.Assign [tg] e pos) (sAsg g m) := by
  obtain ⟨t, a1, a2⟩ := he.ok
  obtain ⟨u, b1, b2⟩ := hg.ok
  refine ⟨_, ps_asg a1 b1 hs hw h3, fun G H0 pin ow σ H as c as' D S hm k => ?_⟩
  unfold sAsg at hm
  split at hm
  · cases hm
  · rename_i d as1 q
    refine a2 G H0 pin ow σ H as d as1 _ S q fun v H1 ow1 st sm S1 lv => ?_
    split at hm
    · cases hm
    · rename_i as2 q2
      cases hm
      exact b2 G H0 pin ow1 σ H1 as1 v d _ _ S1 lv q2 fun σ2 ow2 st2 S2 _ _ => k _ _ _ (st.dur.trans st2.dur) S2
/-- e alone; return e -/
def sDrop {α : Type} (m : M α) : MS := fun as => match m as with
  | none => none
  | some (_, as1) => some (.nx, as1)
theorem es_expr {e : Expr} {m : M PD} (he : EV X p l e m) (hs : swapsWith e none pos.line X.env = pure false := by rfl) : ES X (.Expr e pos) (sDrop m) := by
  obtain ⟨t, a1, a2⟩ := he.ok
  refine ⟨_, ps_expr a1 hs, fun G H0 pin ow σ H as c as' D S hm k => ?_⟩
  unfold sDrop at hm
  split at hm
  · cases hm
  · rename_i d as1 q
    cases hm
    exact a2 G H0 pin ow σ H as d _ _ S q fun v H1 ow1 st sm S1 lv => k _ _ _ st.dur S1
def sRet (m : M Res) : MS := fun as => match m as with
  | none => none
  | some (r, as1) => some (.rt r, as1)
theorem es_ret {e : Expr} {m : M Res} (he : EF X p e m) : ES X (.Return (some e) pos) (sRet m) := by
  obtain ⟨t, a1, a2⟩ := he.ok
  refine ⟨_, ps_ret a1, fun G H0 pin ow σ H as c as' D S hm k => ?_⟩
  unfold sRet at hm
  split at hm
  · cases hm
  · rename_i d as1 q
    cases hm
    refine a2 G H0 pin ow σ H as d _ _ S q fun v H1 ow1 st sm S1 fr => k v σ H1 ow1 st.dur S1 ?_
    cases d with
    | val d => exact fr
    | obj o => obtain ⟨a, e, _, w, ob⟩ := fr; exact ⟨a, e, w, ob⟩
def sRetN : MS := fun as => some (.rt (.val .none), as)
theorem es_retN : ES X (.Return none pos) sRetN := by
  refine ⟨_, ps_retN, fun G H0 pin ow σ H as c as' D S hm k => ?_⟩
  cases hm
  exact k .non σ H ow (Same.refl _) S Dp.non
def sIf (c : M Bool) (m n : MS) : MS := fun as => match c as with
  | none => none
  | some (b, as1) => if b = true then m as1 else n as1
theorem es_if {c : Expr} {a b : List Stmt} {mc : M Bool} {m n : MS} (hc : ET X p c mc) (ha : ESs X a m) (hb : ESs X b n) : ES X (.If c a b pos) (sIf mc m n) := by
  obtain ⟨t, a1, a2⟩ := hc.ok
  obtain ⟨u, b1, b2⟩ := ha.ok
  obtain ⟨v, c1, c2⟩ := hb.ok
  refine ⟨_, ps_if a1 b1 c1, fun G H0 pin ow σ H as c as' D S hm k => ?_⟩
  unfold sIf at hm
  split at hm
  · cases hm
  · rename_i b as1 q
    refine a2 G H0 pin ow σ H as b as1 _ S q fun H1 ow1 st sm S1 => ?_
    cases b with
    | true =>
      rw [if_pos rfl] at hm
      exact iteT (b2 G H0 pin ow1 σ H1 as1 c as' D S1 hm (k.mono st.dur))
    | false =>
      rw [if_neg Bool.false_ne_true] at hm
      exact iteF (c2 G H0 pin ow1 σ H1 as1 c as' D S1 hm (k.mono st.dur))

/-! ### loops -/
/-- J yields xs, while ok holds -/
def Gives (J : L2.It) (xs : List V) (ok : Hp → Prop) : Prop := ∀ H, ok H → (∀ i x, xs[i]? = some x → J.go i H ∧ ∀ y H', J.yld i H y H' → H' = H ∧ y = x) ∧ (∀ i, xs.length ≤ i → J.stop i H)
/-- what is walked -/
structure EI (X : Cx) (p : Bool) (l : Lv) (tg e : Expr) (m : M (List PD)) : Prop where
  pur : p = true → ∀ as r as', m as = some (r, as') → as' = as
  ok : ∃ t, PI X tg e t ∧ ∀ (G H0 : Hp) (pin : Nat → Addr) (ow : Ow) (σ : L2.St) (H : Hp) (as : AS) (ds : List PD) (as' : AS) (R : L2.It → Hp → Prop), SR X.K G H0 pin ow σ H as → m as = some (ds, as') →
    (∀ J H' ow' xs ok, Stp G H0 ow H ow' H' → (p = true → Same H H') → SR X.K G H0 pin ow' σ H' as' → Gives J xs ok → DpAll X.K (Hd ow' G H0 H') xs ds → (∀ H2, (l = .D → Same (Hd ow' G H0 H') H2) → (l ≠ .D → Same H' H2) → ok H2) → R J H') → t σ H R
def forL (g : PD → AS → Option AS) (b : MS) : List PD → MS
  | [], as => some (.nx, as)
  | d :: ds, as => match g d as with
    | none => none
    | some as1 => match b as1 with
      | none => none
      | some (.nx, as2) => forL g b ds as2
      | some (.ct, as2) => forL g b ds as2
      | some (.bk, as2) => some (.nx, as2)
      | some (.rt r, as2) => some (.rt r, as2)
def sFor (mi : M (List PD)) (g : PD → AS → Option AS) (b : MS) : MS := fun as => match mi as with
  | none => none
  | some (ds, as1) => forL g b ds as1
theorem es_for {tg e : Expr} {is : List Nat} {body : List Stmt} {mi : M (List PD)} {g : PD → AS → Option AS} {b : MS} (hc : X.calm = true) (hi : EI X p .D tg e mi) (hg : EG X tg is g) (hb : ESs X body b)
    (hs : ∀ x, foldedSetIterable e X.env x = pure x := by intro _; rfl) (hx : X.xe = fun _ _ => False := by rfl) : ES X (.For tg e body [] pos) (sFor mi g b) := by
  obtain ⟨t, a1, a2⟩ := hi.ok
  obtain ⟨u, b1, b2⟩ := hg.ok
  obtain ⟨v, c1, c2⟩ := hb.ok
  have hp : PassesOwn (model X.prog X.w) X.A X.env X.xe := by rw [hx]; exact PassesOwn.never
  refine ⟨_, ps_for hp hc a1 b1 c1 hs, fun G H0 pin ow σ H as c as' D S hm k => ?_⟩
  unfold sFor at hm
  split at hm
  · cases hm
  rename_i ds as1 q
  refine a2 G H0 pin ow σ H as ds as1 _ S q fun J H1 ow1 xs ok st sm S1 gv hd hok => ?_
  refine ⟨fun i m σ2 H2 => i + m = xs.length ∧ ∃ as2 ow2, SR X.K G H0 pin ow2 σ2 H2 as2 ∧ Same (Hd ow1 G H0 H1) (Hd ow2 G H0 H2) ∧ forL g b (ds.drop i) as2 = some (c, as'), ⟨xs.length, by omega, as1, ow1, S1, Same.refl _, hm⟩, ?_⟩
  rintro i m σ2 H2 ⟨hl, as2, ow2, S2, s2, hf⟩
  have hlen := dpa_len hd
  have ok2 := hok H2 (fun _ => s2.trans S2.hd) (fun z => absurd rfl z)
  obtain ⟨g1, g2⟩ := gv H2 ok2
  by_cases hz : xs.length ≤ i
  · left
    refine ⟨g2 i hz, ?_⟩
    rw [List.drop_eq_nil_of_le (by omega)] at hf
    cases hf
    exact k σ2 H2 ow2 (st.dur.trans s2) S2
  · right
    have hi1 : i < xs.length := by omega
    have hi2 : i < ds.length := by omega
    rw [List.drop_eq_getElem_cons hi2] at hf
    obtain ⟨y1, y2⟩ := g1 i xs[i] (List.getElem?_eq_getElem hi1)
    have hdi : Dp X.K (Hd ow1 G H0 H1) xs[i] ds[i] := by
      exact paired_at (of_dpa hd) i hi1 hi2
    refine ⟨y1, fun σ3 H3 => ∃ as3 ow3, SR X.K G H0 pin ow3 σ3 H3 as3 ∧ Same (Hd ow1 G H0 H1) (Hd ow3 G H0 H3) ∧ forL g b (ds.drop (i + 1)) as3 = some (c, as'), fun σ3 H3 ⟨as3, ow3, S3, s3, f3⟩ => ⟨m - 1, by omega, by omega, as3, ow3, S3, s3, f3⟩, fun x H' hy => ?_⟩
    obtain ⟨rfl, rfl⟩ := y2 x H' hy
    unfold forL at hf
    split at hf
    · cases hf
    rename_i as3 q3
    refine b2 G H0 pin ow2 σ2 H' as2 _ _ as3 _ S2 (dpM s2 _ _ hdi) q3 fun σ3 ow3 st3 S3 _ _ => ?_
    split at hf
    · cases hf
    · rename_i as4 q4
      exact c2 G H0 pin ow3 σ3 H' as3 .nx as4 _ S3 q4 fun σ5 H5 ow5 s5 S5 => ⟨as4, ow5, S5, (s2.trans st3.dur).trans s5, hf⟩
    · rename_i as4 q4
      exact c2 G H0 pin ow3 σ3 H' as3 .ct as4 _ S3 q4 fun σ5 H5 ow5 s5 S5 => ⟨as4, ow5, S5, (s2.trans st3.dur).trans s5, hf⟩
    · rename_i as4 q4
      cases hf
      exact c2 G H0 pin ow3 σ3 H' as3 .bk _ _ S3 q4 fun σ5 H5 ow5 s5 S5 => k σ5 H5 ow5 ((st.dur.trans (s2.trans st3.dur)).trans s5) S5
    · rename_i r as4 q4
      cases hf
      exact c2 G H0 pin ow3 σ3 H' as3 (.rt r) _ _ S3 q4 fun v5 σ5 H5 ow5 s5 S5 rr => k v5 σ5 H5 ow5 ((st.dur.trans (s2.trans st3.dur)).trans s5) S5 rr
def whileL (c : M Bool) (b : MS) : Nat → MS
  | 0, _ => none
  | n + 1, as => match c as with
    | none => none
    | some (false, as1) => some (.nx, as1)
    | some (true, as1) => match b as1 with
      | none => none
      | some (.nx, as2) => whileL c b n as2
      | some (.ct, as2) => whileL c b n as2
      | some (.bk, as2) => some (.nx, as2)
      | some (.rt r, as2) => some (.rt r, as2)
def sWhile (c : M Bool) (b : MS) : MS := whileL c b 1000000000
theorem es_while {c : Expr} {body : List Stmt} {mc : M Bool} {b : MS} (hc : ET X p c mc) (hb : ESs X body b) (hx : X.xe = fun _ _ => False := by rfl) : ES X (.While c body [] pos) (sWhile mc b) := by
  obtain ⟨t, a1, a2⟩ := hc.ok
  obtain ⟨v, c1, c2⟩ := hb.ok
  have hp : PassesOwn (model X.prog X.w) X.A X.env X.xe := by rw [hx]; exact PassesOwn.never
  refine ⟨_, ps_while hp a1 c1, fun G H0 pin ow σ H as c as' D S hm k => ?_⟩
  refine ⟨fun m σ2 H2 => ∃ as2 ow2, SR X.K G H0 pin ow2 σ2 H2 as2 ∧ Same (Hd ow G H0 H) (Hd ow2 G H0 H2) ∧ whileL mc b m as2 = some (c, as'), ⟨_, as, ow, S, Same.refl _, hm⟩, ?_⟩
  rintro m σ2 H2 ⟨as2, ow2, S2, s2, hf⟩
  cases m with
  | zero => cases hf
  | succ m =>
    unfold whileL at hf
    split at hf
    · cases hf
    · rename_i as3 q
      cases hf
      exact a2 G H0 pin ow2 σ2 H2 as2 false _ _ S2 q fun H3 ow3 st3 sm3 S3 => iteF (k σ2 H3 ow3 (s2.trans st3.dur) S3)
    · rename_i as3 q
      refine a2 G H0 pin ow2 σ2 H2 as2 true as3 _ S2 q fun H3 ow3 st3 sm3 S3 => iteT ?_
      refine ⟨fun σ4 H4 => ∃ as4 ow4, SR X.K G H0 pin ow4 σ4 H4 as4 ∧ Same (Hd ow G H0 H) (Hd ow4 G H0 H4) ∧ whileL mc b m as4 = some (c, as'), fun σ4 H4 h => ⟨m, by omega, h⟩, ?_⟩
      split at hf
      · cases hf
      · rename_i as4 q4
        exact c2 G H0 pin ow3 σ2 H3 as3 .nx as4 _ S3 q4 fun σ5 H5 ow5 s5 S5 => ⟨as4, ow5, S5, (s2.trans st3.dur).trans s5, hf⟩
      · rename_i as4 q4
        exact c2 G H0 pin ow3 σ2 H3 as3 .ct as4 _ S3 q4 fun σ5 H5 ow5 s5 S5 => ⟨as4, ow5, S5, (s2.trans st3.dur).trans s5, hf⟩
      · rename_i as4 q4
        cases hf
        exact c2 G H0 pin ow3 σ2 H3 as3 .bk _ _ S3 q4 fun σ5 H5 ow5 s5 S5 => k σ5 H5 ow5 ((s2.trans st3.dur).trans s5) S5
      · rename_i r as4 q4
        cases hf
        exact c2 G H0 pin ow3 σ2 H3 as3 (.rt r) _ _ S3 q4 fun v5 σ5 H5 ow5 s5 S5 rr => k v5 σ5 H5 ow5 ((s2.trans st3.dur).trans s5) S5 rr
end
end Vl

-- V5
set_option Elab.async false
set_option linter.all false
set_option maxRecDepth 100000
set_option maxHeartbeats 4000000
namespace Vl
open PySem L2

/-! ### the readings that m itself tells -/
def rdV (K : Fg) (p : Bool) (l : Lv) (m : M PD) : TE := fun σ H Q => ∃ (G H0 : Hp) (pin : Nat → Addr) (ow : Ow) (as : AS) (r : PD) (as' : AS), SR K G H0 pin ow σ H as ∧ m as = some (r, as') ∧
  ∀ v H' ow', Stp G H0 ow H ow' H' → (p = true → Same H H') → SR K G H0 pin ow' σ H' as' → LvR l K (Hd ow' G H0 H') H' v r → Q v H'
def rdT (K : Fg) (p : Bool) (m : M Bool) : TT := fun σ H Q => ∃ (G H0 : Hp) (pin : Nat → Addr) (ow : Ow) (as : AS) (r : Bool) (as' : AS), SR K G H0 pin ow σ H as ∧ m as = some (r, as') ∧
  ∀ H' ow', Stp G H0 ow H ow' H' → (p = true → Same H H') → SR K G H0 pin ow' σ H' as' → Q r H'
def rdG (K : Fg) (is : List Nat) (g : PD → AS → Option AS) : TG := fun v σ H Q => ∃ (G H0 : Hp) (pin : Nat → Addr) (ow : Ow) (as : AS) (d : PD) (as' : AS), SR K G H0 pin ow σ H as ∧ Dp K (Hd ow G H0 H) v d ∧ g d as = some as' ∧
  ∀ σ' ow', Stp G H0 ow H ow' H → SR K G H0 pin ow' σ' H as' → σ'.length = σ.length → (∀ j, j ∉ is → σ'[j]? = σ[j]?) → Q σ' H
section
variable {X : Cx} {p p1 p2 p3 : Bool} {l l1 : Lv} {pos : Pos}
theorem EV.can {e : Expr} {m : M PD} (h : EV X p l e m) : PE X e (rdV X.K p l m) := by
  obtain ⟨t, a1, a2⟩ := h.ok
  exact ⟨fun pins s σ H Q I ⟨G, H0, pin, ow, as, r, as', S, e, k⟩ => a1.run pins s σ H Q I (a2 G H0 pin ow σ H as r as' Q S e k)⟩
theorem ET.can {e : Expr} {m : M Bool} (h : ET X p e m) : PT X e (rdT X.K p m) := by
  obtain ⟨t, a1, a2⟩ := h.ok
  exact ⟨fun pins s σ H Q I ⟨G, H0, pin, ow, as, r, as', S, e, k⟩ => a1.run pins s σ H Q I (a2 G H0 pin ow σ H as r as' Q S e k)⟩
theorem EG.can {e : Expr} {is : List Nat} {g : PD → AS → Option AS} (h : EG X e is g) : PG X e (rdG X.K is g) := by
  obtain ⟨t, a1, a2⟩ := h.ok
  refine ⟨fun pins s σ H v u Q I r ⟨G, H0, pin, ow, as, d, as', S, hd, e, k⟩ => a1.run pins s σ H v u Q I r (a2 G H0 pin ow σ H as v d as' Q S hd e k)⟩
structure ETs (X : Cx) (p : Bool) (ifs : List Expr) (m : M Bool) : Prop where
  pur : p = true → ∀ as r as', m as = some (r, as') → as' = as
  ok : PTs X ifs (rdT X.K p m)
theorem ets_nil : ETs X true [] (mPure true) := by
  refine ⟨fun _ as r as' h => (pure_some h).2, ⟨fun pins s σ H Q I ⟨G, H0, pin, ow, as, r, as', S, e, k⟩ => pts_nil.run pins s σ H Q I ?_⟩⟩
  obtain ⟨rfl, rfl⟩ := pure_some e
  exact k H ow Stp.refl (fun _ => Same.refl _) S
theorem ets_one {c : Expr} {m : M Bool} (h : ET X p c m) : ETs X p [c] m := ⟨h.pur, pts_one h.can⟩

/-! ### list comprehensions -/
def clr : List Nat → AS → AS
  | [], as => as
  | i :: is, as => (clr is as).set i .un
def back : List Nat → AS → AS → AS
  | [], _, as2 => as2
  | i :: is, as1, as2 => (back is as1 as2).set i (as1.getD i .un)
def free (is : List Nat) (as : AS) : Bool := is.all fun i => match as.getD i .un with
  | .un => true
  | .dur _ => true
  | _ => false
def lcL (vs : List Nat) (g : PD → AS → Option AS) (c : M Bool) (el : M PD) : List PD → AS → Option (List PD × AS)
  | [], as => some ([], as)
  | d :: ds, as => match g d as with
    | none => none
    | some as1 => match c as1 with
      | none => none
      | some (false, as2) => lcL vs g c el ds (clr vs as2)
      | some (true, as2) => match el as2 with
        | none => none
        | some (y, as3) => match lcL vs g c el ds (clr vs as3) with
          | none => none
          | some (ys, as4) => some (y :: ys, as4)
def mLc (vs : List Nat) (mi : M (List PD)) (g : PD → AS → Option AS) (c : M Bool) (el : M PD) : M Res := fun as => match mi as with
  | none => none
  | some (ds, as1) => match lcL vs g c el ds (clr vs as1) with
    | none => none
    | some (ys, as2) => if free vs as1 = true ∧ ys.length ≤ sizeLine then some (.obj (.ol ys), back vs as1 as2) else none
section
variable {K : Fg} {G H0 H H' : Hp} {pin : Nat → Addr} {ow ow' : Ow} {σ : L2.St} {as : AS}
theorem SR.wipe (S : SR K G H0 pin ow σ H as) : ∀ vs : List Nat, ∃ ow', SR K G H0 pin ow' (wipe σ vs) H (clr vs as) ∧ Stp G H0 ow H ow' H
  | [] => ⟨ow, S, Stp.refl⟩
  | v :: vs => by
    obtain ⟨ow', S', st⟩ := SR.wipe S vs
    obtain ⟨S2, st2⟩ := S'.drop (i := v) none
    exact ⟨_, S2, st.trans st2⟩
theorem clr_len : ∀ (vs : List Nat) (as : AS), (clr vs as).length = as.length
  | [], _ => rfl
  | v :: vs, as => by unfold clr; rw [List.length_set, clr_len vs as]
theorem back_len : ∀ (vs : List Nat) (as as2 : AS), (back vs as as2).length = as2.length
  | [], _, _ => rfl
  | v :: vs, as, as2 => by unfold back; rw [List.length_set, back_len vs as as2]
theorem back_get : ∀ (vs : List Nat) (as as2 : AS) (j : Nat), (back vs as as2)[j]? = if j ∈ vs ∧ j < as2.length then some (as.getD j .un) else as2[j]?
  | [], as, as2, j => by rw [if_neg (by simp)]; rfl
  | v :: vs, as, as2, j => by
    unfold back
    by_cases hv : v = j
    · subst hv
      by_cases hl : v < as2.length
      · rw [List.getElem?_set_self (by rw [back_len]; exact hl), if_pos ⟨List.mem_cons_self, hl⟩]
      · rw [List.getElem?_eq_none (by rw [List.length_set, back_len]; omega), if_neg (fun z => hl z.2), List.getElem?_eq_none (by omega)]
    · rw [List.getElem?_set_ne hv, back_get vs as as2 j]
      have : (j ∈ v :: vs) ↔ j ∈ vs := by
        rw [List.mem_cons]
        exact ⟨fun z => z.resolve_left (fun e => hv e.symm), .inr⟩
      simp only [this]
theorem wipe_get : ∀ (vs : List Nat) (σ : L2.St) (j : Nat), j ∉ vs → (L2.wipe σ vs)[j]? = σ[j]?
  | [], _, _, _ => rfl
  | v :: vs, σ, j, h => by
    unfold L2.wipe
    rw [List.getElem?_set_ne (fun e => h (by rw [e]; exact List.mem_cons_self)), wipe_get vs σ j (fun z => h (List.mem_cons_of_mem _ z))]
theorem wipe_ext {σ σ' : L2.St} (hl : σ'.length = σ.length) : ∀ (vs : List Nat), (∀ j, j ∉ vs → σ'[j]? = σ[j]?) → L2.wipe σ' vs = L2.wipe σ vs := fun vs h => by
  refine List.ext_getElem? fun j => ?_
  have key : ∀ (vs : List Nat) (σ : L2.St), j ∈ vs → (L2.wipe σ vs)[j]? = if j < σ.length then some none else none := fun vs => by
    induction vs with
    | nil => intro σ h; cases h
    | cons v vs ih =>
      intro σ h
      show ((L2.wipe σ vs).set v none)[j]? = _
      by_cases hv : v = j
      · subst hv
        by_cases hl : v < σ.length
        · rw [List.getElem?_set_self (by rw [wipe_length]; exact hl), if_pos hl]
        · rw [List.getElem?_eq_none (by rw [List.length_set, wipe_length]; omega), if_neg hl]
      · rw [List.getElem?_set_ne hv]
        exact ih σ ((List.mem_cons.mp h).resolve_left (fun e => hv e.symm))
  by_cases hj : j ∈ vs
  · rw [key vs σ' hj, key vs σ hj, hl]
  · rw [wipe_get vs σ' j hj, wipe_get vs σ j hj, h j hj]
theorem wipe_idem (σ : L2.St) (vs : List Nat) : L2.wipe (L2.wipe σ vs) vs = L2.wipe σ vs := wipe_ext (wipe_length σ vs) vs fun j hj => wipe_get vs σ j hj
theorem SR.back (S : SR K G H0 pin ow' (L2.wipe σ vs) H' as') {as1 : AS} (hl : as1.length = as'.length) (h : ∀ j s, j ∈ vs → as1[j]? = some s → SlotR K (Hd ow' G H0 H') H' ow' pin j (σ[j]?) s) : SR K G H0 pin ow' σ H' (Vl.back vs as1 as') := by
  refine ⟨by rw [back_len, S.len, wipe_length], S.own, S.same, S.sub, fun j t e => ?_⟩
  rw [back_get] at e
  by_cases hj : j ∈ vs
  · by_cases hlt : j < as'.length
    · rw [if_pos ⟨hj, hlt⟩] at e
      refine h j t hj ?_
      rw [← e, List.getD_eq_getElem?_getD, List.getElem?_eq_getElem (by omega)]
      rfl
    · rw [if_neg (fun z => hlt z.2), List.getElem?_eq_none (by omega)] at e; cases e
  · rw [if_neg (fun z => hj z.1)] at e
    have := S.slot j t e
    rw [wipe_get vs σ j hj] at this
    exact this
end
theorem free_at {is : List Nat} {as : AS} (h : free is as = true) {j : Nat} {s : Slot} (hj : j ∈ is) (e : as[j]? = some s) : s = .un ∨ ∃ d, s = .dur d := by
  have q := List.all_eq_true.mp h j hj
  rw [List.getD_eq_getElem?_getD, e] at q
  cases s with
  | un => exact .inl rfl
  | dur d => exact .inr ⟨d, rfl⟩
  | own o => cases q
  | io o => cases q
/-- what a comprehension's reading asks -/
theorem lc_sound {tg it : Expr} {vs : List Nat} {mi : M (List PD)} {g : PD → AS → Option AS} {mc : M Bool} {el : M PD} (hi : EI X p l tg it mi) (hl : l = .D ∨ (p2 = true ∧ p3 = true))
    (pc : p2 = true → ∀ as r as', mc as = some (r, as') → as' = as) (pe : p3 = true → ∀ as r as', el as = some (r, as') → as' = as) :
    ∃ t, PI X tg it t ∧ ∀ (G H0 : Hp) (pin : Nat → Addr) (ow : Ow) (σ : L2.St) (H : Hp) (as : AS) (r : Res) (as' : AS) (Q : VK), SR X.K G H0 pin ow σ H as → mLc vs mi g mc el as = some (r, as') →
    (∀ v H' ow', Stp G H0 ow H ow' H' → ((p && (p2 && p3)) = true → Same H H') → SR X.K G H0 pin ow' σ H' as' → FR X.K G H0 ow H ow' H' v r → Q v H') → tLc t (rdG X.K vs g) (rdT X.K p2 mc) (rdV X.K p3 .D el) vs σ H Q := by
  obtain ⟨t, a1, a2⟩ := hi.ok
  refine ⟨t, a1, fun G H0 pin ow σ H as r as' Q S hm k => ?_⟩
  unfold mLc at hm
  split at hm
  · cases hm
  rename_i ds as1 q
  split at hm
  · cases hm
  rename_i ys as2 q2
  split at hm
  · rename_i hz
    cases hm
    refine a2 G H0 pin ow σ H as ds as1 _ S q fun J H1 ow1 xs ok st sm S1 gv hd hok D hD => ?_
    -- the new list D is kept apart
    have s1 : Same H1 (upd H1 D (.lst [])) := fun b x e => by rw [upd_ne (ne_of_none e hD)]; exact e
    obtain ⟨S2, st2, w2⟩ := S1.lay (a := D) s1 hD (by rw [upd_same]; exact nofun)
    obtain ⟨ow3, S3, st3⟩ := S2.wipe vs
    have hlen := dpa_len hd
    -- the invariant
    refine ⟨fun i m H2 => i + m = xs.length ∧ ∃ as3 ow4 acc done todo, SR X.K G H0 pin ow4 (L2.wipe σ vs) H2 as3 ∧ Stp G H0 ow1 H1 ow4 H2 ∧ ((p2 && p3) = true → Same H1 H2) ∧ ow4 D = some none ∧ H2 D = some (.lst acc) ∧ DpAll X.K (Hd ow4 G H0 H2) acc done ∧
      ys = done ++ todo ∧ lcL vs g mc el (ds.drop i) as3 = some (todo, as2), ⟨xs.length, by omega, clr vs as1, ow3, [], [], ys, S3, st2.trans st3, fun _ => s1, (st3.tmp D put_same).1, ((st3.tmp D put_same).2).trans upd_same, .nil, rfl, q2⟩, ?_⟩
    rintro i m H2 ⟨hlm, as3, ow4, acc, done, todo, S4, st4, sm4, w4, hD4, hacc, hys, hf⟩
    have ok2 : ok H2 := by
      refine hok H2 (fun _ => st4.dur.trans S4.hd) (fun hne => sm4 ?_)
      rcases hl with hl | ⟨h2, h3⟩
      · exact absurd hl hne
      · rw [h2, h3]; rfl
    obtain ⟨g1, g2⟩ := gv H2 ok2
    by_cases hzi : xs.length ≤ i
    · left
      refine ⟨g2 i hzi, ?_⟩
      rw [List.drop_eq_nil_of_le (by omega)] at hf
      cases hf
      rw [List.append_nil] at hys
      subst hys
      refine k _ H2 ow4 (st.trans st4) (fun z => ?_) (S4.back ?_ fun j s hj e => ?_) ⟨D, rfl, ?_, w4, acc, hD4, hacc⟩
      · have z' : p = true ∧ (p2 && p3) = true := by simpa using z
        exact (sm z'.1).trans (sm4 z'.2)
      · rw [S1.len, S4.len, wipe_length]
      · rcases free_at hz.1 hj e with rfl | ⟨d, rfl⟩
        · trivial
        · obtain ⟨v, e1, e2⟩ := S1.slot j _ e
          exact ⟨v, e1, dpM st4.dur _ _ e2⟩
      · intro e
        have := (st.tmp D e).1
        rw [w2] at this; cases this
    · right
      have hi1 : i < xs.length := by omega
      have hi2 : i < ds.length := by omega
      rw [List.drop_eq_getElem_cons hi2] at hf
      obtain ⟨y1, y2⟩ := g1 i xs[i] (List.getElem?_eq_getElem hi1)
      have hdi : Dp X.K (Hd ow1 G H0 H1) xs[i] ds[i] := by
        exact paired_at (of_dpa hd) i hi1 hi2
      refine ⟨y1, fun H5 => ∃ as3 ow4 acc done todo, SR X.K G H0 pin ow4 (L2.wipe σ vs) H5 as3 ∧ Stp G H0 ow1 H1 ow4 H5 ∧ ((p2 && p3) = true → Same H1 H5) ∧ ow4 D = some none ∧ H5 D = some (.lst acc) ∧ DpAll X.K (Hd ow4 G H0 H5) acc done ∧
        ys = done ++ todo ∧ lcL vs g mc el (ds.drop (i + 1)) as3 = some (todo, as2), fun H5 h => ⟨m - 1, by omega, by omega, h⟩, fun x H' hy => ?_⟩
      obtain ⟨rfl, rfl⟩ := y2 x H' hy
      unfold lcL at hf
      split at hf
      · cases hf
      rename_i as5 q5
      refine ⟨G, H0, pin, ow4, as3, ds[i], as5, S4, dpM st4.dur _ _ hdi, q5, fun σ5 ow5 st5 S5 hl5 ho5 => ?_⟩
      have hw5 : L2.wipe σ5 vs = L2.wipe (L2.wipe σ vs) vs := wipe_ext hl5 vs ho5
      rw [wipe_idem] at hw5
      refine ⟨hw5, ?_⟩
      obtain ⟨w5, e5⟩ := st5.tmp D w4
      split at hf
      · cases hf
      · rename_i as6 q6
        refine ⟨G, H0, pin, ow5, as5, false, as6, S5, q6, fun H6 ow6 st6 sm6 S6 => iteF ?_⟩
        obtain ⟨w6, e6⟩ := st6.tmp D w5
        obtain ⟨ow7, S7, st7⟩ := S6.wipe vs
        rw [hw5] at S7
        obtain ⟨w7, e7⟩ := st7.tmp D w6
        refine ⟨clr vs as6, ow7, acc, done, todo, S7, st4.trans (st5.trans (st6.trans st7)), fun z => ?_, w7, by rw [e6]; exact hD4, dpaM (st5.dur.trans (st6.dur.trans st7.dur)) _ _ hacc, hys, hf⟩
        have z' : p2 = true ∧ p3 = true := by simpa using z
        exact (sm4 z).trans (sm6 z'.1)
      · rename_i as6 q6
        refine ⟨G, H0, pin, ow5, as5, true, as6, S5, q6, fun H6 ow6 st6 sm6 S6 => iteT ?_⟩
        obtain ⟨w6, e6⟩ := st6.tmp D w5
        split at hf
        · cases hf
        rename_i y as7 q7
        split at hf
        · cases hf
        rename_i ys8 as8 q8
        cases hf
        refine ⟨G, H0, pin, ow6, as6, y, as7, S6, q7, fun v7 H7 ow7 st7 sm7 S7 lv7 => ?_⟩
        obtain ⟨w7, e7⟩ := st7.tmp D w6
        have hacc7 : DpAll X.K (Hd ow7 G H0 H7) acc done := dpaM (st5.dur.trans (st6.dur.trans st7.dur)) _ _ hacc
        have hal := dpa_len hacc
        refine ⟨acc, by rw [e7, e6]; exact hD4, ?_, ?_⟩
        · have := hz.2
          rw [hys, List.length_append, List.length_cons] at this
          omega
        · obtain ⟨S8, s8⟩ := S7.write (a := D) (u := .lst (acc ++ [v7])) (by rw [w7]; exact nofun) fun j t _ e => by rw [w7] at e; cases e
          obtain ⟨ow9, S9, st9⟩ := S8.wipe vs
          rw [hw5] at S9
          have st8 : Stp G H0 ow1 H1 ow7 (upd H7 D (.lst (acc ++ [v7]))) := by
            have st17 := st4.trans (st5.trans (st6.trans st7))
            refine ⟨st17.dur.trans s8, fun b hb => ?_, fun b hb => ?_⟩
            · have hbD : b ≠ D := fun z => by
                subst z
                exact absurd hb (by rw [w2]; exact nofun)
              rw [upd_ne hbD]; exact st17.tmp b hb
            · by_cases hbD : b = D
              · subst hbD; rw [upd_same]; exact nofun
              · rw [upd_ne hbD]; exact st17.dom b hb
          obtain ⟨w9, e9⟩ := st9.tmp D w7
          refine ⟨clr vs as7, ow9, acc ++ [v7], done ++ [y], ys8, S9, st8.trans st9, fun z => ?_, w9, upd_same, ?_, by rw [hys]; simp, q8⟩
          · have z' : p2 = true ∧ p3 = true := by simpa using z
            have := ((sm4 z).trans (sm6 z'.1)).trans (sm7 z'.2)
            exact fun b x e => by rw [upd_ne (ne_of_none e hD)]; exact this b x e
          · have h9 := s8.trans st9.dur
            exact dpa_of (paired_snoc (of_dpa (dpaM h9 _ _ hacc7)) (dpM h9 _ _ lv7))
  · cases hm
end
end Vl

-- V6
set_option Elab.async false
set_option linter.all false
set_option maxRecDepth 100000
set_option maxHeartbeats 4000000
namespace Vl
open PySem L2
theorem clr_get : ∀ (vs : List Nat) (as : AS) (j : Nat), (clr vs as)[j]? = if j ∈ vs ∧ j < as.length then some .un else as[j]?
  | [], as, j => by rw [if_neg (by simp)]; rfl
  | v :: vs, as, j => by
    unfold clr
    by_cases hv : v = j
    · subst hv
      by_cases hl : v < as.length
      · rw [List.getElem?_set_self (by rw [clr_len]; exact hl), if_pos ⟨List.mem_cons_self, hl⟩]
      · rw [List.getElem?_eq_none (by rw [List.length_set, clr_len]; omega), if_neg (fun z => hl z.2), List.getElem?_eq_none (by omega)]
    · rw [List.getElem?_set_ne hv, clr_get vs as j]
      have : (j ∈ v :: vs) ↔ j ∈ vs := by
        rw [List.mem_cons]
        exact ⟨fun z => z.resolve_left (fun e => hv e.symm), .inr⟩
      simp only [this]
theorem clr_ext {vs : List Nat} {as as' : AS} (hl : as'.length = as.length) (h : ∀ j, j ∉ vs → as'[j]? = as[j]?) : clr vs as' = clr vs as := by
  refine List.ext_getElem? fun j => ?_
  rw [clr_get, clr_get, hl]
  split
  · rfl
  · rename_i z
    by_cases hj : j ∈ vs
    · have : ¬ j < as.length := fun q => z ⟨hj, q⟩
      rw [List.getElem?_eq_none (by omega), List.getElem?_eq_none (by omega)]
    · exact h j hj
theorem clr_idem (vs : List Nat) (as : AS) : clr vs (clr vs as) = clr vs as := clr_ext (clr_len vs as) fun j hj => by
  rw [clr_get, if_neg (fun z => hj z.1)]
theorem back_clr (vs : List Nat) (as : AS) : back vs as (clr vs as) = as := by
  refine List.ext_getElem? fun j => ?_
  rw [back_get, clr_get, clr_len]
  split
  · rename_i z
    rw [List.getD_eq_getElem?_getD, List.getElem?_eq_getElem z.2]; rfl
  · rename_i z
    rfl
theorem lcL_pure {vs : List Nat} {g : PD → AS → Option AS} {c : M Bool} {el : M PD} (hg : ∀ d as as', g d as = some as' → as'.length = as.length ∧ ∀ j, j ∉ vs → as'[j]? = as[j]?)
    (hc : ∀ as r as', c as = some (r, as') → as' = as) (he : ∀ as r as', el as = some (r, as') → as' = as) : ∀ (ds : List PD) (as : AS) (ys : List PD) (as' : AS), lcL vs g c el ds (clr vs as) = some (ys, as') → as' = clr vs as
  | [], as, ys, as', h => by cases h; rfl
  | d :: ds, as, ys, as', h => by
    unfold lcL at h
    split at h
    · cases h
    rename_i as1 q1
    obtain ⟨l1, o1⟩ := hg _ _ _ q1
    have e1 : clr vs as1 = clr vs as := by rw [clr_ext l1 o1, clr_idem]
    split at h
    · cases h
    · rename_i as2 q2
      have := hc _ _ _ q2
      subst this
      rw [e1] at h
      exact lcL_pure hg hc he ds as ys as' h
    · rename_i as2 q2
      have := hc _ _ _ q2
      subst this
      split at h
      · cases h
      rename_i y as3 q3
      have := he _ _ _ q3
      subst this
      split at h
      · cases h
      rename_i ys4 as4 q4
      cases h
      rw [e1] at q4
      exact lcL_pure hg hc he ds as _ _ q4
section
variable {X : Cx} {p p1 p2 p3 : Bool} {l l1 : Lv} {pos : Pos}

/-! ### comprehensions, as a value and stored -/
theorem ef_lc {elt tg it : Expr} {ifs : List Expr} {scope : Scope} {mi : M (List PD)} {g : PD → AS → Option AS} {mc : M Bool} {el : M PD} (own : List (Str × Nat)) (hc : X.calm = true) (hN : X.N.Nodup) (hi : EI X p l tg it mi) (hb : blkC X.N X.env.scope scope own = true)
    (hg : ∀ (s : Shared) (H : Hp) (C : Addr) (cl : List (Str × Addr)) (fp : List Addr), EG (X.blk s H scope (compEnvC scope cl C X.env) fp) tg (own.map (·.2)) g)
    (ht : ∀ (s : Shared) (H : Hp) (C : Addr) (cl : List (Str × Addr)) (fp : List Addr), ETs (X.blk s H scope (compEnvC scope cl C X.env) fp) p2 ifs mc)
    (he : ∀ (s : Shared) (H : Hp) (C : Addr) (cl : List (Str × Addr)) (fp : List Addr), EV (X.blk s H scope (compEnvC scope cl C X.env) fp) p3 .D elt el)
    (hl : l = .D ∨ (p2 = true ∧ p3 = true) := by first | exact .inr ⟨rfl, rfl⟩ | exact .inl rfl)
    (hs : ∀ x, foldedSetIterable it X.env x = pure x := by intro _; rfl) : EF X (p && (p2 && p3)) (.ListComp elt [{ target := tg, iter := it, ifs := ifs, is_async := 0 }] scope pos) (mLc (own.map (·.2)) mi g mc el) := by
  have pg := (hg X.s_0 X.H_0 0 [] []).loc
  have pt := (ht X.s_0 X.H_0 0 [] []).pur
  have pv := (he X.s_0 X.H_0 0 [] []).pur
  obtain ⟨t, a1, a2⟩ := lc_sound (vs := own.map (·.2)) (g := g) hi hl pt pv
  refine ⟨fun z as r as' h => ?_, _, pe_lc (own := own) hc hN a1 (blkOk_by hb) (fun s H C cl fp => (hg s H C cl fp).can) (fun s H C cl fp => (ht s H C cl fp).ok) (fun s H C cl fp => (he s H C cl fp).can) hs, a2⟩
  have z' : p = true ∧ p2 = true ∧ p3 = true := by simpa using z
  unfold mLc at h
  split at h
  · cases h
  rename_i ds as1 q
  have := hi.pur z'.1 _ _ _ q
  subst this
  split at h
  · cases h
  rename_i ys as2 q2
  have := lcL_pure pg (pt z'.2.1) (pv z'.2.2) ds as1 ys as2 q2
  subst this
  split at h
  · cases h
    exact back_clr _ _
  · cases h

/-- y = [..] where the block stores y itself -/
theorem es_setLc {i : Nat} {y : Str} {py spos : Pos} {elt tg it : Expr} {ifs : List Expr} {scope : Scope} {mi : M (List PD)} {g : PD → AS → Option AS} {mc : M Bool} {el : M PD} (own : List (Str × Nat)) (hc : X.calm = true) (hN : X.N.Nodup) (hi : EI X p l tg it mi)
    (hb : blkC X.N X.env.scope scope own = true)
    (hg : ∀ (s : Shared) (H : Hp) (C : Addr) (cl : List (Str × Addr)) (fp : List Addr), EG (X.blk s H scope (compEnvC scope cl C X.env) fp) tg (own.map (·.2)) g)
    (ht : ∀ (s : Shared) (H : Hp) (C : Addr) (cl : List (Str × Addr)) (fp : List Addr), ETs (X.blk s H scope (compEnvC scope cl C X.env) fp) p2 ifs mc)
    (he : ∀ (s : Shared) (H : Hp) (C : Addr) (cl : List (Str × Addr)) (fp : List Addr), EV (X.blk s H scope (compEnvC scope cl C X.env) fp) p3 .D elt el)
    (hsw : swapsWith (.ListComp elt [{ target := tg, iter := it, ifs := ifs, is_async := 0 }] scope pos) (some (.Name y py)) spos.line X.env = pure true)
    (hx : X.N[i]? = some y := by rfl) (hloc : X.env.scope.names.lookup y = some .local := by rfl)
    (hl : l = .D ∨ (p2 = true ∧ p3 = true) := by first | exact .inr ⟨rfl, rfl⟩ | exact .inl rfl)
    (hs : ∀ x, foldedSetIterable it X.env x = pure x := by intro _; rfl) : ES X (.Assign [.Name y py] (.ListComp elt [{ target := tg, iter := it, ifs := ifs, is_async := 0 }] scope pos) spos) (sSet i (mLc (own.map (·.2)) mi g mc el)) := by
  have pt := (ht X.s_0 X.H_0 0 [] []).pur
  have pv := (he X.s_0 X.H_0 0 [] []).pur
  obtain ⟨t, a1, a2⟩ := lc_sound (vs := own.map (·.2)) (g := g) hi hl pt pv
  refine ⟨_, ps_setLc (i := i) (own := own) (g := rdG X.K (own.map (·.2)) g) (tt := rdT X.K p2 mc) (te := rdV X.K p3 .D el) hc hN hx hloc hsw a1 (blkOk_by hb) (fun s H C cl fp => (hg s H C cl fp).can) (fun s H C cl fp => (ht s H C cl fp).ok) (fun s H C cl fp => (he s H C cl fp).can) hs, fun G H0 pin ow σ H as c as' D S hm k => ?_⟩
  unfold sSet at hm
  split at hm
  · cases hm
  · rename_i r as1 q
    refine a2 G H0 pin ow σ H as r as1 _ S q fun v H1 ow1 st sm S1 fr => ?_
    split at hm
    · cases hm
    · cases hm
    · cases hm
      cases r with
      | val d =>
        obtain ⟨S2, st2⟩ := S1.setD (i := i) fr
        exact k _ _ _ (st.dur.trans st2.dur) S2
      | obj o =>
        obtain ⟨a, rfl, w, w1, ob⟩ := fr
        obtain ⟨S2, s2⟩ := S1.setO (i := i) w1 ob
        exact k _ _ _ (st.dur.trans s2) S2

/-! ### what is walked -/
def rng (lo : Int) (n : Nat) : List PD := (List.range n).map fun (i : Nat) => .int (lo + (i : Int))
def fR1 : List PD → Option (List PD)
  | [.int j] => if -(2 ^ 62) ≤ j ∧ j < 2 ^ 62 then some (rng 0 j.toNat) else none
  | _ => none
def fR2 : List PD → Option (List PD)
  | [.int i, .int j] => if -(2 ^ 62) ≤ i ∧ i < 2 ^ 62 ∧ -(2 ^ 62) ≤ j ∧ j < 2 ^ 62 then some (rng i (j - i).toNat) else none
  | _ => none
def mR (f : List PD → Option (List PD)) (ms : M (List PD)) : M (List PD) := mBind ms fun xs => mOpt (f xs)
theorem dpa_rng {K : Fg} {H : Hp} (lo : Int) (n : Nat) : DpAll K H ((List.range n).map fun (i : Nat) => V.int (lo + (i : Int))) (rng lo n) := by
  unfold rng
  generalize List.range n = r
  induction r with
  | nil => exact .nil
  | cons a t ih => exact .cons (.int _) ih
theorem gives_rng (lo : Int) (n : Nat) (ok : Hp → Prop) : Gives (Itr lo n) ((List.range n).map fun (i : Nat) => V.int (lo + (i : Int))) ok := fun H _ => by
  refine ⟨fun i x h => ?_, fun i h => by rw [List.length_map, List.length_range] at h; exact h⟩
  rw [List.getElem?_map] at h
  have hi : i < n := by
    cases e : (List.range n)[i]? with
    | none => rw [e] at h; cases h
    | some j => simpa using (List.getElem?_eq_some_iff.mp e).1
  rw [List.getElem?_range hi] at h
  cases h
  exact ⟨hi, fun y H' h => h⟩
theorem one_of {F : V → PD → Prop} {vs : List V} {d : PD} (h : Paired F vs [d]) : ∃ v, vs = [v] ∧ F v d := by
  cases h with
  | cons a t => cases t; exact ⟨_, rfl, a⟩
theorem two_of {F : V → PD → Prop} {vs : List V} {d e : PD} (h : Paired F vs [d, e]) : ∃ v w, vs = [v, w] ∧ F v d ∧ F w e := by
  cases h with
  | cons a t =>
    obtain ⟨w, rfl, b⟩ := one_of t
    exact ⟨_, _, rfl, a, b⟩
theorem ei_r1 {tg a : Expr} {q : Pos} {ms : M (List PD)} (hm : X.mg "range" = none) (ha : EA X p l [a] ms) (hg : Gl X "range" := by rfl) (hs : starEach [a] X.env = [(false, eval a X.env)] := by rfl) : EI X p l1 tg (.Call (.Name "range" q) [a] [] pos) (mR fR1 ms) := by
  obtain ⟨t, a1, a2⟩ := ha.ok
  refine ⟨fun z => pur_n ha.pur z, _, pi_range1 hg hm a1 hs, fun G H0 pin ow σ H as ds as' R S hm k => ?_⟩
  obtain ⟨xs, as1, q1, q⟩ := bind_some hm
  obtain ⟨q2, rfl⟩ := opt_some q
  unfold fR1 at q2
  split at q2
  · rename_i j
    split at q2
    · rename_i hj
      cases q2
      refine a2 G H0 pin ow σ H as _ as' _ S q1 fun vs H1 ow1 st sm S1 lv => ?_
      obtain ⟨v, rfl, l1⟩ := one_of (paired_map lv fun _ _ h => lv_dp S1.hd h)
      cases l1
      exact ⟨j, rfl, hj.1, hj.2, k _ H1 ow1 _ (fun _ => True) st sm S1 (gives_rng 0 j.toNat _) (dpa_rng 0 j.toNat) fun _ _ _ => trivial⟩
    · cases q2
  · cases q2
theorem ei_r2 {tg a b : Expr} {q : Pos} {ms : M (List PD)} (hm : X.mg "range" = none) (ha : EA X p l [a, b] ms) (hg : Gl X "range" := by rfl) (hs : starEach [a, b] X.env = [(false, eval a X.env), (false, eval b X.env)] := by rfl)
    (hs2 : starEach [b] X.env = [(false, eval b X.env)] := by rfl) : EI X p l1 tg (.Call (.Name "range" q) [a, b] [] pos) (mR fR2 ms) := by
  obtain ⟨t, a1, a2⟩ := ha.ok
  refine ⟨fun z => pur_n ha.pur z, _, pi_range2 hg hm a1 hs hs2, fun G H0 pin ow σ H as ds as' R S hm k => ?_⟩
  obtain ⟨xs, as1, q1, q⟩ := bind_some hm
  obtain ⟨q2, rfl⟩ := opt_some q
  unfold fR2 at q2
  split at q2
  · rename_i i j
    split at q2
    · rename_i hj
      cases q2
      refine a2 G H0 pin ow σ H as _ as' _ S q1 fun vs H1 ow1 st sm S1 lv => ?_
      obtain ⟨v, w, rfl, l1, l2⟩ := two_of (paired_map lv fun _ _ h => lv_dp S1.hd h)
      cases l1
      cases l2
      exact ⟨i, j, rfl, hj, k _ H1 ow1 _ (fun _ => True) st sm S1 (gives_rng i (j - i).toNat _) (dpa_rng i (j - i).toNat) fun _ _ _ => trivial⟩
    · cases q2
  · cases q2
/-- a list or a tuple -/
def iSeq (K : Fg) (tl : TE) : TI := fun σ H R => tl σ H fun x H1 => ∃ a, x = .ref a ∧ ((∃ xs, SqL K H1 a xs ∧ R (Itl K a) H1) ∨ (∃ xs, SqT K H1 a xs ∧ R (Itt K a) H1))
theorem pi_seq {tg e : Expr} {tl : TE} (he : PE X e tl) : PI X tg e (iSeq X.K tl) := by
  constructor
  intro pins s σ H R I h
  refine thn (he.run pins s σ H _ I h) ?_
  rintro v s1 ⟨x, H1, I1, r1, a, rfl, (⟨xs, hq, q⟩ | ⟨xs, hq, q⟩)⟩
  · cases r1
    obtain ⟨its, rv, pl, hz⟩ := I1.list hq
    apply wpAny_pyIter_list pl.isList
    refine ⟨s1.heap.objs.size, [s1.heap.objs.size], _, _, H1, rfl, I1.kept (t' := s1.toks) (fun _ _ w => Heap.get?_push_of_some _ w), turn_list a _, ⟨_, Heap.get?_push_size _ rfl, rfl, rfl⟩, ?_, q⟩
    intro b hb
    cases List.mem_singleton.mp hb
    exact I1.fpOk (Nat.le_refl _) (I1.hok.fresh (Nat.le_refl _))
  · cases r1
    obtain ⟨its, rv, pl, hz⟩ := I1.tuple hq
    have pl' : s1.heap.IsTuple a its.toArray := pl
    apply wpAny_pyIter_tuple pl'
    refine ⟨s1.heap.objs.size, [s1.heap.objs.size], _, _, H1, rfl, I1.kept (t' := s1.toks) (fun _ _ w => Heap.get?_push_of_some _ w), turn_tuple a _, ⟨_, Heap.get?_push_size _ rfl, rfl, rfl⟩, ?_, q⟩
    intro b hb
    cases List.mem_singleton.mp hb
    exact I1.fpOk (Nat.le_refl _) (I1.hok.fresh (Nat.le_refl _))
def fSeq : PD → Option (List PD)
  | .list ds => some ds
  | .tuple ds => some ds
  | _ => none

theorem gives_l {K : Fg} {a : Addr} {xs : List V} {ok : Hp → Prop} (h : ∀ H, ok H → SqL K H a xs) : Gives (Itl K a) xs ok := fun H o => by
  refine ⟨fun i x e => ⟨⟨xs, x, h H o, e⟩, fun y H' z => ⟨z.1, ?_⟩⟩, fun i hi => ⟨xs, h H o, hi⟩⟩
  have := z.2 xs (h H o)
  rw [e] at this
  exact (Option.some.inj this).symm
theorem gives_t {K : Fg} {a : Addr} {xs : List V} {ok : Hp → Prop} (h : ∀ H, ok H → SqT K H a xs) : Gives (Itt K a) xs ok := fun H o => by
  refine ⟨fun i x e => ⟨⟨xs, x, h H o, e⟩, fun y H' z => ⟨z.1, ?_⟩⟩, fun i hi => ⟨xs, h H o, hi⟩⟩
  have := z.2 xs (h H o)
  rw [e] at this
  exact (Option.some.inj this).symm
theorem ei_seq {tg e : Expr} {m : M PD} (h : EV X p l e m) (hl : l ≠ .B := by nofun) : EI X p l tg e (m1 fSeq m) := by
  obtain ⟨t, a1, a2⟩ := h.ok
  refine ⟨fun z => pur1 h.pur z, _, pi_seq a1, fun G H0 pin ow σ H as ds as' R S hm k => ?_⟩
  obtain ⟨x, as1, q1, q⟩ := bind_some hm
  obtain ⟨q2, rfl⟩ := opt_some q
  refine a2 G H0 pin ow σ H as x as' _ S q1 fun v H1 ow1 st sm S1 lv => ?_
  cases x with
  | list ds =>
    cases q2
    cases l with
    | B => exact absurd rfl hl
    | I =>
      obtain ⟨a, xs, rfl, r1, r2⟩ := lv
      exact ⟨a, rfl, .inl ⟨xs, r1, k _ H1 ow1 xs (fun H => SqL X.K H a xs) st sm S1 (gives_l fun _ h => h) r2 fun H2 _ h => sqlM (h nofun) r1⟩⟩
    | D =>
      obtain ⟨a, xs, rfl, r1, r2⟩ := it_dp.mpr lv
      exact ⟨a, rfl, .inl ⟨xs, sqlM S1.hd r1, k _ H1 ow1 xs (fun H => SqL X.K H a xs) st sm S1 (gives_l fun _ h => h) r2 fun H2 h _ => sqlM (h rfl) r1⟩⟩
  | tuple ds =>
    cases q2
    have lv : Dp X.K (Hd ow1 G H0 H1) v (.tuple ds) := by
      cases l with
      | B => exact absurd rfl hl
      | I => exact lv
      | D => exact lv
    cases lv with
    | @tup a xs _ r1 r2 =>
      exact ⟨a, rfl, .inr ⟨xs, sqtM S1.hd r1, k _ H1 ow1 xs (fun H => SqT X.K H a xs) st sm S1 (gives_t fun _ h => h) r2 fun H2 h h' => by
        cases l with
        | B => exact absurd rfl hl
        | I => exact sqtM (S1.hd.trans (h' nofun)) r1
        | D => exact sqtM (h rfl) r1⟩⟩
  | none => cases q2
  | bool _ => cases q2
  | int _ => cases q2
  | str _ => cases q2
  | dict _ => cases q2

/-! ### items and slices -/
def fIx : PD → PD → Option Res
  | .list ds, .int i => (atI ds i).map .val
  | .tuple ds, .int i => (atI ds i).map .val
  | .str z, .int i => if z.length ≤ sizeLine then (atI z.cps.toList i).map fun c => .val (.str ⟨#[c]⟩) else none
  | _, _ => none
theorem atI_paired {α β : Type} {F : α → β → Prop} {xs : List α} {ds : List β} {i : Int} {d : β} (h : Paired F xs ds) (e : atI ds i = some d) : ∃ v, atI xs i = some v ∧ F v d := by
  unfold atI at e ⊢
  rw [h.length]
  cases q : ixN ds.length i with
  | none => rw [q] at e; cases e
  | some j =>
    rw [q] at e
    have e : ds[j]? = some d := e
    obtain ⟨h2, e2⟩ := List.getElem?_eq_some_iff.mp e
    have h1 : j < xs.length := by rw [h.length]; exact h2
    refine ⟨xs[j], List.getElem?_eq_getElem h1, ?_⟩
    rw [← e2]
    exact paired_at h j h1 h2
theorem r2o_ix {K : Fg} : R2O K (rIx K) fIx := by
  intro G H x y dx dy res s hx hy hf Q k
  have hy := it_up s hy
  have key : ∀ (v : V) (d : PD), Dp K G v d → OkRes K G H H v (.val d) := fun v d h => by
    show Dp K (gr G H H) v d
    exact dpM (gr_sub s) _ _ h
  cases dy with
  | int i =>
    cases hy
    cases dx with
    | list ds =>
      obtain ⟨a, xs, rfl, r1, r2⟩ := hx
      cases e : atI ds i with
      | none => simp only [fIx, e] at hf; cases hf
      | some d =>
        simp only [fIx, e] at hf
        cases hf
        obtain ⟨v, e2, h2⟩ := atI_paired (of_dpa r2) e
        exact .inl ⟨a, xs, i, v, rfl, rfl, r1, e2, k v H (Same.refl H) (key v d h2)⟩
    | tuple ds =>
      obtain ⟨a, xs, rfl, r1, r2⟩ : ∃ a xs, x = .ref a ∧ SqT K H a xs ∧ DpAll K G xs ds := by
        cases hx with
        | tup r1 r2 => exact ⟨_, _, rfl, sqtM s r1, r2⟩
      cases e : atI ds i with
      | none => simp only [fIx, e] at hf; cases hf
      | some d =>
        simp only [fIx, e] at hf
        cases hf
        obtain ⟨v, e2, h2⟩ := atI_paired (of_dpa r2) e
        exact .inr (.inl ⟨a, xs, i, v, rfl, rfl, r1, e2, k v H (Same.refl H) (key v d h2)⟩)
    | str z =>
      cases hx
      unfold fIx at hf
      simp only at hf
      split at hf
      · rename_i hz
        cases e : atI z.cps.toList i with
        | none => rw [e] at hf; cases hf
        | some c =>
          rw [e] at hf
          cases hf
          exact .inr (.inr ⟨z, i, c, rfl, rfl, hz, e, k _ H (Same.refl H) (key _ _ (Dp.str _))⟩)
      · cases hf
    | none => cases hf
    | bool _ => cases hf
    | int _ => cases hf
    | dict _ => cases hf
  | none => cases dx <;> cases hf
  | bool _ => cases dx <;> cases hf
  | str _ => cases dx <;> cases hf
  | list _ => cases dx <;> cases hf
  | tuple _ => cases dx <;> cases hf
  | dict _ => cases dx <;> cases hf
theorem ef_ix {a b : Expr} {ma mb : M PD} (ha : EV X p1 l a ma) (hb : EV X p2 l1 b mb) (hs : l = .D ∨ p2 = true := by first | exact .inr rfl | exact .inl rfl) (hl : l ≠ .B := by nofun) (hl1 : l1 ≠ .B := by nofun)
    (hp : PlainIx b := by exact fun _ _ => rfl) : EF X (p1 && p2) (.Subscript a b pos) (m2 fIx ma mb) := by
  obtain ⟨ta, tb, e1, e2, q⟩ := ha.two hb hs
  refine ⟨fun z => pur2 ha.pur (fun z _ => hb.pur z) z, _, pe_ix ix_seq e1 e2 hp, fun G H0 pin ow σ H as r as' Q S hm k => ?_⟩
  obtain ⟨x, as1, q1, hm⟩ := bind_some hm
  obtain ⟨y, as2, q2, hm⟩ := bind_some hm
  obtain ⟨q3, rfl⟩ := opt_some hm
  refine q G H0 pin ow σ H as x y as1 as' _ S q1 q2 fun v w H' ow' st sm S' lv lw => ?_
  exact r2o_ix _ _ _ _ _ _ _ S'.hd (lv_it S'.hd hl lv) (lv_it S'.hd hl1 lw) q3 _ fun z H2 s2 okr => fin_o S' st sm s2 okr k
end
end Vl

-- V7
set_option Elab.async false
set_option linter.all false
set_option maxRecDepth 100000
set_option maxHeartbeats 4000000
namespace Vl
open PySem L2
section
variable {X : Cx} {p p1 p2 p3 : Bool} {l l1 : Lv} {pos : Pos}

/-! ### slices -/
def mPart (m : M PD) : M (Option Int) := mBind m fun d => mOpt (match d with | .int i => some (some i) | _ => none)
structure EO (X : Cx) (p : Bool) (e : Option Expr) (m : M (Option Int)) : Prop where
  pur : p = true → ∀ as r as', m as = some (r, as') → as' = as
  ok : ∃ t, PO X e t ∧ ∀ (G H0 : Hp) (pin : Nat → Addr) (ow : Ow) (σ : L2.St) (H : Hp) (as : AS) (r : Option Int) (as' : AS) (Q : Option Int → Hp → Prop), SR X.K G H0 pin ow σ H as → m as = some (r, as') →
    (∀ H' ow', Stp G H0 ow H ow' H' → (p = true → Same H H') → SR X.K G H0 pin ow' σ H' as' → Q r H') → t σ H Q
theorem eo_n : EO X true none (mPure none) := by
  refine ⟨fun _ as r as' h => (pure_some h).2, _, po_none, fun G H0 pin ow σ H as r as' Q S hm k => ?_⟩
  obtain ⟨rfl, rfl⟩ := pure_some hm
  exact k H ow Stp.refl (fun _ => Same.refl _) S
theorem eo_s {e : Expr} {m : M PD} (h : EV X p l e m) : EO X p (some e) (mPart m) := by
  obtain ⟨t, a1, a2⟩ := h.ok
  refine ⟨fun z => pur1 h.pur z, _, po_some a1, fun G H0 pin ow σ H as r as' Q S hm k => ?_⟩
  obtain ⟨x, as1, q1, q⟩ := bind_some hm
  obtain ⟨q2, rfl⟩ := opt_some q
  refine a2 G H0 pin ow σ H as x as' _ S q1 fun v H1 ow1 st sm S1 lv => ?_
  have lv := lv_dp S1.hd lv
  cases x with
  | int i => cases q2; cases lv; exact ⟨i, rfl, k H1 ow1 st sm S1⟩
  | none => cases q2
  | bool _ => cases q2
  | str _ => cases q2
  | list _ => cases q2
  | tuple _ => cases q2
  | dict _ => cases q2
def cutD {α : Type} (xs : List α) (lo hi : Option Int) : List α := (xs.drop (HT.sIx xs.length 0 lo)).take (HT.sIx xs.length xs.length hi - HT.sIx xs.length 0 lo)
def fSl (d : PD) (lo hi : Option Int) : Option Res := match d with
  | .list ds => some (.obj (.ol (cutD ds lo hi)))
  | .tuple ds => some (.val (.tuple (cutD ds lo hi)))
  | _ => none
theorem dpa_take {K : Fg} {H : Hp} : ∀ {vs : List V} {ds : List PD} (n : Nat), DpAll K H vs ds → DpAll K H (vs.take n) (ds.take n)
  | _, _, 0, _ => .nil
  | _, _, _ + 1, .nil => .nil
  | _, _, n + 1, .cons h t => .cons h (dpa_take n t)
theorem dpa_drop {K : Fg} {H : Hp} : ∀ {vs : List V} {ds : List PD} (n : Nat), DpAll K H vs ds → DpAll K H (vs.drop n) (ds.drop n)
  | _, _, 0, h => h
  | _, _, _ + 1, .nil => .nil
  | _, _, n + 1, .cons _ t => dpa_drop n t
theorem dpa_cut {K : Fg} {H : Hp} {vs : List V} {ds : List PD} (lo hi : Option Int) (h : DpAll K H vs ds) : DpAll K H (cutV vs lo hi) (cutD ds lo hi) := by
  unfold cutV cutD
  rw [dpa_len h]
  exact dpa_take _ (dpa_drop _ h)
theorem cut_whole {α : Type} {xs : List α} {lo hi : Option Int} (h : HT.sIx xs.length 0 lo = 0 ∧ HT.sIx xs.length xs.length hi = xs.length) : cutD xs lo hi = xs := by
  unfold cutD
  rw [h.1, h.2]
  simp
def mSl (m : M PD) (ml mh : M (Option Int)) : M Res := mBind m fun d => mBind ml fun lo => mBind mh fun hi => mOpt (fSl d lo hi)
theorem ef_sl {e : Expr} {lo hi : Option Expr} {p2' : Pos} {m : M PD} {ml mh : M (Option Int)} (ha : EV X p1 l e m) (hb : EO X p2 lo ml) (hc : EO X p3 hi mh) (hs : l = .D ∨ (p2 = true ∧ p3 = true) := by first | exact .inr ⟨rfl, rfl⟩ | exact .inl rfl) (hl : l ≠ .B := by nofun) :
    EF X (p1 && (p2 && p3)) (.Subscript e (.Slice lo hi none p2') pos) (mSl m ml mh) := by
  obtain ⟨ta, a1, a2⟩ := ha.ok
  obtain ⟨tb, b1, b2⟩ := hb.ok
  obtain ⟨tc, c1, c2⟩ := hc.ok
  refine ⟨fun z as r as' h => ?_, _, pe_slice (sl_list.or sl_tupA) a1 b1 c1, fun G H0 pin ow σ H as r as' Q S hm k => ?_⟩
  · have z' : p1 = true ∧ p2 = true ∧ p3 = true := by simpa using z
    obtain ⟨d, as1, q1, h⟩ := bind_some h
    obtain ⟨i, as2, q2, h⟩ := bind_some h
    obtain ⟨j, as3, q3, h⟩ := bind_some h
    obtain ⟨_, rfl⟩ := opt_some h
    exact ((hc.pur z'.2.2 _ _ _ q3).trans (hb.pur z'.2.1 _ _ _ q2)).trans (ha.pur z'.1 _ _ _ q1)
  · obtain ⟨d, as1, q1, h⟩ := bind_some hm
    obtain ⟨i, as2, q2, h⟩ := bind_some h
    obtain ⟨j, as3, q3, h⟩ := bind_some h
    obtain ⟨q4, rfl⟩ := opt_some h
    refine a2 G H0 pin ow σ H as d as1 _ S q1 fun v H1 ow1 st1 sm1 S1 lv1 => ?_
    refine b2 G H0 pin ow1 σ H1 as1 i as2 _ S1 q2 fun H2 ow2 st2 sm2 S2 => ?_
    refine c2 G H0 pin ow2 σ H2 as2 j as' _ S2 q3 fun H3 ow3 st3 sm3 S3 => ?_
    have lv := lv_it S3.hd hl (lvM (st2.trans st3).dur (hs.imp id fun z => (sm2 z.1).trans (sm3 z.2)) lv1)
    have st := st1.trans (st2.trans st3)
    have sm : (p1 && (p2 && p3)) = true → Same H H3 := fun z => by
      have z' : p1 = true ∧ p2 = true ∧ p3 = true := by simpa using z
      exact (sm1 z'.1).trans ((sm2 z'.2.1).trans (sm3 z'.2.2))
    cases d with
    | list ds =>
      cases q4
      obtain ⟨a, xs, rfl, r1, r2⟩ := lv
      refine .inl ⟨a, xs, rfl, r1, fun b hb => ?_⟩
      refine fin_o S3 st sm (fun c x e => by rw [upd_ne (ne_of_none e hb)]; exact e) (v := .ref b) (res := .obj (.ol (cutD ds i j))) ?_ k
      exact ⟨b, rfl, hb, _, upd_same, dpaM (rm_sub S3.hd hb) _ _ (dpa_cut i j r2)⟩
    | tuple ds =>
      cases q4
      cases lv with
      | @tup a xs _ r1 r2 =>
      refine .inr ⟨a, xs, rfl, sqtM S3.hd r1, fun hw => ?_, fun hw b hb => ?_⟩
      · have hw' := hw
        rw [dpa_len r2] at hw'
        rw [cut_whole hw'] at k
        exact k _ H3 ow3 st sm S3 (Dp.tup r1 r2)
      · refine fin_o S3 st sm (fun c x e => by rw [upd_ne (ne_of_none e hb)]; exact e) (v := .ref b) (res := .val (.tuple (cutD ds i j))) ?_ k
        exact Dp.tup (SqT.of (by unfold gr; rw [if_pos hb]; exact upd_same)) (dpaM (gr_sub S3.hd) _ _ (dpa_cut i j r2))
    | none => cases q4
    | bool _ => cases q4
    | int _ => cases q4
    | str _ => cases q4
    | dict _ => cases q4

/-! ### methods that change a list of one's own -/
def slotL (as : AS) (i : Nat) : Option (List PD) := match as[i]? with
  | some (.own (.ol xs)) => some xs
  | some (.io (.ol xs)) => some xs
  | _ => none
def setL (as : AS) (i : Nat) (xs : List PD) : AS := match as[i]? with
  | some (.io _) => as.set i (.io (.ol xs))
  | _ => as.set i (.own (.ol xs))
section
variable {K : Fg} {G H0 H H' : Hp} {pin : Nat → Addr} {ow ow' : Ow} {σ : L2.St} {as : AS} {i : Nat} {xs xs' : List PD}
theorem SR.atL (S : SR K G H0 pin ow σ H as) (e : slotL as i = some xs) : ∃ a vs, σ[i]? = some (some (.ref a)) ∧ ow a = some (some i) ∧ H a = some (.lst vs) ∧ DpAll K (Hd ow G H0 H) vs xs := by
  unfold slotL at e
  split at e
  · rename_i q
    cases e
    obtain ⟨a, q1, w, vs, hv, hd⟩ := S.slot i _ q
    exact ⟨a, vs, q1, w, hv, hd⟩
  · rename_i q
    cases e
    obtain ⟨a, q1, w, _, vs, hv, hd⟩ := S.slot i _ q
    exact ⟨a, vs, q1, w, hv, hd⟩
  · cases e
theorem SR.newL (S : SR K G H0 pin ow σ H as) (e : slotL as i = some xs) {a : Addr} {vs' : List V} (hz : σ[i]? = some (some (.ref a))) (w : ow a = some (some i)) (h : DpAll K (Hd ow G H0 H) vs' xs') :
    SR K G H0 pin ow σ (upd H a (.lst vs')) (setL as i xs') ∧ Stp G H0 ow H ow (upd H a (.lst vs')) := by
  have S1 := S.tell (i := i) (s := .un) fun _ => trivial
  obtain ⟨S2, s2⟩ := S1.write (a := a) (u := .lst vs') (by rw [w]; exact nofun) fun j t ht q => by
    rw [w] at q
    cases q
    by_cases hl : i < as.length
    · rw [List.getElem?_set_self hl] at ht
      cases ht
      trivial
    · rw [List.getElem?_eq_none (by rw [List.length_set]; omega)] at ht; cases ht
  have ob : ObjAt K (Hd ow G H0 (upd H a (.lst vs'))) (upd H a (.lst vs')) a (.ol xs') := ⟨vs', upd_same, dpaM s2 _ _ h⟩
  refine ⟨?_, s2, fun b hb => ⟨hb, upd_ne fun q => ?_⟩, fun b hb => ?_⟩
  · unfold slotL at e
    unfold setL
    split at e
    · rename_i q
      simp only [q]
      have S3 := S2.tell (i := i) (s := .own (.ol xs')) fun _ => ⟨a, hz, w, ob⟩
      rw [List.set_set] at S3; exact S3
    · rename_i q
      simp only [q]
      obtain ⟨b, q1, w1, hp, _⟩ := S.slot i _ q
      rw [hz] at q1
      cases q1
      have S3 := S2.tell (i := i) (s := .io (.ol xs')) fun _ => ⟨a, hz, w, hp, ob⟩
      rw [List.set_set] at S3; exact S3
    · cases e
  · subst q; rw [w] at hb; cases hb
  · by_cases q : b = a
    · subst q; rw [upd_same]; exact nofun
    · rw [upd_ne q]; exact hb
end
def RmL (K : Fg) (r : V → List V → Hp → VK → Prop) (f : List PD → List PD → Option (PD × List PD)) : Prop := ∀ (G H : Hp) (a : Addr) (vs ws : List V) (xs ds : List PD) (d : PD) (xs' : List PD), Same G H → H a = some (.lst vs) → DpAll K G vs xs → DpAll K G ws ds → f xs ds = some (d, xs') →
  ∀ Q : VK, (∀ v vs', DpAll K G vs' xs' → Dp K G v d → Q v (upd H a (.lst vs'))) → r (.ref a) ws H Q
def mMth (i : Nat) (f : List PD → List PD → Option (PD × List PD)) (ms : M (List PD)) : M PD := fun as => match slotL as i with
  | none => none
  | some _ => match ms as with
    | none => none
    | some (ds, as1) => match slotL as1 i with
      | none => none
      | some xs => match f xs ds with
        | none => none
        | some (d, xs') => some (d, setL as1 i xs')
variable {name : Str} {apos cpos npos : Pos} {id : String} {r : V → List V → Hp → VK → Prop} {f : List PD → List PD → Option (PD × List PD)}
theorem ev_mth {i : Nat} {x : Str} {e : Expr} {es : List Expr} {ms : M (List PD)} (slot : PySem.Slot "list" name id) (hty : typeOf (.builtin id) = pure (.type "method_descriptor")) (hm : MtR X id r) (hr : RmL X.K r f) (ha : EA X p .D (e :: es) ms)
    (hN : X.N[i]? = some x := by rfl) (hv : Vis X.env.scope x := by first | exact Or.inl rfl | exact Or.inr (Or.inl rfl) | exact Or.inr (Or.inr rfl)) (hd : (x == ("__debug__" : Str)) = false := by decide)
    (hcd : (x == ("__classdict__" : Str)) = false := by decide)
    (hbase : attributeBase (.Name x npos) name X.env (eval (.Name x npos) X.env) = eval (.Name x npos) X.env := by rfl)
    (hfew : ((backTo cpos (starEach (e :: es) X.env)).all (fun x => !x.1) && (backToKw cpos (keywordEach [] X.env)).all (fun x => x.1.isSome)
      && decide ((e :: es).length + ([] : List Keyword).length + (if ([] : List Keyword).isEmpty then 0 else 1) < 30)) = true := by rfl)
    (hline : (apos.endLine == cpos.line) = true := by rfl) (hs : starEach (e :: es) X.env = (false, eval e X.env) :: starEach es X.env := by rfl) (hplain : (backTo cpos (starEach es X.env)).any (·.1) = false := by rfl) :
    EV X false .D (.Call (.Attribute (.Name x npos) name apos) (e :: es) [] cpos) (mMth i f ms) := by
  obtain ⟨t, a1, a2⟩ := ha.ok
  refine ⟨fun z => (by cases z), _, pe_bm PySem.F.plainAttrs_list slot hty hm (pe_var hN hv hd hcd) a1 hbase hfew hline hs hplain, fun G H0 pin ow σ H as d as' Q S hm k => ?_⟩
  unfold mMth at hm
  split at hm
  · cases hm
  rename_i xs0 q0
  obtain ⟨a, vs0, hz, w0, hv0, _⟩ := S.atL q0
  refine ⟨_, hz, .inl ⟨rfl, _, SqL.of hv0⟩, ?_⟩
  split at hm
  · cases hm
  rename_i ds as1 q1
  refine a2 G H0 pin ow σ H as ds as1 _ S q1 fun ws H1 ow1 st sm S1 lv => ?_
  split at hm
  · cases hm
  rename_i xs q2
  split at hm
  · cases hm
  rename_i d' xs' q3
  cases hm
  obtain ⟨b, vs, hz1, w1, hv1, hd1⟩ := S1.atL q2
  rw [hz] at hz1
  cases hz1
  refine hr _ H1 a vs ws xs ds d xs' S1.hd hv1 hd1 (dpa_of lv) q3 _ fun v vs' h1 h2 => ?_
  obtain ⟨S2, st2⟩ := S1.newL q2 hz w1 h1
  exact k v _ ow1 (st.trans st2) (fun z => by cases z) S2 (dpM st2.dur _ _ h2)
theorem ev_mth0 {i : Nat} {x : Str} (slot : PySem.Slot "list" name id) (hty : typeOf (.builtin id) = pure (.type "method_descriptor")) (hm : MtR X id r) (hr : RmL X.K r f)
    (hN : X.N[i]? = some x := by rfl) (hv : Vis X.env.scope x := by first | exact Or.inl rfl | exact Or.inr (Or.inl rfl) | exact Or.inr (Or.inr rfl)) (hd : (x == ("__debug__" : Str)) = false := by decide)
    (hcd : (x == ("__classdict__" : Str)) = false := by decide)
    (hbase : attributeBase (.Name x npos) name X.env (eval (.Name x npos) X.env) = eval (.Name x npos) X.env := by rfl) (hline : (apos.endLine == cpos.line) = true := by rfl) :
    EV X false .D (.Call (.Attribute (.Name x npos) name apos) [] [] cpos) (mMth i f (mPure [])) := by
  refine ⟨fun z => (by cases z), _, pe_bm0 PySem.F.plainAttrs_list slot hty hm (pe_var hN hv hd hcd) hbase hline, fun G H0 pin ow σ H as d as' Q S hm k => ?_⟩
  unfold mMth at hm
  split at hm
  · cases hm
  rename_i xs0 q0
  obtain ⟨a, vs0, hz, w0, hv0, hd0⟩ := S.atL q0
  refine ⟨_, hz, .inl ⟨rfl, _, SqL.of hv0⟩, ?_⟩
  simp only [mPure, q0] at hm
  split at hm
  · cases hm
  rename_i d' xs' q3
  cases hm
  refine hr _ H a vs0 [] xs0 [] d xs' S.hd hv0 hd0 .nil q3 _ fun v vs' h1 h2 => ?_
  obtain ⟨S2, st2⟩ := S.newL q0 hz w0 h1
  exact k v _ ow st2 (fun z => by cases z) S2 (dpM st2.dur _ _ h2)
def fAppend : List PD → List PD → Option (PD × List PD) := fun xs ds => match ds with
  | [d] => if xs.length < sizeLine then some (.none, xs ++ [d]) else none
  | _ => none
theorem rm_append {K : Fg} : RmL K rAppend fAppend := by
  intro G H a vs ws xs ds d xs' s ha hv hw hf Q k
  unfold fAppend at hf
  split at hf
  · split at hf
    · rename_i hz
      cases hf
      obtain ⟨w, rfl, q⟩ := one_of (of_dpa hw)
      exact ⟨a, vs, w, rfl, rfl, ha, by rw [dpa_len hv]; exact hz, k .non _ (dpa_of (paired_snoc (of_dpa hv) q)) Dp.non⟩
    · cases hf
  · cases hf
def fPop : List PD → List PD → Option (PD × List PD) := fun xs ds => match ds with
  | [] => (xs[xs.length - 1]?).map fun d => (d, xs.dropLast)
  | _ => none
theorem dpa_at {K : Fg} {H : Hp} {vs : List V} {ds : List PD} (h : DpAll K H vs ds) {j : Nat} {d : PD} (e : ds[j]? = some d) : ∃ v, vs[j]? = some v ∧ Dp K H v d := by
  obtain ⟨h2, e2⟩ := List.getElem?_eq_some_iff.mp e
  have h1 : j < vs.length := by rw [dpa_len h]; exact h2
  refine ⟨vs[j], List.getElem?_eq_getElem h1, ?_⟩
  rw [← e2]
  exact paired_at (of_dpa h) j h1 h2
theorem rm_pop {K : Fg} : RmL K rPop fPop := by
  intro G H a vs ws xs ds d xs' s ha hv hw hf Q k
  unfold fPop at hf
  split at hf
  · cases e : xs[xs.length - 1]? with
    | none => rw [e] at hf; cases hf
    | some y =>
      rw [e] at hf
      cases hf
      cases hw
      obtain ⟨v, e2, q⟩ := dpa_at hv e
      refine ⟨a, vs, v, rfl, rfl, ha, by rw [dpa_len hv]; exact e2, k v _ ?_ q⟩
      rw [List.dropLast_eq_take, List.dropLast_eq_take, dpa_len hv]
      exact dpa_take _ hv
  · cases hf
def fRev : List PD → List PD → Option (PD × List PD) := fun xs ds => match ds with
  | [] => some (.none, xs.reverse)
  | _ => none
theorem dpa_rev {K : Fg} {H : Hp} : ∀ {vs : List V} {ds : List PD}, DpAll K H vs ds → DpAll K H vs.reverse ds.reverse
  | _, _, .nil => .nil
  | _, _, .cons h t => by
    rw [List.reverse_cons, List.reverse_cons]
    exact dpa_of (paired_snoc (of_dpa (dpa_rev t)) h)
theorem rm_rev {K : Fg} : RmL K rReverse fRev := by
  intro G H a vs ws xs ds d xs' s ha hv hw hf Q k
  unfold fRev at hf
  split at hf
  · cases hf
    cases hw
    exact ⟨a, vs, rfl, rfl, ha, k .non _ (dpa_rev hv) Dp.non⟩
  · cases hf

/-! ### targets that change an object: x[i] = e -/
structure EH (X : Cx) (tg : Expr) (g : PD → AS → Option AS) : Prop where
  ok : ∃ t, PG X tg t ∧ ∀ (G H0 : Hp) (pin : Nat → Addr) (ow : Ow) (σ : L2.St) (H : Hp) (as : AS) (v : V) (d : PD) (as' : AS) (Q : L2.St → Hp → Prop), SR X.K G H0 pin ow σ H as → Dp X.K (Hd ow G H0 H) v d → g d as = some as' →
    (∀ σ' H' ow', Same (Hd ow G H0 H) (Hd ow' G H0 H') → SR X.K G H0 pin ow' σ' H' as' → Q σ' H') → t v σ H Q
theorem EG.h {tg : Expr} {is : List Nat} {g : PD → AS → Option AS} (h : EG X tg is g) : EH X tg g := by
  obtain ⟨t, a1, a2⟩ := h.ok
  exact ⟨t, a1, fun G H0 pin ow σ H as v d as' Q S hd hg k => a2 G H0 pin ow σ H as v d as' Q S hd hg fun σ' ow' st S' _ _ => k σ' H ow' st.dur S'⟩
def gSet (i : Nat) (m : M PD) : PD → AS → Option AS := fun d as => match slotL as i with
  | none => none
  | some _ => match m as with
    | some (.int k, as1) => match slotL as1 i with
      | none => none
      | some xs => match ixN xs.length k with
        | none => none
        | some j => some (setL as1 i (xs.set j d))
    | _ => none
theorem dpa_set {K : Fg} {H : Hp} {v : V} {d : PD} (q : Dp K H v d) : ∀ {vs : List V} {ds : List PD} (j : Nat), DpAll K H vs ds → DpAll K H (vs.set j v) (ds.set j d)
  | _, _, _, .nil => .nil
  | _, _, 0, .cons _ t => .cons q t
  | _, _, j + 1, .cons h t => .cons h (dpa_set q j t)
theorem eh_set {i : Nat} {x : Str} {npos : Pos} {idx : Expr} {m : M PD} (h : EV X p l idx m)
    (hN : X.N[i]? = some x := by rfl) (hv : Vis X.env.scope x := by first | exact Or.inl rfl | exact Or.inr (Or.inl rfl) | exact Or.inr (Or.inr rfl)) (hd : (x == ("__debug__" : Str)) = false := by decide)
    (hcd : (x == ("__classdict__" : Str)) = false := by decide)
    (hasg : ∀ v, assign (.Subscript (.Name x npos) idx pos) X.env v = (do
      let c ← holding [v] (eval (.Name x npos) X.env)
      let b ← holding [v, c] (eval idx X.env)
      standAt pos
      holding [v, c, b] (setItem c b v)
      release [v, c, b] []) := by intro _; rfl) : EH X (.Subscript (.Name x npos) idx pos) (gSet i m) := by
  obtain ⟨t, a1, a2⟩ := h.ok
  refine ⟨_, pg_sub (pe_var hN hv hd hcd) a1 set_list hasg, fun G H0 pin ow σ H as v d as' Q S hd hg k => ?_⟩
  unfold gSet at hg
  split at hg
  · cases hg
  rename_i xs0 q0
  obtain ⟨a, vs0, hz, w0, hv0, hd0⟩ := S.atL q0
  split at hg
  · rename_i n as1 q1
    split at hg
    · cases hg
    rename_i xs q2
    split at hg
    · cases hg
    rename_i j q3
    cases hg
    refine ⟨_, hz, ?_⟩
    refine a2 G H0 pin ow σ H as _ as1 _ S q1 fun w H1 ow1 st sm S1 lv => ?_
    have lv := lv_dp S1.hd lv
    cases lv
    obtain ⟨b, vs, hz1, w1, hv1, hd1⟩ := S1.atL q2
    rw [hz] at hz1
    cases hz1
    have hdv := dpM st.dur _ _ hd
    obtain ⟨S2, st2⟩ := S1.newL q2 hz w1 (dpa_set hdv j hd1)
    exact ⟨a, vs, n, j, rfl, rfl, hv1, by rw [dpa_len hd1]; exact q3, k σ _ ow1 (st.dur.trans st2.dur) S2⟩
  · cases hg
end
end Vl

-- V8
set_option Elab.async false
set_option linter.all false
set_option maxRecDepth 100000
set_option maxHeartbeats 4000000
namespace Vl
open PySem L2
section
variable {X : Cx} {p p1 p2 p3 : Bool} {l l1 : Lv} {pos : Pos}
structure EHs (X : Cx) (ts : List Expr) (n : Nat) (g : List PD → AS → Option AS) : Prop where
  ok : ∃ t, PGs X ts t ∧ ∀ (G H0 : Hp) (pin : Nat → Addr) (ow : Ow) (σ : L2.St) (H : Hp) (as : AS) (vs : List V) (ds : List PD) (as' : AS) (Q : L2.St → Hp → Prop), SR X.K G H0 pin ow σ H as → DpAll X.K (Hd ow G H0 H) vs ds → g ds as = some as' →
    (∀ σ' H' ow', Same (Hd ow G H0 H) (Hd ow' G H0 H') → SR X.K G H0 pin ow' σ' H' as' → Q σ' H') → t vs σ H Q
  len : ∀ ds as as', g ds as = some as' → ds.length = n
theorem ehs_nil : EHs X [] 0 gNil := by
  refine ⟨⟨_, pgs_nil, fun G H0 pin ow σ H as vs ds as' Q S hd hg k => ?_⟩, fun ds as as' h => ?_⟩
  · cases ds with
    | nil =>
      cases hg
      cases hd
      exact ⟨rfl, k σ H ow (Same.refl _) S⟩
    | cons _ _ => cases hg
  · cases ds with
    | nil => rfl
    | cons _ _ => cases h
theorem ehs_cons {e : Expr} {es : List Expr} {n : Nat} {g : PD → AS → Option AS} {gs : List PD → AS → Option AS} (h1 : EH X e g) (h2 : EHs X es n gs)
    (hs : List.map (fun x => x.2) (assignEach (e :: es) X.env) = assign e X.env :: List.map (fun x => x.2) (assignEach es X.env) := by rfl) : EHs X (e :: es) (n + 1) (gCons g gs) := by
  obtain ⟨t, a1, a2⟩ := h1.ok
  obtain ⟨u, b1, b2⟩ := h2.ok
  refine ⟨⟨_, pgs_cons a1 b1 hs, fun G H0 pin ow σ H as vs ds as' Q S hd hg k => ?_⟩, fun ds as as' h => ?_⟩
  · cases hd with
    | nil => cases hg
    | @cons v vs d ds q r =>
      cases hg1 : g d as with
      | none => unfold gCons at hg; simp only [hg1] at hg; cases hg
      | some as1 =>
        have hg : gs ds as1 = some as' := by unfold gCons at hg; simp only [hg1] at hg; exact hg
        refine ⟨v, vs, rfl, ?_⟩
        refine a2 G H0 pin ow σ H as v d as1 _ S q hg1 fun σ1 H1 ow1 s1 S1 => ?_
        exact b2 G H0 pin ow1 σ1 H1 as1 vs ds as' _ S1 (dpaM s1 _ _ r) hg fun σ2 H2 ow2 s2 S2 => k σ2 H2 ow2 (s1.trans s2) S2
  · cases ds with
    | nil => cases h
    | cons d r =>
      cases hg1 : g d as with
      | none => unfold gCons at h; simp only [hg1] at h; cases h
      | some as1 =>
        have h : gs r as1 = some as' := by unfold gCons at h; simp only [hg1] at h; exact h
        rw [List.length_cons, h2.len _ _ _ h]
theorem eh_tup {es : List Expr} {k : Nat} {n : Nat} {gs : List PD → AS → Option AS} (hc : X.calm = true) (h : EHs X es n gs) (h1 : (assignEach es X.env).length = n := by rfl) (h2 : List.findIdx? (fun x => x.1) (assignEach es X.env) = none := by rfl) : EH X (.Tuple es k pos) (gT gs) := by
  obtain ⟨t, a1, a2⟩ := h.ok
  refine ⟨_, pg_tup hc a1 h1 h2, fun G H0 pin ow σ H as v d as' Q S hd hg k => ?_⟩
  cases d with
  | tuple ds =>
    cases hd with
    | @tup a xs _ q r =>
      refine ⟨a, xs, rfl, sqtM S.hd q, ?_, a2 G H0 pin ow σ H as xs ds as' Q S r hg k⟩
      rw [dpa_len r]; exact h.len _ _ _ hg
  | none => cases hg
  | bool _ => cases hg
  | int _ => cases hg
  | str _ => cases hg
  | list _ => cases hg
  | dict _ => cases hg
theorem es_asgH {tg e : Expr} {g : PD → AS → Option AS} {m : M PD} (he : EV X p .D e m) (hg : EH X tg g) (hs : swapsWithSole [tg] e pos.line X.env = pure false := by rfl) (hw : swappedStores [tg] e X.env = pure none := by rfl)
    (h3 : List.map (fun x => x.2) (assignEach [tg] X.env) = [assign tg X.env] := by rfl) : ES X (.Assign [tg] e pos) (sAsg g m) := by
  obtain ⟨t, a1, a2⟩ := he.ok
  obtain ⟨u, b1, b2⟩ := hg.ok
  refine ⟨_, ps_asg a1 b1 hs hw h3, fun G H0 pin ow σ H as c as' D S hm k => ?_⟩
  unfold sAsg at hm
  split at hm
  · cases hm
  · rename_i d as1 q
    refine a2 G H0 pin ow σ H as d as1 _ S q fun v H1 ow1 st sm S1 lv => ?_
    split at hm
    · cases hm
    · rename_i as2 q2
      cases hm
      exact b2 G H0 pin ow1 σ H1 as1 v d _ _ S1 lv q2 fun σ2 H2 ow2 s2 S2 => k _ _ _ (st.dur.trans s2) S2

/-! ### and, or as values; a if t else b -/
theorem ev_one {op : BoolOp} {a : Expr} {m : M PD} (h : EV X p l a m) : EV X p l (.BoolOp op [a] pos) m := by
  obtain ⟨t, a1, a2⟩ := h.ok
  exact ⟨h.pur, t, pe_one a1, a2⟩
def mAndV (m n : M PD) : M PD := mBind m fun d => match d with
  | .bool c => if c = true then n else mPure (.bool false)
  | _ => fun _ => none
def mOrV (m n : M PD) : M PD := mBind m fun d => match d with
  | .bool c => if c = true then mPure (.bool true) else n
  | _ => fun _ => none
variable {a b c : Expr} {rest : List Expr} {ma mb : M PD}
theorem ev_and (ha : EV X p1 l a ma) (hb : EV X p2 .D (.BoolOp .And (b :: rest) pos) mb) : EV X (p1 && p2) .D (.BoolOp .And (a :: b :: rest) pos) (mAndV ma mb) := by
  obtain ⟨ta, a1, a2⟩ := ha.ok
  obtain ⟨tb, b1, b2⟩ := hb.ok
  refine ⟨fun z as r as' h => ?_, _, pe_and a1 b1, fun G H0 pin ow σ H as r as' Q S hm k => ?_⟩
  · have z' : p1 = true ∧ p2 = true := by simpa using z
    obtain ⟨d, as1, q1, q⟩ := bind_some h
    cases d with
    | bool c =>
      cases c with
      | true => exact (hb.pur z'.2 _ _ _ q).trans (ha.pur z'.1 _ _ _ q1)
      | false => exact (pure_some q).2.trans (ha.pur z'.1 _ _ _ q1)
    | none => cases q
    | int _ => cases q
    | str _ => cases q
    | list _ => cases q
    | tuple _ => cases q
    | dict _ => cases q
  · obtain ⟨d, as1, q1, q⟩ := bind_some hm
    refine a2 G H0 pin ow σ H as d as1 _ S q1 fun v H1 ow1 st1 sm1 S1 lv => ?_
    have lv := lv_dp S1.hd lv
    cases d with
    | bool c =>
      cases lv
      refine ⟨c, rfl, ?_⟩
      cases c with
      | true =>
        refine iteT (b2 G H0 pin ow1 σ H1 as1 r as' Q S1 q fun v H2 ow2 st2 sm2 S2 => k v H2 ow2 (st1.trans st2) (fun z => ?_) S2)
        have z' : p1 = true ∧ p2 = true := by simpa using z
        exact (sm1 z'.1).trans (sm2 z'.2)
      | false =>
        obtain ⟨rfl, rfl⟩ := pure_some q
        refine iteF (k _ H1 ow1 st1 (fun z => ?_) S1 (Dp.bl false))
        have z' : p1 = true ∧ p2 = true := by simpa using z
        exact sm1 z'.1
    | none => cases q
    | int _ => cases q
    | str _ => cases q
    | list _ => cases q
    | tuple _ => cases q
    | dict _ => cases q
theorem ev_or (ha : EV X p1 l a ma) (hb : EV X p2 .D (.BoolOp .Or (b :: rest) pos) mb) : EV X (p1 && p2) .D (.BoolOp .Or (a :: b :: rest) pos) (mOrV ma mb) := by
  obtain ⟨ta, a1, a2⟩ := ha.ok
  obtain ⟨tb, b1, b2⟩ := hb.ok
  refine ⟨fun z as r as' h => ?_, _, pe_or a1 b1, fun G H0 pin ow σ H as r as' Q S hm k => ?_⟩
  · have z' : p1 = true ∧ p2 = true := by simpa using z
    obtain ⟨d, as1, q1, q⟩ := bind_some h
    cases d with
    | bool c =>
      cases c with
      | false => exact (hb.pur z'.2 _ _ _ q).trans (ha.pur z'.1 _ _ _ q1)
      | true => exact (pure_some q).2.trans (ha.pur z'.1 _ _ _ q1)
    | none => cases q
    | int _ => cases q
    | str _ => cases q
    | list _ => cases q
    | tuple _ => cases q
    | dict _ => cases q
  · obtain ⟨d, as1, q1, q⟩ := bind_some hm
    refine a2 G H0 pin ow σ H as d as1 _ S q1 fun v H1 ow1 st1 sm1 S1 lv => ?_
    have lv := lv_dp S1.hd lv
    cases d with
    | bool c =>
      cases lv
      refine ⟨c, rfl, ?_⟩
      cases c with
      | false =>
        refine iteF (b2 G H0 pin ow1 σ H1 as1 r as' Q S1 q fun v H2 ow2 st2 sm2 S2 => k v H2 ow2 (st1.trans st2) (fun z => ?_) S2)
        have z' : p1 = true ∧ p2 = true := by simpa using z
        exact (sm1 z'.1).trans (sm2 z'.2)
      | true =>
        obtain ⟨rfl, rfl⟩ := pure_some q
        refine iteT (k _ H1 ow1 st1 (fun z => ?_) S1 (Dp.bl true))
        have z' : p1 = true ∧ p2 = true := by simpa using z
        exact sm1 z'.1
    | none => cases q
    | int _ => cases q
    | str _ => cases q
    | list _ => cases q
    | tuple _ => cases q
    | dict _ => cases q
/-- not e, as a value -/
theorem ev_not (ha : EV X p l a ma) : EV X p .D (.UnaryOp .Not a pos) (mBind (m1 asB ma) fun c => mPure (.bool !c)) := by
  obtain ⟨ta, a1, a2⟩ := ha.ok
  refine ⟨fun z as r as' h => ?_, _, pe_not a1, fun G H0 pin ow σ H as r as' Q S hm k => ?_⟩
  · obtain ⟨d, as1, q1, q⟩ := bind_some h
    obtain ⟨_, rfl⟩ := pure_some q
    exact pur1 ha.pur z _ _ _ q1
  · obtain ⟨d, as1, q1, q⟩ := bind_some hm
    obtain ⟨rfl, rfl⟩ := pure_some q
    obtain ⟨x, as2, q2, q⟩ := bind_some q1
    obtain ⟨q3, rfl⟩ := opt_some q
    refine a2 G H0 pin ow σ H as x as' _ S q2 fun v H1 ow1 st1 sm1 S1 lv => ?_
    have lv := lv_dp S1.hd lv
    cases x with
    | bool c => cases q3; cases lv; exact ⟨_, rfl, k _ H1 ow1 st1 sm1 S1 (Dp.bl _)⟩
    | none => cases q3
    | int _ => cases q3
    | str _ => cases q3
    | list _ => cases q3
    | tuple _ => cases q3
    | dict _ => cases q3
def mIte {α : Type} (c : M Bool) (m n : M α) : M α := mBind c fun z => if z = true then m else n
theorem ev_if {mc : M Bool} (hc : ET X p1 c mc) (ha : EV X p2 l a ma) (hb : EV X p3 l b mb) : EV X (p1 && (p2 && p3)) l (.IfExp c a b pos) (mIte mc ma mb) := by
  obtain ⟨tc, c1, c2⟩ := hc.ok
  obtain ⟨ta, a1, a2⟩ := ha.ok
  obtain ⟨tb, b1, b2⟩ := hb.ok
  refine ⟨fun z as r as' h => ?_, _, pe_ifExp c1 a1 b1, fun G H0 pin ow σ H as r as' Q S hm k => ?_⟩
  · have z' : p1 = true ∧ p2 = true ∧ p3 = true := by simpa using z
    obtain ⟨d, as1, q1, q⟩ := bind_some h
    cases d with
    | true => exact (ha.pur z'.2.1 _ _ _ q).trans (hc.pur z'.1 _ _ _ q1)
    | false => exact (hb.pur z'.2.2 _ _ _ q).trans (hc.pur z'.1 _ _ _ q1)
  · obtain ⟨d, as1, q1, q⟩ := bind_some hm
    refine c2 G H0 pin ow σ H as d as1 _ S q1 fun H1 ow1 st1 sm1 S1 => ?_
    cases d with
    | true =>
      refine iteT (a2 G H0 pin ow1 σ H1 as1 r as' Q S1 q fun v H2 ow2 st2 sm2 S2 => k v H2 ow2 (st1.trans st2) (fun z => ?_) S2)
      have z' : p1 = true ∧ p2 = true ∧ p3 = true := by simpa using z
      exact (sm1 z'.1).trans (sm2 z'.2.1)
    | false =>
      refine iteF (b2 G H0 pin ow1 σ H1 as1 r as' Q S1 q fun v H2 ow2 st2 sm2 S2 => k v H2 ow2 (st1.trans st2) (fun z => ?_) S2)
      have z' : p1 = true ∧ p2 = true ∧ p3 = true := by simpa using z
      exact (sm1 z'.1).trans (sm2 z'.2.2)
end

/-! ### a def's body keeps its promise -/
def startA (n : Nat) (ds : List PD) : AS := ds.map .dur ++ List.replicate (n - ds.length) .un
def runP (n k : Nat) (m : MS) : List PD → Option Res := fun ds => if ds.length = k then
    match m (startA n ds) with
    | some (.rt r, _) => some r
    | some (.nx, _) => some (.val .none)
    | _ => none
  else none
theorem hd_gr {G H H' : Hp} {ow' : Ow} : Same (Hd ow' G H H') (gr G H H') := fun b x e => by
  unfold Hd at e
  unfold gr
  split at e
  · exact e
  · cases e
theorem hd_rm {G H H' : Hp} {ow' : Ow} {a : Addr} (w : ow' a ≠ none) : Same (Hd ow' G H H') (rm a (gr G H H')) := fun b x e => by
  have hb : b ≠ a := fun q => by subst q; rw [hd_free w] at e; cases e
  unfold rm
  rw [if_neg hb]
  exact hd_gr b x e
theorem ok_of_rt {K : Fg} {G H H' : Hp} {pin : Nat → Addr} {ow' : Ow} {σ' : L2.St} {as' : AS} {v : V} {r : Res} (S : SR K G H pin ow' σ' H' as') (h : RtR K G H ow' H' v r) : OkRes K G H H' v r := by
  cases r with
  | val d => exact dpM hd_gr _ _ h
  | obj o =>
    obtain ⟨a, e, w, ob⟩ := h
    exact ⟨a, e, (S.own a _ w).1, objM (hd_rm (by rw [w]; exact nofun)) rfl ob⟩
theorem start_sr {K : Fg} {G H : Hp} {vs : List V} {ds : List PD} (N : List Str) (pin : Nat → Addr) (s : Same G H) (h : DpAll K G vs ds) (hN : ds.length ≤ N.length) : SR K G H pin (fun _ => none) (L2.start N vs) H (startA N.length ds) := by
  have hl := dpa_len h
  have hd : Same G (Hd (fun _ => none) G H H) := fun b x e => by
    rw [hd_own rfl, if_neg (by rw [s b x e]; exact nofun)]; exact e
  refine ⟨?_, fun a o e => (by cases e), Same.refl _, s, fun i t e => ?_⟩
  · unfold startA L2.start
    simp [hl]
  · unfold startA at e
    unfold L2.start
    by_cases hi : i < ds.length
    · rw [List.getElem?_append_left (by simpa using hi), List.getElem?_map] at e
      cases q : ds[i]? with
      | none => rw [q] at e; cases e
      | some d =>
        rw [q] at e
        cases e
        obtain ⟨v, e2, q2⟩ := dpa_at h q
        refine ⟨v, ?_, dpM hd _ _ q2⟩
        rw [List.getElem?_append_left (by simpa [hl] using hi), List.getElem?_map, e2]
        rfl
    · rw [List.getElem?_append_right (by simpa using hi), List.getElem?_replicate] at e
      split at e
      · cases e; trivial
      · cases e
section
variable {P : Program} {w : World} {K : Fg} {mg : Str → Option Value} {base : Heap}
theorem fn_raw {x qual : Str} {st : Stmt} {f : Addr} {fd : FuncData} {N ps : List Str} {k : Nat} {m : MS} (Fu : Fun K x qual st f fd) (S : FnScope N ps (defScope st)) (hl : ps.length ≤ N.length)
    (body : ∀ (cdv : Value) (A : Around) (outer : List Env) (s : Shared) (H : Hp) (E : XK), Room k (A.deeper (PyProof.Rows.envOfC qual (defScope st) s.heap.objs.size f cdv)) →
      ESs (cxOf CX0 P w K mg base N qual (defScope st) f cdv A outer s H E).nox (defBody st) m) : FnOk P w K mg base CX0 (k + 1) f fd ps (SpP K (runP N.length ps.length m)) := by
  refine Fu.ok S (fun vs H Q E h => ?_) (fun cdv A outer s H vs Q E hr h => ?_)
  · obtain ⟨G, ds, res, _, hd, hf, _⟩ := h
    unfold runP at hf
    split at hf
    · rename_i e
      rw [dpa_len hd]; exact e
    · cases hf
  · obtain ⟨G, ds, res, sg, hd, hf, k⟩ := h
    unfold runP at hf
    split at hf
    · rename_i e
      obtain ⟨t, a1, a2⟩ := (body cdv A outer s H E hr).ok
      have SS := start_sr N (fun _ => 0) sg hd (by rw [e]; exact hl)
      refine ⟨t, a1, ?_⟩
      split at hf
      · rename_i r as' q
        cases hf
        exact a2 G H (fun _ => 0) _ _ H _ _ as' _ SS q fun v σ' H' ow' s' S' rr => k v H' S'.same (ok_of_rt S' rr)
      · rename_i as' q
        cases hf
        exact a2 G H (fun _ => 0) _ _ H _ _ as' _ SS q fun σ' H' ow' s' S' => k .non H' S'.same Dp.non
      · cases hf
    · cases hf
theorem fn_pure {x qual : Str} {st : Stmt} {f : Addr} {fd : FuncData} {N ps : List Str} {k : Nat} {m : MS} (Fu : Fun K x qual st f fd) (hm : mg x = some (.ref f)) (S : FnScope N ps (defScope st)) (hb : Binds K fd ps []) (hl : ps.length ≤ N.length)
    (body : ∀ (cdv : Value) (A : Around) (outer : List Env) (s : Shared) (H : Hp) (E : XK), Room k (A.deeper (PyProof.Rows.envOfC qual (defScope st) s.heap.objs.size f cdv)) →
      ESs (cxOf CX0 P w K mg base N qual (defScope st) f cdv A outer s H E).nox (defBody st) m) : Fn P w K mg base (k + 1) x (runP N.length ps.length m) :=
  ⟨f, fd, ps, fn_raw Fu S hl body, hm, Fu.kp, hb⟩
/-- the def of which nothing is promised -/
theorem fn_zero {x qual : Str} {st : Stmt} {f : Addr} {fd : FuncData} {N ps : List Str} {k : Nat} (Fu : Fun K x qual st f fd) (hm : mg x = some (.ref f)) (S : FnScope N ps (defScope st)) (hb : Binds K fd ps []) : Fn P w K mg base (k + 1) x (fun _ => none) := by
  refine ⟨f, fd, ps, Fu.ok S (fun vs H Q E h => ?_) (fun cdv A outer s H vs Q E hr h => ?_), hm, Fu.kp, hb⟩
  · obtain ⟨_, _, _, _, _, hf, _⟩ := h
    cases hf
  · obtain ⟨_, _, _, _, _, hf, _⟩ := h
    cases hf
/-- the law's own promise -/
def spLaw (K : Fg) : Sp := fun vs H Q _ => ∃ (a : Addr) (ns : List Int), vs = [.ref a] ∧ SqL K H a (ns.map V.int) ∧ ns.length ≤ 63 ∧ ∀ H1, Q (.bl true) H1
theorem dpa_int {K : Fg} {H : Hp} : ∀ ns : List Int, DpAll K H (ns.map V.int) (ns.map .int)
  | [] => .nil
  | n :: ns => .cons (Dp.int n) (dpa_int ns)
theorem law_end {k : Nat} {f : Addr} {fd : FuncData} {F : List PD → Option Res} (h : FnOk P w K mg base CX0 k f fd ["script"] (SpP K F)) (t : ∀ ns : List Int, ns.length ≤ 63 → F [.list (ns.map .int)] = some (.val (.bool true))) : FnOk P w K mg base CX0 k f fd ["script"] (spLaw K) := by
  have key : ∀ vs H Q E, spLaw K vs H Q E → SpP K F vs H Q E := fun vs H Q E ⟨a, ns, hv, hs, hl, q⟩ => by
    subst hv
    refine ⟨H, [.list (ns.map .int)], _, Same.refl H, .cons (Dp.lst hs (dpa_int ns)) .nil, t ns hl, fun v H' _ ok => ?_⟩
    cases ok
    exact q H'
  exact ⟨fun vs H Q E hv => h.len vs H Q E (key vs H Q E hv), fun A outer s H args us vs Q E hr h0 hb hv hs => h.run A outer s H args us vs Q E hr h0 hb hv (key vs H Q E hs)⟩
theorem room65 {k : Nat} {A : Around} (h : Room k A) : A.units + 65 < cLine := by
  have := h.un
  omega
end

/-! ### defs that change a list that is lent to them -/
/-- the promise of a def that changes its j-th argument -/
def SpI (K : Fg) (j : Nat) (F : Obj → List PD → Option (PD × Obj)) : Sp := fun vs H Q _ => ∃ (G : Hp) (v1 v2 : List V) (a : Addr) (o : Obj) (d1 d2 : List PD) (res : PD) (o' : Obj), vs = v1 ++ .ref a :: v2 ∧ v1.length = j ∧ Same G H ∧ G a = none ∧ ObjAt K G H a o ∧ DpAll K G v1 d1 ∧ DpAll K G v2 d2 ∧
  F o (d1 ++ d2) = some (res, o') ∧ ∀ v H', (∀ b x, b ≠ a → H b = some x → H' b = some x) → ObjAt K (gr G H H') H' a o' → Dp K (gr G H H') v res → Q v H'
structure Fi (P : Program) (w : World) (K : Fg) (mg : Str → Option Value) (base : Heap) (k : Nat) (x : Str) (j : Nat) (F : Obj → List PD → Option (PD × Obj)) : Prop where
  ex : ∃ f fd ps, FnOk P w K mg base CX0 k f fd ps (SpI K j F) ∧ mg x = some (.ref f) ∧ PySem.W.keepIn K (.ref f) = true ∧ Binds K fd ps []
/-- arguments, the j-th one the name of slot i, lent -/
structure EC (X : Cx) (p : Bool) (j i : Nat) (es : List Expr) (m : M (List PD)) : Prop where
  pur : p = true → ∀ as r as', m as = some (r, as') → as' = as
  ok : ∃ t, PA X es t ∧ ∀ (G H0 : Hp) (pin : Nat → Addr) (ow : Ow) (σ : L2.St) (H : Hp) (as : AS) (r : List PD) (as' : AS) (a : Addr) (Q : List V → Hp → Prop), SR X.K G H0 pin ow σ H as → σ[i]? = some (some (.ref a)) → m as = some (r, as') →
    (∀ v1 v2 d1 d2 H' ow', Stp G H0 ow H ow' H' → (p = true → Same H H') → SR X.K G H0 pin ow' σ H' as' → v1.length = j → r = d1 ++ d2 → DpAll X.K (Hd ow' G H0 H') v1 d1 → DpAll X.K (Hd ow' G H0 H') v2 d2 → Q (v1 ++ .ref a :: v2) H') → t σ H Q
section
variable {X : Cx} {p p1 p2 p3 : Bool} {l l1 : Lv} {pos : Pos}
theorem ec_here {i : Nat} {x : Str} {npos : Pos} {es : List Expr} {ms : M (List PD)} (ha : EA X p .D es ms)
    (hN : X.N[i]? = some x := by rfl) (hv : Vis X.env.scope x := by first | exact Or.inl rfl | exact Or.inr (Or.inl rfl) | exact Or.inr (Or.inr rfl)) (hd : (x == ("__debug__" : Str)) = false := by decide)
    (hcd : (x == ("__classdict__" : Str)) = false := by decide) (hst : starEach (.Name x npos :: es) X.env = (false, eval (.Name x npos) X.env) :: starEach es X.env := by rfl) : EC X p 0 i (.Name x npos :: es) ms := by
  obtain ⟨t, a1, a2⟩ := ha.ok
  refine ⟨ha.pur, _, pa_cons (pe_var hN hv hd hcd) a1 hst, fun G H0 pin ow σ H as r as' a Q S hz hm k => ?_⟩
  refine ⟨_, hz, ?_⟩
  exact a2 G H0 pin ow σ H as r as' _ S hm fun vs H1 ow1 st sm S1 lv => k [] vs [] r H1 ow1 st sm S1 rfl rfl .nil (dpa_of lv)
theorem ec_there {i j : Nat} {e : Expr} {es : List Expr} {m : M PD} {ms : M (List PD)} (ha : EV X p1 .D e m) (hr : EC X p2 j i es ms)
    (hst : starEach (e :: es) X.env = (false, eval e X.env) :: starEach es X.env := by rfl) : EC X (p1 && p2) (j + 1) i (e :: es) (mCons m ms) := by
  obtain ⟨ta, a1, a2⟩ := ha.ok
  obtain ⟨tb, b1, b2⟩ := hr.ok
  refine ⟨fun z as r as' h => ?_, _, pa_cons a1 b1 hst, fun G H0 pin ow σ H as r as' a Q S hz hm k => ?_⟩
  · have z' : p1 = true ∧ p2 = true := by simpa using z
    obtain ⟨x, as1, q1, q⟩ := bind_some h
    obtain ⟨y, as2, q2, q⟩ := bind_some q
    obtain ⟨_, rfl⟩ := pure_some q
    exact (hr.pur z'.2 _ _ _ q2).trans (ha.pur z'.1 _ _ _ q1)
  · obtain ⟨x, as1, q1, q⟩ := bind_some hm
    obtain ⟨y, as2, q2, q⟩ := bind_some q
    obtain ⟨rfl, rfl⟩ := pure_some q
    refine a2 G H0 pin ow σ H as x as1 _ S q1 fun v H1 ow1 st1 sm1 S1 lv1 => ?_
    refine b2 G H0 pin ow1 σ H1 as1 y as' a _ S1 hz q2 fun v1 v2 d1 d2 H2 ow2 st2 sm2 S2 e1 e2 r1 r2 => ?_
    refine k (v :: v1) v2 (x :: d1) d2 H2 ow2 (st1.trans st2) (fun z => ?_) S2 (by rw [List.length_cons, e1]) (by rw [e2]; rfl) (.cons (dpM st2.dur _ _ lv1) r1) r2
    have z' : p1 = true ∧ p2 = true := by simpa using z
    exact (sm1 z'.1).trans (sm2 z'.2)
def slotO (as : AS) (i : Nat) : Option Obj := match as[i]? with
  | some (.own o) => some o
  | some (.io o) => some o
  | _ => none
def setO (as : AS) (i : Nat) (o : Obj) : AS := match as[i]? with
  | some (.io _) => as.set i (.io o)
  | _ => as.set i (.own o)
def mCallI (i : Nat) (F : Obj → List PD → Option (PD × Obj)) (ms : M (List PD)) : M PD := fun as => match slotO as i with
  | none => none
  | some _ => match ms as with
    | none => none
    | some (ds, as1) => match slotO as1 i with
      | none => none
      | some o => match F o ds with
        | none => none
        | some (r, o') => some (r, setO as1 i o')
theorem SR.atO {K : Fg} {G H0 H : Hp} {pin : Nat → Addr} {ow : Ow} {σ : L2.St} {as : AS} {i : Nat} {o : Obj} (S : SR K G H0 pin ow σ H as) (e : slotO as i = some o) : ∃ a, σ[i]? = some (some (.ref a)) ∧ ow a = some (some i) ∧ ObjAt K (Hd ow G H0 H) H a o := by
  unfold slotO at e
  split at e
  · rename_i q
    cases e
    exact S.slot i _ q
  · rename_i q
    cases e
    obtain ⟨a, q1, w, _, ob⟩ := S.slot i _ q
    exact ⟨a, q1, w, ob⟩
  · cases e
/-- behind a call that may have changed the object of slot i -/
theorem SR.lent {K : Fg} {G H0 H H' : Hp} {pin : Nat → Addr} {ow : Ow} {σ : L2.St} {as : AS} {i : Nat} {o o' : Obj} {a : Addr} (S : SR K G H0 pin ow σ H as) (e : slotO as i = some o) (hz : σ[i]? = some (some (.ref a))) (w : ow a = some (some i))
    (s : ∀ b x, b ≠ a → H b = some x → H' b = some x) (ob : ObjAt K (Vl.gr (Hd ow G H0 H) H H') H' a o') :
    SR K G H0 pin ow σ H' (Vl.setO as i o') ∧ Stp G H0 ow H ow H' ∧ Same (Vl.gr (Hd ow G H0 H) H H') (Hd ow G H0 H') := by
  have h0 := (S.own a _ w).1
  have hs : Same (Hd ow G H0 H) (Hd ow G H0 H') := fun b x q => by
    have hb : b ≠ a := fun z => by subst z; rw [hd_free (by rw [w]; exact nofun)] at q; cases q
    unfold Hd at q ⊢
    split at q
    · rename_i h1
      rw [if_pos h1]
      split at q
      · rename_i h2
        rw [if_pos h2]; exact s b x hb q
      · rename_i h2
        rw [if_neg h2]; exact q
    · cases q
  have hg : Same (Vl.gr (Hd ow G H0 H) H H') (Hd ow G H0 H') := fun b x q => by
    unfold Vl.gr at q
    split at q
    · rename_i h
      obtain ⟨h1, h2⟩ := S.free h
      rw [hd_own h1, if_pos h2]; exact q
    · exact hs b x q
  have hk : ∀ b, b ≠ a → ow b ≠ none → H' b = H b := fun b hb h => by
    cases q1 : ow b with
    | none => exact absurd q1 h
    | some z =>
      cases q : H b with
      | none => exact absurd q (S.own b z q1).2
      | some x => rw [s b x hb q]
  have ob' := objM hg rfl ob
  have S1 : SR K G H0 pin ow σ H' (as.set i .un) := by
    refine ⟨by rw [List.length_set]; exact S.len, fun b x q => ⟨(S.own b x q).1, ?_⟩, fun b x q => s b x (ne_of_none q h0) (S.same b x q), S.sub, fun j t h => ?_⟩
    · by_cases hb : b = a
      · subst hb; exact objS ob'
      · rw [hk b hb (by rw [q]; exact nofun)]; exact (S.own b x q).2
    · by_cases hj : i = j
      · subst hj
        by_cases hl : i < as.length
        · rw [List.getElem?_set_self hl] at h
          cases h; trivial
        · rw [List.getElem?_eq_none (by rw [List.length_set]; omega)] at h; cases h
      · rw [List.getElem?_set_ne hj] at h
        refine slotM hs (fun b wb => ⟨wb, hk b (fun q => ?_) (by rw [wb]; exact nofun)⟩) (S.slot j t h)
        subst q
        rw [w] at wb
        exact hj (Option.some.inj (Option.some.inj wb))
  refine ⟨?_, ⟨hs, fun b hb => ⟨hb, hk b (fun q => ?_) (by rw [hb]; exact nofun)⟩, fun b hb => ?_⟩, hg⟩
  · unfold slotO at e
    unfold Vl.setO
    split at e
    · rename_i q
      simp only [q]
      have S3 := S1.tell (i := i) (s := .own o') fun _ => ⟨a, hz, w, ob'⟩
      rw [List.set_set] at S3; exact S3
    · rename_i q
      simp only [q]
      obtain ⟨b, q1, w1, hp, _⟩ := S.slot i _ q
      rw [hz] at q1
      cases q1
      have S3 := S1.tell (i := i) (s := .io o') fun _ => ⟨a, hz, w, hp, ob'⟩
      rw [List.set_set] at S3; exact S3
    · cases e
  · subst q; rw [w] at hb; cases hb
  · by_cases q : b = a
    · subst q; exact objS ob'
    · cases q2 : H b with
      | none => exact absurd q2 hb
      | some x => rw [s b x q q2]; exact nofun
theorem ev_callI {k i j : Nat} {F : Obj → List PD → Option (PD × Obj)} {x : Str} {q : Pos} {e : Expr} {es : List Expr} {ms : M (List PD)} (hf : Fi X.prog X.w X.K X.mg X.base k x j F) (hr : Room k X.A) (ha : EC X p j i (e :: es) ms)
    (hg : Gl X x := by rfl) (hdb : (x == ("__debug__" : Str)) = false := by decide)
    (h3 : starEach (e :: es) X.env = (false, eval e X.env) :: starEach es X.env := by rfl) (h4 : (backTo pos (starEach es X.env)).any (·.1) = false := by rfl) : EV X false .D (.Call (.Name x q) (e :: es) [] pos) (mCallI i F ms) := by
  obtain ⟨f, fd, ps, ok, hm, kp, b⟩ := hf.ex
  obtain ⟨t, a1, a2⟩ := ha.ok
  refine ⟨fun z => (by cases z), _, pe_call ok hr hg hm kp b .nil pass0 a1 hdb h3 h4, fun G H0 pin ow σ H as r as' Q S hm k => ?_⟩
  unfold mCallI at hm
  split at hm
  · cases hm
  rename_i o0 q0
  obtain ⟨a, hz, w0, ob0⟩ := S.atO q0
  split at hm
  · cases hm
  rename_i ds as1 q1
  split at hm
  · cases hm
  rename_i o q2
  split at hm
  · cases hm
  rename_i r' o' q3
  cases hm
  refine a2 G H0 pin ow σ H as ds as1 a _ S hz q1 fun v1 v2 d1 d2 H1 ow1 st sm S1 e1 e2 r1 r2 => ?_
  obtain ⟨a', hz', w1, ob1⟩ := S1.atO q2
  rw [hz] at hz'
  cases hz'
  show SpI X.K j F ((v1 ++ .ref a :: v2) ++ []) H1 Q E0
  rw [List.append_nil]
  refine ⟨Hd ow1 G H0 H1, v1, v2, a, o, d1, d2, r, o', rfl, e1, S1.hd, hd_free (by rw [w1]; exact nofun), ob1, r1, r2, by rw [← e2]; exact q3, fun v H2 s2 ob2 okr => ?_⟩
  obtain ⟨S2, st2, g2⟩ := S1.lent q2 hz w1 s2 ob2
  exact k v H2 ow1 (st.trans st2) (fun z => by cases z) S2 (dpM g2 _ _ okr)

end
def startI (n j : Nat) (o : Obj) (ds : List PD) : AS := (ds.take j).map .dur ++ .io o :: (ds.drop j).map .dur ++ List.replicate (n - (ds.length + 1)) .un
def runI (n k j : Nat) (m : MS) : Obj → List PD → Option (PD × Obj) := fun o ds => if ds.length + 1 = k ∧ j ≤ ds.length then
    match m (startI n j o ds) with
    | some (.rt (.val d), as') => (match as'[j]? with
      | some (.io o') => some (d, o')
      | _ => none)
    | some (.nx, as') => (match as'[j]? with
      | some (.io o') => some (.none, o')
      | _ => none)
    | _ => none
  else none
theorem start_io {K : Fg} {G H : Hp} {v1 v2 : List V} {d1 d2 : List PD} {a : Addr} {o : Obj} (N : List Str) (s : Same G H) (hG : G a = none) (ob : ObjAt K G H a o) (h1 : DpAll K G v1 d1) (h2 : DpAll K G v2 d2) (hN : d1.length + d2.length + 1 ≤ N.length) :
    SR K G (rm a H) (fun _ => a) (fun b => if b = a then some (some d1.length) else none) (L2.start N (v1 ++ .ref a :: v2)) H (startI N.length d1.length o (d1 ++ d2)) := by
  have l1 := dpa_len h1
  have l2 := dpa_len h2
  have sG : Same G (rm a H) := fun b x e => by
    unfold rm
    rw [if_neg (fun q => by subst q; rw [hG] at e; cases e)]
    exact s b x e
  have hd : Same G (Hd (fun b => if b = a then some (some d1.length) else none) G (rm a H) H) := fun b x e => by
    have hb : b ≠ a := fun q => by subst q; rw [hG] at e; cases e
    rw [hd_own (if_neg hb), if_neg (by rw [sG b x e]; exact nofun)]; exact e
  have e1 : (d1 ++ d2).take d1.length = d1 := by rw [List.take_left']; rfl
  have e2 : (d1 ++ d2).drop d1.length = d2 := by rw [List.drop_left']; rfl
  refine ⟨?_, fun b x e => ?_, fun b x e => ?_, sG, fun i t e => ?_⟩
  · unfold startI L2.start
    rw [e1, e2]
    simp [l1, l2]
    omega
  · by_cases hb : b = a
    · subst hb
      exact ⟨by unfold rm; rw [if_pos rfl], objS ob⟩
    · rw [if_neg hb] at e; cases e
  · unfold rm at e
    split at e
    · cases e
    · exact e
  · unfold startI at e
    unfold L2.start
    rw [e1, e2] at e
    have e' : (d1.map Slot.dur ++ (.io o :: (d2.map Slot.dur ++ List.replicate (N.length - ((d1 ++ d2).length + 1)) .un)))[i]? = some t := by
      rw [← e]; simp
    have g' : ((v1 ++ V.ref a :: v2).map some ++ List.replicate (N.length - (v1 ++ V.ref a :: v2).length) (none : Option V))[i]? = (v1.map some ++ (some (V.ref a) :: (v2.map some ++ List.replicate (N.length - (v1 ++ V.ref a :: v2).length) (none : Option V))))[i]? := by simp
    rw [g']
    by_cases hi : i < d1.length
    · rw [List.getElem?_append_left (by simpa using hi), List.getElem?_map] at e'
      rw [List.getElem?_append_left (by simpa [l1] using hi), List.getElem?_map]
      cases q : d1[i]? with
      | none => rw [q] at e'; cases e'
      | some d =>
        rw [q] at e'
        cases e'
        obtain ⟨v, e2, q2⟩ := dpa_at h1 q
        exact ⟨v, by rw [e2]; rfl, dpM hd _ _ q2⟩
    · rw [List.getElem?_append_right (by simpa using hi)] at e'
      rw [List.getElem?_append_right (by simpa [l1] using hi)]
      simp only [List.length_map, l1] at e' ⊢
      cases hk : i - d1.length with
      | zero =>
        rw [hk] at e'
        cases e'
        have : i = d1.length := by omega
        subst this
        exact ⟨a, rfl, by simp, rfl, objM hd rfl ob⟩
      | succ j =>
        rw [hk] at e'
        rw [List.getElem?_cons_succ] at e' ⊢
        by_cases hj : j < d2.length
        · rw [List.getElem?_append_left (by simpa using hj), List.getElem?_map] at e'
          rw [List.getElem?_append_left (by simpa [l2] using hj), List.getElem?_map]
          cases q : d2[j]? with
          | none => rw [q] at e'; cases e'
          | some d =>
            rw [q] at e'
            cases e'
            obtain ⟨v, e2, q2⟩ := dpa_at h2 q
            exact ⟨v, by rw [e2]; rfl, dpM hd _ _ q2⟩
        · rw [List.getElem?_append_right (by simpa using hj), List.getElem?_replicate] at e'
          split at e'
          · cases e'; trivial
          · cases e'
section
variable {P : Program} {w : World} {K : Fg} {mg : Str → Option Value} {base : Heap}
theorem fn_io {x qual : Str} {st : Stmt} {f : Addr} {fd : FuncData} {N ps : List Str} {k j : Nat} {m : MS} (Fu : Fun K x qual st f fd) (hm : mg x = some (.ref f)) (S : FnScope N ps (defScope st)) (hb : Binds K fd ps []) (hl : ps.length ≤ N.length)
    (body : ∀ (cdv : Value) (A : Around) (outer : List Env) (s : Shared) (H : Hp) (E : XK), Room k (A.deeper (PyProof.Rows.envOfC qual (defScope st) s.heap.objs.size f cdv)) →
      ESs (cxOf CX0 P w K mg base N qual (defScope st) f cdv A outer s H E).nox (defBody st) m) : Fi P w K mg base (k + 1) x j (runI N.length ps.length j m) := by
  refine ⟨f, fd, ps, Fu.ok S (fun vs H Q E h => ?_) (fun cdv A outer s H vs Q E hr h => ?_), hm, Fu.kp, hb⟩
  · obtain ⟨G, v1, v2, a, o, d1, d2, res, o', rfl, h1, _, _, _, h2, h3, hf, _⟩ := h
    unfold runI at hf
    split at hf
    · rename_i e
      have := dpa_len h2
      have := dpa_len h3
      have e1 := e.1
      rw [List.length_append] at e1
      rw [List.length_append, List.length_cons]
      omega
    · cases hf
  · obtain ⟨G, v1, v2, a, o, d1, d2, res, o', rfl, h1, sG, hG, ob, h2, h3, hf, k⟩ := h
    unfold runI at hf
    split at hf
    · rename_i e
      obtain ⟨t, a1, a2⟩ := (body cdv A outer s H E hr).ok
      have l1 := dpa_len h2
      have l2 := dpa_len h3
      have e1 := e.1
      rw [List.length_append] at e1
      have hj : j = d1.length := by omega
      subst hj
      have SS := start_io N sG hG ob h2 h3 (by omega)
      have fin : ∀ {σ' : L2.St} {H' : Hp} {ow' : Ow} {as' : AS}, SR K G (rm a H) (fun _ => a) ow' σ' H' as' → as'[d1.length]? = some (.io o') → (∀ b x, b ≠ a → H b = some x → H' b = some x) ∧ ObjAt K (gr G H H') H' a o' ∧ Same (Hd ow' G (rm a H) H') (gr G H H') := fun {σ' H' ow' as'} S' q => by
        obtain ⟨a', _, w', rfl, ob'⟩ := S'.slot _ _ q
        have hs : Same (Hd ow' G (rm a H) H') (gr G H H') := fun b x e => by
          have hb : b ≠ a := fun q => by subst q; rw [hd_free (by rw [w']; exact nofun)] at e; cases e
          unfold Hd rm at e
          rw [if_neg hb] at e
          unfold gr
          split at e
          · exact e
          · cases e
        refine ⟨fun b x hb e => S'.same b x ?_, objM hs rfl ob', hs⟩
        unfold rm
        rw [if_neg hb]; exact e
      refine ⟨t, a1, ?_⟩
      split at hf
      · rename_i d as' q
        split at hf
        · rename_i oz qz
          cases hf
          refine a2 G (rm a H) _ _ _ H _ _ as' _ SS q fun v σ' H' ow' s' S' rr => ?_
          obtain ⟨f1, f2, f3⟩ := fin S' qz
          exact k v H' f1 f2 (dpM f3 _ _ rr)
        · cases hf
      · rename_i as' q
        split at hf
        · rename_i oz qz
          cases hf
          refine a2 G (rm a H) _ _ _ H _ _ as' _ SS q fun σ' H' ow' s' S' => ?_
          obtain ⟨f1, f2, f3⟩ := fin S' qz
          exact k .non H' f1 f2 Dp.non
        · cases hf
      · cases hf
    · cases hf
end
end Vl

-- V9
set_option Elab.async false
set_option linter.all false
set_option maxRecDepth 100000
set_option maxHeartbeats 4000000
namespace Vl
open PySem L2

/-! ### arithmetic -/
def fAdd : PD → PD → Option Res
  | .int i, .int j => some (.val (.int (i + j)))
  | .str x, .str y => if x.length + y.length ≤ sizeLine then some (.val (.str (x ++ y))) else none
  | .tuple a, .tuple b => if a.length + b.length ≤ sizeLine then some (.val (.tuple (a ++ b))) else none
  | .list a, .list b => if a.length + b.length ≤ sizeLine then some (.obj (.ol (a ++ b))) else none
  | _, _ => none
def rCatL (K : Fg) : R2 := fun x y H Q => ∃ l b xs zs, x = .ref l ∧ y = .ref b ∧ SqL K H l xs ∧ SqL K H b zs ∧ xs.length + zs.length ≤ sizeLine ∧ ∀ q, H q = none → Q (.ref q) (upd H q (.lst (xs ++ zs)))
theorem op_catL {X : Cx} : OpR X (binaryOp .Add) (rCatL X.K) := by
  intro pins s σ H x y v u Q I rx ry ⟨l, b, xs, zs, hx, hy, h1, h2, hz, q⟩
  subst hx hy
  cases rx
  cases ry
  obtain ⟨i1, r1, p1, _⟩ := I.list h1
  obtain ⟨i2, r2, p2, _⟩ := I.list h2
  obtain ⟨⟨c1, d1, t1, s1⟩, g1, hc1, n1, ht1⟩ := p1.isList
  obtain ⟨⟨c2, d2, t2, s2⟩, g2, hc2, n2, ht2⟩ := p2.isList
  simp only at hc1 ht1 hc2 ht2
  subst hc1 ht1 hc2 ht2
  have hlen : i1.toArray.size + i2.toArray.size ≤ sizeLine := by rw [List.size_toArray, List.size_toArray, ← r1.length, ← r2.length]; exact hz
  refine concat_meets ⟨_, g1, rfl⟩ ⟨_, g2, rfl⟩ noFill_list_add seq_list_add PySem.F.slot_list_add PySem.F.entry_list_add (PySem.F.args_list_add_2 _ _) (PyProof.Rows.list_addW l b i1.toArray i2.toArray n1 n2 d1 d2 s1 s2 hlen) ⟨g1, g2, ?_⟩
  rw [show i1.toArray ++ i2.toArray = (i1 ++ i2).toArray by simp]
  exact ⟨.ref _, _, I.lnew (t' := s.toks) (r1.append r2) (by rw [List.length_append]; omega), rfl, q _ I.fresh⟩
theorem dpa_app {K : Fg} {H : Hp} : ∀ {vs ws : List V} {ds es : List PD}, DpAll K H vs ds → DpAll K H ws es → DpAll K H (vs ++ ws) (ds ++ es)
  | _, _, _, _, .nil, h => h
  | _, _, _, _, .cons h t, k => .cons h (dpa_app t k)
theorem upd_grow {H : Hp} {q : Addr} {o : HO} (h : H q = none) : Same H (upd H q o) := fun b x e => by
  rw [upd_ne (ne_of_none e h)]; exact e
theorem ok_tup {K : Fg} {G H : Hp} {q : Addr} {vs : List V} {ds : List PD} (s : Same G H) (hq : H q = none) (h : DpAll K G vs ds) : OkRes K G H (upd H q (.tup vs)) (.ref q) (.val (.tuple ds)) :=
  Dp.tup (SqT.of (by unfold gr; rw [if_pos hq]; exact upd_same)) (dpaM (gr_sub s) _ _ h)
theorem ok_lst {K : Fg} {G H : Hp} {q : Addr} {vs : List V} {ds : List PD} (s : Same G H) (hq : H q = none) (h : DpAll K G vs ds) : OkRes K G H (upd H q (.lst vs)) (.ref q) (.obj (.ol ds)) :=
  ⟨q, rfl, hq, vs, upd_same, dpaM (rm_sub s hq) _ _ h⟩
theorem ok_val {K : Fg} {G H H' : Hp} {v : V} {d : PD} (s : Same G H) (h : Dp K G v d) : OkRes K G H H' v (.val d) := dpM (gr_sub s) _ _ h
theorem ok_nil {K : Fg} {G H H' : Hp} {v : V} {d : PD} (h : Dp K nil v d) : OkRes K G H H' v (.val d) := dpM same_nil _ _ h
theorem r2o_add {K : Fg} : R2O K (fun x y H Q => (rI0 fun i j => .int (i + j)) x y H Q ∨ (∃ i j, x = .str i ∧ y = .str j ∧ i.length + j.length ≤ sizeLine ∧ Q (.str (i ++ j)) H) ∨ rCatA K x y H Q ∨ rCatL K x y H Q) fAdd := by
  intro G H x y dx dy res s hx hy hf Q k
  unfold fAdd at hf
  split at hf
  · cases hf
    cases hx
    cases hy
    exact .inl ⟨_, _, rfl, rfl, k _ H (Same.refl H) (ok_nil (Dp.int _))⟩
  · split at hf
    · rename_i hz
      cases hf
      cases hx
      cases hy
      exact .inr (.inl ⟨_, _, rfl, rfl, hz, k _ H (Same.refl H) (ok_nil (Dp.str _))⟩)
    · cases hf
  · split at hf
    · rename_i a b hz
      cases hf
      cases hx with
      | @tup l xs _ q1 r1 =>
      cases hy with
      | @tup l2 ys _ q2 r2 =>
      have e1 := dpa_len r1
      have e2 := dpa_len r2
      refine .inr (.inr (.inl ⟨l, l2, xs, ys, rfl, rfl, sqtM s q1, sqtM s q2, by omega, fun h => ?_, fun _ h => ?_, fun _ _ q hq => k _ _ (upd_grow hq) (ok_tup s hq (dpa_app r1 r2))⟩))
      · subst h
        cases r1
        exact k _ H (Same.refl H) (ok_val s (Dp.tup q2 r2))
      · subst h
        cases r2
        rw [List.append_nil] at k
        exact k _ H (Same.refl H) (ok_val s (Dp.tup q1 r1))
    · cases hf
  · split at hf
    · rename_i a b hz
      cases hf
      obtain ⟨l, xs, rfl, q1, r1⟩ := hx
      obtain ⟨l2, ys, rfl, q2, r2⟩ := hy
      have e1 := dpa_len r1
      have e2 := dpa_len r2
      exact .inr (.inr (.inr ⟨l, l2, xs, ys, rfl, rfl, q1, q2, by omega, fun q hq => k _ _ (upd_grow hq) (ok_lst s hq (dpa_app r1 r2))⟩))
    · cases hf
  · cases hf
theorem or_add {X : Cx} : OpR X (binaryOp .Add) (fun x y H Q => (rI0 fun i j => .int (i + j)) x y H Q ∨ (∃ i j, x = .str i ∧ y = .str j ∧ i.length + j.length ≤ sizeLine ∧ Q (.str (i ++ j)) H) ∨ rCatA X.K x y H Q ∨ rCatL X.K x y H Q) :=
  op_add.or (op_add_str.or (op_catA.or op_catL))
section
variable {X : Cx} {a b : Expr} {p p1 p2 : Bool} {l l1 : Lv} {ma mb : M PD} {pos : Pos}
theorem ef_add (ha : EV X p1 l a ma) (hb : EV X p2 l1 b mb) (hs : l = .D ∨ p2 = true := by first | exact .inr rfl | exact .inl rfl) (hl : l ≠ .B := by nofun) (hl1 : l1 ≠ .B := by nofun) : EF X (p1 && p2) (.BinOp a .Add b pos) (m2 fAdd ma mb) := ef_op or_add r2o_add ha hb hs hl hl1
def fInt (g : Int → Int → Option PD) : PD → PD → Option PD
  | .int i, .int j => g i j
  | _, _ => none
theorem r2s_int {K : Fg} {C : Int → Int → Prop} {g : Int → Int → V} {f : Int → Int → Option PD} (h : ∀ i j d, f i j = some d → C i j ∧ Dp K nil (g i j) d) : R2S K (rI C g) (fInt f) := by
  intro H x y dx dy d hx hy hf Q k
  unfold fInt at hf
  split at hf
  · cases hx
    cases hy
    obtain ⟨h1, h2⟩ := h _ _ _ hf
    exact ⟨_, _, rfl, rfl, h1, k _ H (Same.refl H) h2⟩
  · cases hf
theorem r2s_int0 {K : Fg} {g : Int → Int → V} {f : Int → Int → Option PD} (h : ∀ i j d, f i j = some d → Dp K nil (g i j) d) : R2S K (rI0 g) (fInt f) := by
  intro H x y dx dy d hx hy hf Q k
  unfold fInt at hf
  split at hf
  · cases hx
    cases hy
    exact ⟨_, _, rfl, rfl, k _ H (Same.refl H) (h _ _ _ hf)⟩
  · cases hf
def iSub (i j : Int) : Option PD := some (.int (i - j))
def iDiv (i j : Int) : Option PD := if 0 < j ∧ j.natAbs < 18446744073709551616 then some (.int (i / j)) else none
def iMod (i j : Int) : Option PD := if 0 < j then some (.int (i % j)) else none
def iPow (i j : Int) : Option PD := if 0 ≤ j ∧ j ≤ 1000000 ∧ i.natAbs < 18446744073709551616 then some (.int (i ^ j.toNat)) else none
def mulOk (i j : Int) : Bool := decide (i.natAbs < 18446744073709551616) || decide (j.natAbs < 18446744073709551616) || decide (i.natAbs.log2 + j.natAbs.log2 < 1000000)
def iMul (i j : Int) : Option PD := if mulOk i j = true then some (.int (i * j)) else none
theorem ev_sub (ha : EV X p1 l a ma) (hb : EV X p2 l1 b mb) (hs : l = .D ∨ p2 = true := by first | exact .inr rfl | exact .inl rfl) : EV X (p1 && p2) .D (.BinOp a .Sub b pos) (m2 (fInt iSub) ma mb) := ev_op op_sub (r2s_int0 fun i j d h => by cases h; exact Dp.int _) ha hb hs
theorem ev_div (ha : EV X p1 l a ma) (hb : EV X p2 l1 b mb) (hs : l = .D ∨ p2 = true := by first | exact .inr rfl | exact .inl rfl) : EV X (p1 && p2) .D (.BinOp a .FloorDiv b pos) (m2 (fInt iDiv) ma mb) := ev_op op_fdivW (r2s_int fun i j d h => by
  unfold iDiv at h
  split at h
  · rename_i hc
    cases h
    exact ⟨wide_div hc.1 (b := 64) (by have := hc.2; omega) (by decide) (by decide), Dp.int _⟩
  · cases h) ha hb hs
theorem ev_mod (ha : EV X p1 l a ma) (hb : EV X p2 l1 b mb) (hs : l = .D ∨ p2 = true := by first | exact .inr rfl | exact .inl rfl) : EV X (p1 && p2) .D (.BinOp a .Mod b pos) (m2 (fInt iMod) ma mb) := ev_op op_mod (r2s_int fun i j d h => by
  unfold iMod at h
  split at h
  · rename_i hc
    cases h
    exact ⟨hc, Dp.int _⟩
  · cases h) ha hb hs
theorem ev_pow (ha : EV X p1 l a ma) (hb : EV X p2 l1 b mb) (hs : l = .D ∨ p2 = true := by first | exact .inr rfl | exact .inl rfl) : EV X (p1 && p2) .D (.BinOp a .Pow b pos) (m2 (fInt iPow) ma mb) := ev_op op_pow (r2s_int fun i j d h => by
  unfold iPow at h
  split at h
  · rename_i hc
    cases h
    exact ⟨⟨hc.1, hc.2.1, by have := hc.2.2; omega⟩, Dp.int _⟩
  · cases h) ha hb hs
/-- a product: of ints; of a list or tuple and an int -/
def fMul : PD → PD → Option Res
  | .int i, .int j => (iMul i j).map .val
  | .list ds, .int k => if -(2 ^ 63) ≤ k ∧ k < 2 ^ 63 ∧ ds.length * k.toNat ≤ sizeLine then some (.obj (.ol (List.replicate k.toNat ds).flatten)) else none
  | .tuple ds, .int k => if ds ≠ [] ∧ 2 ≤ k ∧ k ≤ 1000 ∧ ds.length ≤ 1000 then some (.val (.tuple (List.replicate k.toNat ds).flatten)) else none
  | _, _ => none
theorem dpa_rep {K : Fg} {H : Hp} {vs : List V} {ds : List PD} (h : DpAll K H vs ds) : ∀ n : Nat, DpAll K H (List.replicate n vs).flatten (List.replicate n ds).flatten
  | 0 => .nil
  | n + 1 => by
    rw [List.replicate_succ, List.replicate_succ, List.flatten_cons, List.flatten_cons]
    exact dpa_app h (dpa_rep h n)
/-- list * int, a list that is read -/
def rRepL (K : Fg) : R2 := fun x y H Q => ∃ l k xs, x = .ref l ∧ y = .int k ∧ H l = some (.lst xs) ∧ -(2 ^ 63) ≤ k ∧ k < 2 ^ 63 ∧ xs.length * k.toNat ≤ sizeLine ∧ ∀ q, H q = none → Q (.ref q) (upd H q (.lst (List.replicate k.toNat xs).flatten))
def fMulN (x y : PD) : Option Res := match x with
  | .list _ => none
  | _ => fMul x y
theorem r2o_mul {K : Fg} : R2O K (fun x y H Q => (rI CMul fun i j => .int (i * j)) x y H Q ∨ (rI CMulW fun i j => .int (i * j)) x y H Q ∨ rRepT K x y H Q) fMulN := by
  intro G H x y dx dy res s hx hy hf Q k
  cases dx with
  | list ds => cases hf
  | int i =>
    cases dy with
    | int j =>
      simp only [fMulN, fMul, iMul] at hf
      split at hf
      · rename_i hc
        cases hf
        cases hx
        cases hy
        unfold mulOk at hc
        simp only [Bool.or_eq_true, decide_eq_true_eq] at hc
        rcases hc with (hc | hc) | hc
        · exact .inl ⟨_, _, rfl, rfl, .inl (by omega), k _ H (Same.refl H) (ok_nil (Dp.int _))⟩
        · exact .inl ⟨_, _, rfl, rfl, .inr (by omega), k _ H (Same.refl H) (ok_nil (Dp.int _))⟩
        · exact .inr (.inl ⟨_, _, rfl, rfl, hc, k _ H (Same.refl H) (ok_nil (Dp.int _))⟩)
      · cases hf
    | none => cases hf
    | bool _ => cases hf
    | str _ => cases hf
    | list _ => cases hf
    | tuple _ => cases hf
    | dict _ => cases hf
  | tuple ds =>
    cases dy with
    | int j =>
      simp only [fMulN, fMul] at hf
      split at hf
      · rename_i hc
        cases hf
        cases hx with
        | @tup l xs _ q1 r1 =>
        cases hy
        have e1 := dpa_len r1
        refine .inr (.inr ⟨l, j, xs, rfl, rfl, sqtM s q1, fun h => ?_, hc.2.1, hc.2.2.1, by omega, fun q hq => k _ _ (upd_grow hq) (ok_tup s hq (dpa_rep r1 _))⟩)
        subst h
        cases r1
        exact hc.1 rfl
      · cases hf
    | none => cases hf
    | bool _ => cases hf
    | str _ => cases hf
    | list _ => cases hf
    | tuple _ => cases hf
    | dict _ => cases hf
  | none => cases hf
  | bool _ => cases hf
  | str _ => cases hf
  | dict _ => cases hf
theorem ef_mul (ha : EV X p1 l a ma) (hb : EV X p2 l1 b mb) (hs : l = .D ∨ p2 = true := by first | exact .inr rfl | exact .inl rfl) (hl : l ≠ .B := by nofun) (hl1 : l1 ≠ .B := by nofun) : EF X (p1 && p2) (.BinOp a .Mult b pos) (m2 fMulN ma mb) := ef_op (op_mul.or (op_mulW.or op_repT)) r2o_mul ha hb hs hl hl1
def fNeg : PD → Option PD
  | .int i => some (.int (-i))
  | _ => none
theorem ev_neg (ha : EV X p l a ma) : EV X p .D (.UnaryOp .USub a pos) (m1 fNeg ma) := by
  obtain ⟨ta, a1, a2⟩ := ha.ok
  refine ⟨fun z => pur1 ha.pur z, _, pe_un un_neg a1, fun G H0 pin ow σ H as r as' Q S hm k => ?_⟩
  obtain ⟨x, as1, q1, q⟩ := bind_some hm
  obtain ⟨q2, rfl⟩ := opt_some q
  refine a2 G H0 pin ow σ H as x as' _ S q1 fun v H1 ow1 st sm S1 lv => ?_
  have lv := lv_dp S1.hd lv
  cases x with
  | int i => cases q2; cases lv; exact ⟨i, rfl, k _ H1 ow1 st sm S1 (Dp.int _)⟩
  | none => cases q2
  | bool _ => cases q2
  | str _ => cases q2
  | list _ => cases q2
  | tuple _ => cases q2
  | dict _ => cases q2

/-! ### comparisons -/
def cLt (i j : Int) : Option PD := some (.bool (decide (i < j)))
def cLe (i j : Int) : Option PD := some (.bool (decide (i ≤ j)))
def cGt (i j : Int) : Option PD := some (.bool (decide (j < i)))
def cGe (i j : Int) : Option PD := some (.bool (decide (j ≤ i)))
theorem r2s_lt {K : Fg} : R2S K (rI0 fun i j => .bl (decide (i < j))) (fInt cLt) := r2s_int0 fun i j d h => by cases h; exact Dp.bl _
theorem r2s_le {K : Fg} : R2S K (rI0 fun i j => .bl (decide (i ≤ j))) (fInt cLe) := r2s_int0 fun i j d h => by cases h; exact Dp.bl _
theorem r2s_gt {K : Fg} : R2S K (rI0 fun i j => .bl (decide (j < i))) (fInt cGt) := r2s_int0 fun i j d h => by cases h; exact Dp.bl _
theorem r2s_ge {K : Fg} : R2S K (rI0 fun i j => .bl (decide (j ≤ i))) (fInt cGe) := r2s_int0 fun i j d h => by cases h; exact Dp.bl _
def fEq (x y : PD) : Option PD := if SeqAt.shaped x = true ∧ SeqAt.shaped y = true then some (.bool (PyData.eqv x y)) else none
def fNe (x y : PD) : Option PD := if SeqAt.shaped x = true ∧ SeqAt.shaped y = true then some (.bool (!PyData.eqv x y)) else none
theorem r2s_eq {K : Fg} : R2S K (rEqD K) fEq := by
  intro H x y dx dy d hx hy hf Q k
  unfold fEq at hf
  split at hf
  · rename_i hc
    cases hf
    exact ⟨dx, dy, hx, hy, hc.1, hc.2, k _ H (Same.refl H) (Dp.bl _)⟩
  · cases hf
theorem r2s_ne {K : Fg} : R2S K (rNeD K) fNe := by
  intro H x y dx dy d hx hy hf Q k
  unfold fNe at hf
  split at hf
  · rename_i hc
    cases hf
    exact ⟨dx, dy, hx, hy, hc.1, hc.2, k _ H (Same.refl H) (Dp.bl _)⟩
  · cases hf
def isN : PD → Bool
  | .none => true
  | _ => false
def fIs (x y : PD) : Option PD := if isN y = true then some (.bool (isN x)) else none
def fIsNot (x y : PD) : Option PD := if isN y = true then some (.bool (!isN x)) else none
theorem isN_dp {K : Fg} {H : Hp} {v : V} {d : PD} (h : Dp K H v d) : decide (v = .non) = isN d := by
  cases h <;> simp [isN]
theorem r2s_is {K : Fg} : R2S K (fun x y H Q => y = .non ∧ Q (.bl (decide (x = .non))) H) fIs := by
  intro H x y dx dy d hx hy hf Q k
  unfold fIs at hf
  split at hf
  · rename_i hc
    cases hf
    have := isN_dp hy
    rw [hc] at this
    refine ⟨by simpa using this, ?_⟩
    rw [isN_dp hx]
    exact k _ H (Same.refl H) (Dp.bl _)
  · cases hf
theorem r2s_isnot {K : Fg} : R2S K (fun x y H Q => y = .non ∧ Q (.bl (!decide (x = .non))) H) fIsNot := by
  intro H x y dx dy d hx hy hf Q k
  unfold fIsNot at hf
  split at hf
  · rename_i hc
    cases hf
    have := isN_dp hy
    rw [hc] at this
    refine ⟨by simpa using this, ?_⟩
    rw [isN_dp hx]
    exact k _ H (Same.refl H) (Dp.bl _)
  · cases hf
/-- x in a list, a tuple -/
def fIn (x y : PD) : Option PD := match y with
  | .list ds => if SeqAt.shaped x = true ∧ SeqAt.shaped (.list ds) = true then some (.bool (ds.any fun z => PyData.eqv z x)) else none
  | .tuple ds => if SeqAt.shaped x = true ∧ SeqAt.shaped (.tuple ds) = true then some (.bool (ds.any fun z => PyData.eqv z x)) else none
  | _ => none
def fNotIn (x y : PD) : Option PD := (fIn x y).bind fun d => match d with
  | .bool b => some (.bool !b)
  | _ => none
def rInT (K : Fg) (neg : Bool) : R2 := fun x y H Q => ∃ d ds, Dp K H x d ∧ Dp K H y (.tuple ds) ∧ SeqAt.shaped d = true ∧ SeqAt.shaped (.tuple ds) = true ∧ Q (.bl (if neg then !(ds.any fun z => PyData.eqv z d) else ds.any fun z => PyData.eqv z d)) H
theorem op_inT (hu : X.A.units + 65 < cLine) : OpR X (compareOp .In) (rInT X.K false) := by
  intro pins s σ H x y v u Q I rx ry ⟨d, ds, hd, he, sd, se, q⟩
  obtain ⟨as, r1⟩ := Dp.reads I d x v hd rx
  obtain ⟨bs, r2⟩ := Dp.reads I (.tuple ds) y u he ry
  exact SeqAt.in_tuple_reads r2 r1 (by simpa [PyData.canLay0] using SeqAt.canLay_of_shaped se) (SeqAt.canLay_of_shaped sd) (PyProof.Rows.room_in_shaped sd hu) ⟨.bl _, H, I, rfl, q⟩
theorem op_notInT (hu : X.A.units + 65 < cLine) : OpR X (compareOp .NotIn) (rInT X.K true) := by
  intro pins s σ H x y v u Q I rx ry ⟨d, ds, hd, he, sd, se, q⟩
  obtain ⟨as, r1⟩ := Dp.reads I d x v hd rx
  obtain ⟨bs, r2⟩ := Dp.reads I (.tuple ds) y u he ry
  exact SeqAt.notIn_tuple_reads r2 r1 (by simpa [PyData.canLay0] using SeqAt.canLay_of_shaped se) (SeqAt.canLay_of_shaped sd) (PyProof.Rows.room_in_shaped sd hu) ⟨.bl _, H, I, rfl, q⟩
theorem r2s_in {K : Fg} : R2S K (fun x y H Q => rInD K x y H Q ∨ rInT K false x y H Q) fIn := by
  intro H x y dx dy d hx hy hf Q k
  unfold fIn at hf
  split at hf
  · split at hf
    · rename_i hc
      cases hf
      exact .inl ⟨dx, _, hx, hy, hc.1, hc.2, k _ H (Same.refl H) (Dp.bl _)⟩
    · cases hf
  · split at hf
    · rename_i hc
      cases hf
      exact .inr ⟨dx, _, hx, hy, hc.1, hc.2, k _ H (Same.refl H) (Dp.bl _)⟩
    · cases hf
  · cases hf
theorem r2s_notin {K : Fg} : R2S K (fun x y H Q => rNotInD K x y H Q ∨ rInT K true x y H Q) fNotIn := by
  intro H x y dx dy d hx hy hf Q k
  unfold fNotIn fIn at hf
  split at hf
  · split at hf
    · rename_i hc
      cases hf
      exact .inl ⟨dx, _, hx, hy, hc.1, hc.2, k _ H (Same.refl H) (Dp.bl _)⟩
    · cases hf
  · split at hf
    · rename_i hc
      cases hf
      exact .inr ⟨dx, _, hx, hy, hc.1, hc.2, k _ H (Same.refl H) (Dp.bl _)⟩
    · cases hf
  · cases hf
end
end Vl

-- V10
set_option Elab.async false
set_option linter.all false
set_option maxRecDepth 100000
set_option maxHeartbeats 4000000
namespace Vl
open PySem L2

/-! ### calls of what is built in, one by one -/
def fLen : List PD → Option PD
  | [.list ds] => some (.int (ds.length : Int))
  | [.tuple ds] => some (.int (ds.length : Int))
  | [.str z] => if z.length ≤ sizeLine then some (.int (z.length : Int)) else none
  | _ => none
theorem rns_len {K : Fg} : RnS K (fun xs H Q => ∃ x n, xs = [x] ∧ LenV K x H n ∧ Q (.int (n : Nat)) H) fLen := by
  intro H xs ds d hx hf Q k
  unfold fLen at hf
  split at hf
  · cases hf
    obtain ⟨v, rfl, h⟩ := one_of hx
    cases h with
    | @lst a vs _ q r => exact ⟨_, vs.length, rfl, .inl ⟨vs, q, rfl⟩, by rw [dpa_len r]; exact k _ H (Same.refl H) (Dp.int _)⟩
  · cases hf
    obtain ⟨v, rfl, h⟩ := one_of hx
    cases h with
    | @tup a vs _ q r => exact ⟨_, vs.length, rfl, .inr ⟨vs, q, rfl⟩, by rw [dpa_len r]; exact k _ H (Same.refl H) (Dp.int _)⟩
  · split at hf
    · rename_i hz
      cases hf
      obtain ⟨v, rfl, h⟩ := one_of hx
      cases h
      exact ⟨_, _, rfl, ⟨hz, rfl⟩, k _ H (Same.refl H) (Dp.int _)⟩
    · cases hf
  · cases hf
def fInt1 : List PD → Option PD
  | [.int i] => some (.int i)
  | [.bool b] => some (.int (if b then 1 else 0))
  | _ => none
theorem rns_int {K : Fg} : RnS K (fun xs H Q => (∃ i, xs = [.int i] ∧ Q (.int i) H) ∨ ∃ k, xs = [.bl k] ∧ Q (.int (if k then 1 else 0)) H) fInt1 := by
  intro H xs ds d hx hf Q k
  unfold fInt1 at hf
  split at hf
  · cases hf
    obtain ⟨v, rfl, h⟩ := one_of hx
    cases h
    exact .inl ⟨_, rfl, k _ H (Same.refl H) (Dp.int _)⟩
  · cases hf
    obtain ⟨v, rfl, h⟩ := one_of hx
    cases h
    exact .inr ⟨_, rfl, k _ H (Same.refl H) (Dp.int _)⟩
  · cases hf
def fAbs : List PD → Option PD
  | [.int i] => some (.int (if i < 0 then -i else i))
  | _ => none
theorem rns_abs {K : Fg} : RnS K (fun xs H Q => ∃ i, xs = [.int i] ∧ Q (.int (if i < 0 then -i else i)) H) fAbs := by
  intro H xs ds d hx hf Q k
  unfold fAbs at hf
  split at hf
  · cases hf
    obtain ⟨v, rfl, h⟩ := one_of hx
    cases h
    exact ⟨_, rfl, k _ H (Same.refl H) (Dp.int _)⟩
  · cases hf
def fMax2 : List PD → Option PD
  | [.int i, .int j] => some (.int (if j > i then j else i))
  | _ => none
def fMin2 : List PD → Option PD
  | [.int i, .int j] => some (.int (if j < i then j else i))
  | _ => none
theorem rns_max2 {K : Fg} : RnS K (fun xs H Q => ∃ i j, xs = [.int i, .int j] ∧ Q (.int (if j > i then j else i)) H) fMax2 := by
  intro H xs ds d hx hf Q k
  unfold fMax2 at hf
  split at hf
  · cases hf
    obtain ⟨v, w, rfl, h1, h2⟩ := two_of hx
    cases h1
    cases h2
    exact ⟨_, _, rfl, k _ H (Same.refl H) (Dp.int _)⟩
  · cases hf
theorem rns_min2 {K : Fg} : RnS K (fun xs H Q => ∃ i j, xs = [.int i, .int j] ∧ Q (.int (if j < i then j else i)) H) fMin2 := by
  intro H xs ds d hx hf Q k
  unfold fMin2 at hf
  split at hf
  · cases hf
    obtain ⟨v, w, rfl, h1, h2⟩ := two_of hx
    cases h1
    cases h2
    exact ⟨_, _, rfl, k _ H (Same.refl H) (Dp.int _)⟩
  · cases hf
/-- tuple(x), list(x) -/
def fTuple : List PD → Option Res
  | [.list ds] => some (.val (.tuple ds))
  | [.tuple ds] => some (.val (.tuple ds))
  | _ => none
theorem rno_tuple {K : Fg} : RnO K (fun xs H Q => ∃ p ys, xs = [.ref p] ∧ ((SqL K H p ys ∧ ∀ l, H l = none → Q (.ref l) (upd H l (.tup ys))) ∨ (SqT K H p ys ∧ Q (.ref p) H))) fTuple := by
  intro G H xs ds res s hx hf Q k
  unfold fTuple at hf
  split at hf
  · cases hf
    obtain ⟨v, rfl, a, vs, rfl, q, r⟩ := one_of hx
    exact ⟨a, vs, rfl, .inl ⟨q, fun l hl => k _ _ (upd_grow hl) (ok_tup s hl r)⟩⟩
  · cases hf
    obtain ⟨v, rfl, h⟩ := one_of hx
    cases h with
    | @tup a vs _ q r => exact ⟨a, vs, rfl, .inr ⟨sqtM s q, k _ H (Same.refl H) (ok_val s (Dp.tup q r))⟩⟩
  · cases hf
def fList : List PD → Option Res
  | [.list ds] => some (.obj (.ol ds))
  | [.tuple ds] => some (.obj (.ol ds))
  | _ => none
theorem rno_list {K : Fg} : RnO K (fun xs H Q => ∃ p ys, xs = [.ref p] ∧ (SqL K H p ys ∨ SqT K H p ys) ∧ ∀ l, H l = none → Q (.ref l) (upd H l (.lst ys))) fList := by
  intro G H xs ds res s hx hf Q k
  unfold fList at hf
  split at hf
  · cases hf
    obtain ⟨v, rfl, a, vs, rfl, q, r⟩ := one_of hx
    exact ⟨a, vs, rfl, .inl q, fun l hl => k _ _ (upd_grow hl) (ok_lst s hl r)⟩
  · cases hf
    obtain ⟨v, rfl, h⟩ := one_of hx
    cases h with
    | @tup a vs _ q r => exact ⟨a, vs, rfl, .inr (sqtM s q), fun l hl => k _ _ (upd_grow hl) (ok_lst s hl r)⟩
  · cases hf
def asInts : List PD → Option (List Int)
  | [] => some []
  | .int i :: ds => (asInts ds).map (i :: ·)
  | _ :: _ => none
def asBools : List PD → Option (List Bool)
  | [] => some []
  | .bool b :: ds => (asBools ds).map (b :: ·)
  | _ :: _ => none
theorem asInts_map : ∀ {ds : List PD} {ns : List Int}, asInts ds = some ns → ds = ns.map .int
  | [], _, h => by cases h; rfl
  | .int i :: ds, ns, h => by
    cases e : asInts ds with
    | none => simp only [asInts, e] at h; cases h
    | some ms =>
      simp only [asInts, e] at h
      cases h
      rw [asInts_map e]; rfl
theorem asInts_of : ∀ ns : List Int, asInts (ns.map .int) = some ns
  | [] => rfl
  | i :: ns => by simp [asInts, asInts_of ns]
theorem asBools_map : ∀ {ds : List PD} {ns : List Bool}, asBools ds = some ns → ds = ns.map .bool
  | [], _, h => by cases h; rfl
  | .bool i :: ds, ns, h => by
    cases e : asBools ds with
    | none => simp only [asBools, e] at h; cases h
    | some ms =>
      simp only [asBools, e] at h
      cases h
      rw [asBools_map e]; rfl
theorem asBools_of : ∀ ns : List Bool, asBools (ns.map .bool) = some ns
  | [] => rfl
  | i :: ns => by simp [asBools, asBools_of ns]
theorem dpa_ints {K : Fg} {H : Hp} : ∀ {vs : List V} {ns : List Int}, DpAll K H vs (ns.map .int) → vs = ns.map V.int
  | [], [], _ => rfl
  | v :: vs, n :: ns, .cons h t => by
    cases h
    rw [dpa_ints t]; rfl
theorem dpa_bools {K : Fg} {H : Hp} : ∀ {vs : List V} {ns : List Bool}, DpAll K H vs (ns.map .bool) → vs = ns.map V.bl
  | [], [], _ => rfl
  | v :: vs, n :: ns, .cons h t => by
    cases h
    rw [dpa_bools t]; rfl
theorem ints_dpa {K : Fg} {H : Hp} : ∀ ns : List Int, DpAll K H (ns.map V.int) (ns.map .int)
  | [] => .nil
  | n :: ns => .cons (Dp.int n) (ints_dpa ns)
def fAll : List PD → Option PD
  | [.list ds] => (asBools ds).map fun bs => .bool (bs.all id)
  | _ => none
def fAny : List PD → Option PD
  | [.list ds] => (asBools ds).map fun bs => .bool (bs.any id)
  | _ => none
theorem rns_all {K : Fg} : RnS K (rAll K) fAll := by
  intro H xs ds d hx hf Q k
  unfold fAll at hf
  split at hf
  · rename_i es
    obtain ⟨v, rfl, h⟩ := one_of hx
    cases e : asBools es with
    | none => rw [e] at hf; cases hf
    | some bs =>
      rw [e] at hf
      cases hf
      rw [asBools_map e] at h
      cases h with
      | @lst a vs _ q r =>
        rw [dpa_bools r] at q
        exact ⟨a, bs, rfl, q, k _ H (Same.refl H) (Dp.bl _)⟩
  · cases hf
theorem rns_any {K : Fg} : RnS K (rAny K) fAny := by
  intro H xs ds d hx hf Q k
  unfold fAny at hf
  split at hf
  · rename_i es
    obtain ⟨v, rfl, h⟩ := one_of hx
    cases e : asBools es with
    | none => rw [e] at hf; cases hf
    | some bs =>
      rw [e] at hf
      cases hf
      rw [asBools_map e] at h
      cases h with
      | @lst a vs _ q r =>
        rw [dpa_bools r] at q
        exact ⟨a, bs, rfl, q, k _ H (Same.refl H) (Dp.bl _)⟩
  · cases hf
def fSum : List PD → Option PD
  | [.list ds] => (asInts ds).map fun ns => .int ns.sum
  | _ => none
theorem rns_sum {K : Fg} : RnS K (rSum K) fSum := by
  intro H xs ds d hx hf Q k
  unfold fSum at hf
  split at hf
  · rename_i es
    obtain ⟨v, rfl, h⟩ := one_of hx
    cases e : asInts es with
    | none => rw [e] at hf; cases hf
    | some bs =>
      rw [e] at hf
      cases hf
      rw [asInts_map e] at h
      cases h with
      | @lst a vs _ q r =>
        rw [dpa_ints r] at q
        exact ⟨a, bs, rfl, q, k _ H (Same.refl H) (Dp.int _)⟩
  · cases hf
def maxL : List Int → Int
  | [] => 0
  | [i] => i
  | i :: j :: l => max i (maxL (j :: l))
def minL : List Int → Int
  | [] => 0
  | [i] => i
  | i :: j :: l => min i (minL (j :: l))
theorem maxL_spec : ∀ (l : List Int), l ≠ [] → maxL l ∈ l ∧ ∀ y ∈ l, y ≤ maxL l
  | [i], _ => by simp [maxL]
  | i :: j :: l, _ => by
    obtain ⟨h1, h2⟩ := maxL_spec (j :: l) (by simp)
    constructor
    · show max i (maxL (j :: l)) ∈ _
      by_cases h : i ≤ maxL (j :: l)
      · rw [Int.max_eq_right h]; exact List.mem_cons_of_mem _ h1
      · rw [Int.max_eq_left (by omega)]; exact List.mem_cons_self
    · intro y hy
      show y ≤ max i (maxL (j :: l))
      rcases List.mem_cons.mp hy with rfl | hy
      · omega
      · have := h2 y hy; omega
theorem minL_spec : ∀ (l : List Int), l ≠ [] → minL l ∈ l ∧ ∀ y ∈ l, minL l ≤ y
  | [i], _ => by simp [minL]
  | i :: j :: l, _ => by
    obtain ⟨h1, h2⟩ := minL_spec (j :: l) (by simp)
    constructor
    · show min i (minL (j :: l)) ∈ _
      by_cases h : i ≤ minL (j :: l)
      · rw [Int.min_eq_left h]; exact List.mem_cons_self
      · rw [Int.min_eq_right (by omega)]; exact List.mem_cons_of_mem _ h1
    · intro y hy
      show min i (minL (j :: l)) ≤ y
      rcases List.mem_cons.mp hy with rfl | hy
      · omega
      · have := h2 y hy; omega
def fMaxI : List PD → Option PD
  | [.list ds] => (asInts ds).bind fun ns => if ns = [] then none else some (.int (maxL ns))
  | _ => none
def fMinI : List PD → Option PD
  | [.list ds] => (asInts ds).bind fun ns => if ns = [] then none else some (.int (minL ns))
  | _ => none
theorem rns_max {K : Fg} : RnS K (rMax K) fMaxI := by
  intro H xs ds d hx hf Q k
  unfold fMaxI at hf
  split at hf
  · rename_i es
    obtain ⟨v, rfl, h⟩ := one_of hx
    cases e : asInts es with
    | none => rw [e] at hf; cases hf
    | some bs =>
      rw [e] at hf
      have hf : (if bs = [] then none else some (PyData.int (maxL bs))) = some d := hf
      split at hf
      · cases hf
      rename_i hne
      cases hf
      rw [asInts_map e] at h
      cases h with
      | @lst a vs _ q r =>
        rw [dpa_ints r] at q
        refine ⟨a, bs, rfl, q, List.length_pos_iff.mpr hne, fun m h1 h2 => ?_⟩
        obtain ⟨m1, m2⟩ := maxL_spec bs hne
        rw [show m = maxL bs from Int.le_antisymm (m2 m h1) (h2 _ m1)]
        exact k _ H (Same.refl H) (Dp.int _)
  · cases hf
theorem rns_min {K : Fg} : RnS K (rMin K) fMinI := by
  intro H xs ds d hx hf Q k
  unfold fMinI at hf
  split at hf
  · rename_i es
    obtain ⟨v, rfl, h⟩ := one_of hx
    cases e : asInts es with
    | none => rw [e] at hf; cases hf
    | some bs =>
      rw [e] at hf
      have hf : (if bs = [] then none else some (PyData.int (minL bs))) = some d := hf
      split at hf
      · cases hf
      rename_i hne
      cases hf
      rw [asInts_map e] at h
      cases h with
      | @lst a vs _ q r =>
        rw [dpa_ints r] at q
        refine ⟨a, bs, rfl, q, List.length_pos_iff.mpr hne, fun m h1 h2 => ?_⟩
        obtain ⟨m1, m2⟩ := minL_spec bs hne
        rw [show m = minL bs from Int.le_antisymm (h2 _ m1) (m2 m h1)]
        exact k _ H (Same.refl H) (Dp.int _)
  · cases hf
/-- sorted(xs), ints -/
def isort (l : List Int) : List Int := l.mergeSort (fun a b => decide (a ≤ b))
theorem isort_perm (l : List Int) : (isort l).Perm l := List.mergeSort_perm l _
theorem isort_sorted (l : List Int) : (isort l).Pairwise (· ≤ ·) := by
  have := List.pairwise_mergeSort (le := fun a b : Int => decide (a ≤ b)) (fun a b c h1 h2 => by simp at *; omega) (fun a b => by simp; omega) l
  exact this.imp fun h => by simpa using h
theorem sorted_uniq {l m : List Int} (p : l.Perm m) (hl : l.Pairwise (· ≤ ·)) (hm : m.Pairwise (· ≤ ·)) : l = m :=
  p.eq_of_pairwise (fun a b _ _ h1 h2 => Int.le_antisymm h1 h2) hl hm
def fSortI : List PD → Option Res
  | [.list ds] => (asInts ds).map fun ns => .obj (.ol ((isort ns).map .int))
  | _ => none
theorem rno_sortI {K : Fg} : RnO K (rSortedI K) fSortI := by
  intro G H xs ds res s hx hf Q k
  unfold fSortI at hf
  split at hf
  · rename_i es
    obtain ⟨v, rfl, h⟩ := one_of hx
    cases e : asInts es with
    | none => rw [e] at hf; cases hf
    | some ns =>
      rw [e] at hf
      cases hf
      rw [asInts_map e] at h
      obtain ⟨a, vs, rfl, q, r⟩ := h
      rw [dpa_ints r] at q
      refine ⟨a, ns, rfl, q, fun ns' b hp hs hb => ?_⟩
      rw [sorted_uniq (hp.trans (isort_perm ns).symm) hs (isort_sorted ns)]
      exact k _ _ (upd_grow hb) (ok_lst s hb (ints_dpa _))
  · cases hf
end Vl

-- V11
set_option Elab.async false
set_option linter.all false
set_option maxRecDepth 100000
set_option maxHeartbeats 4000000
namespace Vl
open PySem L2

/-! ### isinstance -/
def tyN : PD → String
  | .none => "NoneType"
  | .bool _ => "bool"
  | .int _ => "int"
  | .str _ => "str"
  | .list _ => "list"
  | .tuple _ => "tuple"
  | .dict _ => "dict"
def isT (T : String) (d : PD) : Bool := match d with
  | .none => T == "NoneType"
  | .bool _ => T == "bool" || T == "int"
  | .int _ => T == "int"
  | .str _ => T == "str"
  | .list _ => T == "list"
  | .tuple _ => T == "tuple"
  | .dict _ => T == "dict"
def TOk (T : String) : Prop := kitB "NoneType" T = some (T == "NoneType") ∧ kitB "bool" T = some (T == "bool" || T == "int") ∧ kitB "int" T = some (T == "int") ∧ kitB "str" T = some (T == "str") ∧ kitB "list" T = some (T == "list") ∧ kitB "tuple" T = some (T == "tuple")
theorem tok_bool : TOk "bool" := by unfold TOk; decide +kernel
theorem tok_int : TOk "int" := by unfold TOk; decide +kernel
theorem tok_str : TOk "str" := by unfold TOk; decide +kernel
theorem tok_tuple : TOk "tuple" := by unfold TOk; decide +kernel
theorem tok_list : TOk "list" := by unfold TOk; decide +kernel
theorem tyx_of {K : Fg} {H : Hp} {v : V} {d : PD} (h : Dp K H v d) : TyX K H v (.type (tyN d)) := by
  cases h with
  | non => exact .base .non
  | bl b => exact .base (.bl b)
  | int i => exact .base (.int i)
  | str x => exact .base (.str x)
  | lst q r =>
    rcases q with (q | ⟨o, q⟩) | ⟨o, its, n, e, c, _⟩
    · exact .base (.lst q)
    · exact .base (.frz q)
    · exact .kList e c
  | tup q r =>
    rcases q with (q | ⟨o, q⟩) | ⟨o, its, n, e, c, _⟩
    · exact .base (.tup q)
    · exact .fTuple q
    · exact .kTuple e c
theorem kit_of_ok {T : String} (h : TOk T) {d : PD} (hd : ∀ z, d ≠ .dict z) : kitB (tyN d) T = some (isT T d) := by
  obtain ⟨h1, h2, h3, h4, h5, h6⟩ := h
  cases d with
  | none => exact h1
  | bool _ => exact h2
  | int _ => exact h3
  | str _ => exact h4
  | list _ => exact h5
  | tuple _ => exact h6
  | dict z => exact absurd rfl (hd z)
section
variable {X : Cx} {a b : Expr} {p p1 p2 : Bool} {l l1 : Lv} {ma mb : M PD} {pos : Pos}
def mIsi (T : String) (m : M PD) : M PD := m1 (fun d => some (.bool (isT T d))) m
theorem ev_isi {T : String} {x : Str} {q q2 : Pos} (hT : TOk T) (hm : X.mg "isinstance" = none) (hmT : X.mg x = none) (hvT : bootBuiltins x = some (.type T)) (ha : EV X p l a ma)
    (hg : Gl X "isinstance" := by rfl) (hgT : Gl X x := by rfl) (hn : x ≠ "__name__" := by decide) (hd : (x == ("__debug__" : Str)) = false := by decide)
    (h3 : starEach [a, .Name x q2] X.env = (false, eval a X.env) :: starEach [.Name x q2] X.env := by rfl) (h4 : (backTo pos (starEach [.Name x q2] X.env)).any (·.1) = false := by rfl)
    (h5 : starEach [.Name x q2] X.env = (false, eval (.Name x q2) X.env) :: starEach [] X.env := by rfl) :
    EV X p .D (.Call (.Name "isinstance" q) [a, .Name x q2] [] pos) (mIsi T ma) := by
  obtain ⟨ta, a1, a2⟩ := ha.ok
  refine ⟨fun z => pur1 ha.pur z, _, pe_callB call_isi hg hm (by decide +kernel) (pa_cons a1 (pa_cons (pe_bltn (v := .ty T) hgT hmT hvT rfl hn hd) pa_nil h5) h3) (by decide) (by decide) h3 h4, fun G H0 pin ow σ H as r as' Q S hm k => ?_⟩
  obtain ⟨d, as1, q1, h⟩ := bind_some hm
  obtain ⟨q2, rfl⟩ := opt_some h
  cases q2
  refine a2 G H0 pin ow σ H as d as' _ S q1 fun v H1 ow1 st sm S1 lv => ?_
  have lv := lv_dp S1.hd lv
  refine ⟨v, .ty T, .type (tyN d), .type T, isT T d, rfl, .ty T, tyx_of lv, kit_ty (kit_of_ok hT fun z e => ?_), k _ H1 ow1 st sm S1 (Dp.bl _)⟩
  subst e
  cases lv

/-! ### tuple(range(..)), list(range(..)) -/
def rgOk (a b : Int) : Bool := decide (-(2 ^ 62) ≤ a) && decide (a < 2 ^ 62) && decide (-(2 ^ 62) ≤ b) && decide (b < 2 ^ 62) && decide ((b - a).toNat ≤ 16777216)
theorem rgOk_ok {a b : Int} (h : rgOk a b = true) : RgOk a b := by
  unfold rgOk at h
  simp only [Bool.and_eq_true, decide_eq_true_eq] at h
  unfold RgOk
  omega
theorem dpa_rgV {K : Fg} {H : Hp} (a b : Int) : DpAll K H (rgV a b) (rng a (b - a).toNat) := dpa_rng a (b - a).toNat
def fTR1 : PD → Option Res
  | .int n => if rgOk 0 n = true then some (.val (.tuple (rng 0 (n - 0).toNat))) else none
  | _ => none
def fTR2 : PD → PD → Option Res
  | .int i, .int j => if rgOk i j = true then some (.val (.tuple (rng i (j - i).toNat))) else none
  | _, _ => none
def fLR1 : PD → Option Res
  | .int n => if rgOk 0 n = true then some (.obj (.ol (rng 0 (n - 0).toNat))) else none
  | _ => none
def fLR2 : PD → PD → Option Res
  | .int i, .int j => if rgOk i j = true then some (.obj (.ol (rng i (j - i).toNat))) else none
  | _, _ => none
theorem ef_tupR1 {q q2 q3 : Pos} (hc : X.calm = true) (hm : X.mg "tuple" = none) (hmr : X.mg "range" = none) (ha : EV X p l a ma) (hg : Gl X "tuple" := by rfl) (hgr : Gl X "range" := by rfl)
    (na : starEach [.Call (.Name "range" q2) [a] [] q3] X.env = (false, eval (.Call (.Name "range" q2) [a] [] q3) X.env) :: starEach [] X.env := by rfl)
    (nb : starEach [a] X.env = (false, eval a X.env) :: starEach [] X.env := by rfl) : EF X p (.Call (.Name "tuple" q) [.Call (.Name "range" q2) [a] [] q3] [] pos) (m1 fTR1 ma) := by
  obtain ⟨ta, a1, a2⟩ := ha.ok
  refine ⟨fun z => pur1 ha.pur z, _, pe_tupRg hc hg hm (prg_1 hgr hmr a1 nb) na, fun G H0 pin ow σ H as r as' Q S hm k => ?_⟩
  obtain ⟨d, as1, q1, h⟩ := bind_some hm
  obtain ⟨q2, rfl⟩ := opt_some h
  refine a2 G H0 pin ow σ H as d as' _ S q1 fun v H1 ow1 st sm S1 lv => ?_
  have lv := lv_dp S1.hd lv
  unfold fTR1 at q2
  split at q2
  · split at q2
    · rename_i hn
      cases q2
      cases lv
      refine ⟨_, rfl, rgOk_ok hn, fun c hc => ?_⟩
      exact fin_o S1 st sm (upd_grow hc) (ok_tup S1.hd hc (dpa_rgV 0 _)) k
    · cases q2
  · cases q2
theorem ef_lstR1 {q q2 q3 : Pos} (hc : X.calm = true) (hm : X.mg "list" = none) (hmr : X.mg "range" = none) (ha : EV X p l a ma) (hg : Gl X "list" := by rfl) (hgr : Gl X "range" := by rfl)
    (na : starEach [.Call (.Name "range" q2) [a] [] q3] X.env = (false, eval (.Call (.Name "range" q2) [a] [] q3) X.env) :: starEach [] X.env := by rfl)
    (nb : starEach [a] X.env = (false, eval a X.env) :: starEach [] X.env := by rfl) : EF X p (.Call (.Name "list" q) [.Call (.Name "range" q2) [a] [] q3] [] pos) (m1 fLR1 ma) := by
  obtain ⟨ta, a1, a2⟩ := ha.ok
  refine ⟨fun z => pur1 ha.pur z, _, pe_listRg hc hg hm (prg_1 hgr hmr a1 nb) na, fun G H0 pin ow σ H as r as' Q S hm k => ?_⟩
  obtain ⟨d, as1, q1, h⟩ := bind_some hm
  obtain ⟨q2, rfl⟩ := opt_some h
  refine a2 G H0 pin ow σ H as d as' _ S q1 fun v H1 ow1 st sm S1 lv => ?_
  have lv := lv_dp S1.hd lv
  unfold fLR1 at q2
  split at q2
  · split at q2
    · rename_i hn
      cases q2
      cases lv
      refine ⟨_, rfl, rgOk_ok hn, fun c hc => ?_⟩
      exact fin_o S1 st sm (upd_grow hc) (ok_lst S1.hd hc (dpa_rgV 0 _)) k
    · cases q2
  · cases q2
theorem ef_tupR2 {q q2 q3 : Pos} (hc : X.calm = true) (hm : X.mg "tuple" = none) (hmr : X.mg "range" = none) (ha : EV X p1 l a ma) (hb : EV X p2 l1 b mb) (hs : l = .D ∨ p2 = true := by first | exact .inr rfl | exact .inl rfl) (hg : Gl X "tuple" := by rfl) (hgr : Gl X "range" := by rfl)
    (na : starEach [.Call (.Name "range" q2) [a, b] [] q3] X.env = (false, eval (.Call (.Name "range" q2) [a, b] [] q3) X.env) :: starEach [] X.env := by rfl)
    (nb : starEach [a, b] X.env = (false, eval a X.env) :: starEach [b] X.env := by rfl) (nc : starEach [b] X.env = (false, eval b X.env) :: starEach [] X.env := by rfl) (nd : (backTo q3 (starEach [b] X.env)).any (·.1) = false := by rfl) :
    EF X (p1 && p2) (.Call (.Name "tuple" q) [.Call (.Name "range" q2) [a, b] [] q3] [] pos) (m2 fTR2 ma mb) := by
  obtain ⟨ta, tb, e1, e2, qq⟩ := ha.two hb hs
  refine ⟨fun z => pur2 ha.pur (fun z _ => hb.pur z) z, _, pe_tupRg hc hg hm (prg_2 hgr hmr e1 e2 nb nc nd) na, fun G H0 pin ow σ H as r as' Q S hm k => ?_⟩
  obtain ⟨x, as1, q1, h⟩ := bind_some hm
  obtain ⟨y, as2, q2, h⟩ := bind_some h
  obtain ⟨q3, rfl⟩ := opt_some h
  refine qq G H0 pin ow σ H as x y as1 as' _ S q1 q2 fun v w H1 ow1 st sm S1 lv lw => ?_
  have lv := lv_dp S1.hd lv
  have lw := lv_dp S1.hd lw
  unfold fTR2 at q3
  split at q3
  · split at q3
    · rename_i hn
      cases q3
      cases lv
      cases lw
      refine ⟨_, _, rfl, rfl, rgOk_ok hn, fun c hc => ?_⟩
      exact fin_o S1 st sm (upd_grow hc) (ok_tup S1.hd hc (dpa_rgV _ _)) k
    · cases q3
  · cases q3
end
end Vl

-- V12
set_option Elab.async false
set_option linter.all false
set_option maxRecDepth 100000
set_option maxHeartbeats 4000000
/-! set(xs) of a list of ints: as the library's own rule for a tuple of ints, over a list's walk -/
namespace L2
open PySem PySem.Spec PyProof.Rows
section
variable {P : Program} {w : World} {A : Around} {E : Value → Shared → Prop} {s : Shared}
def emptySet (w : World) : Obj := { cls := .type "set", dict := none, data := .set #[] 0 (.fresh 0 0 (!w.params.followText "set-order")) }
theorem emptySetR {h : Heap} {a : Addr} {ns : List Int} (ho : h.get? a = some (emptySet w)) : SetR w h a (fun j => decide (j ∈ ns.take 0)) 0 := setR_new_at ho
/-- the set that stands at the place L, all else as in h -/
def SetDone (w : World) (ns : List Int) (L : Addr) (h h' : Heap) (c : Nat) : Prop := SetR w h' L (fun j => decide (j ∈ ns)) c ∧ c ≤ ns.length ∧ ∀ b o, h.get? b = some o → h'.get? b = some o
set_option maxHeartbeats 3200000 in
theorem setOfInts {l : Addr} {items : Array Value} (ns : List Int) {Q : Value → Shared → Prop} (hh : A.handled = none) (hl : s.heap.IsList l items) (hit : IntsAre items.toList ns) (hb : ns.length + 1 < scanBound)
    (h : ∀ (h' : Heap) (tk c : Nat), SetDone w ns s.heap.objs.size s.heap h' c → Q (.ref s.heap.objs.size) { s with heap := h', toks := tk }) :
    wpAny (model P w) A (call (.type "set") [.ref l]) Q E s := by
  have hisz : items.size = ns.length := (Array.length_toList (xs := items)).symm.trans (IntsAre.length hit)
  obtain ⟨c, tl, hmro⟩ := F.called_set.mro
  have m1 := F.called_set.made; have m2 := F.called_set.sub
  apply wpAny_call; apply codeAny_of_tree
  change wpAny _ _ (callAny (.type "set") _) _ _ _
  apply wpAny_pure
  refine And.intro (Code.quiet_builtin _ (by decide +kernel)) (codeAny_builtin F.entry_type_call ?_)
  rw [Around.under_plain (weight_type_call_type "set" [.ref l] []) rfl]
  have m3 := F.called_set.notType; have m4 := F.called_set.canCreate; have m5 := F.typeCall_set_1 (.ref l)
  repeat (any_goals (first | assumption | wp_step))
  apply codeAny_mono (code_set_led1 (.ref l) (E := E) (Q₁ := fun obj s₁ => obj = .ref s.heap.objs.size ∧ s₁ = { s with heap := s.heap.push (emptySet w) }) (And.intro rfl rfl))
  intro r s₁ hr
  match r, hr with
  | .error e, hr => exact hr
  | .ok (.ret obj), hr =>
    obtain ⟨rfl, rfl⟩ := hr
    have hS : (s.heap.push (emptySet w)).get? s.heap.objs.size = some (emptySet w) := Heap.get?_push_size _ rfl
    have hT : Shared.TypeIs { s with heap := s.heap.push (emptySet w) } (.ref s.heap.objs.size) "set" := Exists.intro _ (And.intro hS rfl)
    have m6 := F.called_set.init.lookup; have m7 := F.called_set.init.bind (.ref s.heap.objs.size)
    repeat (any_goals (first | assumption | wp_step))
    apply codeAny_mono (codeAny_call_builtin (R := wants (fun r s₂ => r = .none ∧ ∃ h' tk c, s₂ = { s with heap := h', toks := tk } ∧ SetDone w ns s.heap.objs.size s.heap h' c) E) F.called_set.init.plain F.entry_set_init (check_set_init_1 hT ?_))
    · intro r₂ s₂ hr₂
      match r₂, hr₂ with
      | .error e, hr₂ => exact hr₂
      | .ok (.ret r), hr₂ =>
        obtain ⟨rfl, h', tk, c', rfl, hd⟩ := hr₂
        repeat (any_goals (first | assumption | wp_step))
        exact h _ _ _ hd
      | .ok .next, hr₂ => exact hr₂.elim
      | .ok .brk, hr₂ => exact hr₂.elim
      | .ok .cont, hr₂ => exact hr₂.elim
    · obtain ⟨⟨ocls, odict, odata, oslots⟩, hol, hcl, nl, hdl⟩ := hl
      cases hcl; cases hdl
      have hol' : (s.heap.push (emptySet w)).get? l = some ⟨.type "list", odict, .seq items nl, oslots⟩ := Heap.get?_push_of_some _ hol
      have m8 := F.sub_list_set; have m9 := F.sub_list_frozenset
      have m10 : (Value.type "list" == Value.type "dict") = false := by decide
      have hl1 : (s.heap.push (emptySet w)).IsList l items := Exists.intro _ (And.intro hol' (And.intro rfl (Exists.intro nl rfl)))
      unfold Builtin.«set.__init__» noKeywords Builtin.Frozenset.updateFrom
      generalize hPI : pyIter = PI
      wp_walk
      subst hPI
      apply wpAny_pyIter_list hl1
      apply wpAny_bind; apply wpAny_runValue
      have hlS : l < s.heap.objs.size := Heap.lt_size hol
      have hsz : (s.heap.push (emptySet w)).objs.size = s.heap.objs.size + 1 := Heap.size_push ..
      have hneI : l ≠ (s.heap.push (emptySet w)).objs.size := by rw [hsz]; exact Nat.ne_of_lt (Nat.lt_succ_of_lt hlS)
      have hSf : s.heap.objs.size ∉ [(s.heap.push (emptySet w)).objs.size, l] := by
        rw [hsz]; intro hm
        rcases List.mem_cons.mp hm with e | hm
        · exact absurd e (Nat.ne_of_lt (Nat.lt_succ_self _))
        · exact absurd (List.mem_singleton.mp hm) (Nat.ne_of_gt hlS)
      have hval : ∀ (i : Nat) (v : Value), items[i]? = some v → ∃ k t, ns[i]? = some k ∧ v = .int k t := by
        intro i v hv
        have hi : i < ns.length := hisz ▸ (Array.getElem?_eq_some_iff.mp hv).1
        obtain ⟨t, e⟩ := PyProof.Rows.IntsAre.int_at hit i v ((Array.getElem?_toList (xs := items)).trans hv)
        rw [List.getD_eq_getElem?_getD, List.getElem?_eq_getElem hi] at e
        exact ⟨ns[i], t, List.getElem?_eq_getElem hi, e⟩
      refine set_update_ints ((Walks.list (show A.in1.in1.in1.handled = none by simp [hh]) _ l hneI items).toS) s.heap.objs.size hSf ns hisz hb hval (items.size - 0) 0 _ (by omega) (Nat.zero_le _) (And.intro ⟨_, Heap.get?_push_size _ rfl, rfl, rfl⟩ (hl1.push _)) ?first ?last
      case first => exact ⟨0, Nat.le_refl 0, emptySetR (Heap.get?_push_of_some _ hS)⟩
      case last =>
        rintro ⟨h', g2, d', tk', os'⟩ c' hm hc' hS'
        cases (hm.gens : g2 = s.gens); cases (hm.drawn : d' = s.drawn); cases (hm.os : os' = s.os)
        change wpAny _ _ _ _ _ _
        apply wpAny_pure
        change wpAny _ _ (ret Value.none) _ _ _
        apply wpAny_pure
        refine And.intro rfl ⟨h', tk', c', rfl, hS', hisz ▸ hc', fun b o e => ?_⟩
        have hb0 : b < s.heap.objs.size := Heap.lt_size e
        refine hm.heap b o (fun hm2 => ?_) (Heap.get?_push_of_some _ (Heap.get?_push_of_some _ e))
        rcases List.mem_cons.mp hm2 with z | hm2
        · exact absurd z (Nat.ne_of_lt hb0)
        · have z := List.mem_singleton.mp hm2
          rw [hsz] at z
          exact absurd z (Nat.ne_of_lt (Nat.lt_succ_of_lt hb0))
  | .ok .next, hr => exact hr.elim
  | .ok .brk, hr => exact hr.elim
  | .ok .cont, hr => exact hr.elim
end
end L2

-- V13
set_option Elab.async false
set_option linter.all false
set_option maxRecDepth 100000
set_option maxHeartbeats 4000000
namespace Vl
open PySem L2

/-! ### sets of ints: made of a list or tuple; sorted, counted -/
def insU (x : Int) : List Int → List Int
  | [] => [x]
  | y :: l => if x < y then x :: y :: l else if x = y then y :: l else y :: insU x l
def usort (l : List Int) : List Int := l.foldr insU []
theorem mem_insU {x z : Int} : ∀ {l : List Int}, z ∈ insU x l ↔ z = x ∨ z ∈ l
  | [] => by simp [insU]
  | y :: l => by
    unfold insU
    split
    · simp
    · split
      · rename_i h; subst h; simp
      · rw [List.mem_cons, mem_insU, List.mem_cons]
        constructor
        · rintro (h | h | h)
          · exact .inr (.inl h)
          · exact .inl h
          · exact .inr (.inr h)
        · rintro (h | h | h)
          · exact .inr (.inl h)
          · exact .inl h
          · exact .inr (.inr h)
theorem sorted_insU {x : Int} : ∀ {l : List Int}, l.Pairwise (· < ·) → (insU x l).Pairwise (· < ·)
  | [], _ => by simp [insU]
  | y :: l, h => by
    obtain ⟨h1, h2⟩ := List.pairwise_cons.mp h
    unfold insU
    split
    · rename_i hx
      refine List.pairwise_cons.mpr ⟨fun z hz => ?_, h⟩
      rcases List.mem_cons.mp hz with rfl | hz
      · exact hx
      · exact Int.lt_trans hx (h1 z hz)
    · split
      · exact h
      · rename_i h3 h4
        refine List.pairwise_cons.mpr ⟨fun z hz => ?_, sorted_insU h2⟩
        rcases mem_insU.mp hz with rfl | hz
        · omega
        · exact h1 z hz
theorem mem_usort {z : Int} : ∀ {l : List Int}, z ∈ usort l ↔ z ∈ l
  | [] => by simp [usort]
  | y :: l => by
    show z ∈ insU y (usort l) ↔ _
    rw [mem_insU, mem_usort, List.mem_cons]
theorem sorted_usort : ∀ (l : List Int), (usort l).Pairwise (· < ·)
  | [] => List.Pairwise.nil
  | y :: l => sorted_insU (sorted_usort l)
theorem nodup_usort (l : List Int) : (usort l).Nodup := (sorted_usort l).imp fun h e => by omega
theorem perm_of_mem {l m : List Int} (hl : l.Nodup) (hm : m.Nodup) (h : ∀ z, z ∈ l ↔ z ∈ m) : l.Perm m := (List.perm_ext_iff_of_nodup hl hm).mpr h
theorem strict_uniq {l m : List Int} (hl : l.Pairwise (· < ·)) (hm : m.Pairwise (· < ·)) (h : ∀ z, z ∈ l ↔ z ∈ m) : l = m :=
  sorted_uniq (perm_of_mem (hl.imp fun h e => by omega) (hm.imp fun h e => by omega) h) (hl.imp fun h => by omega) (hm.imp fun h => by omega)
def rSetI (w : World) (K : Fg) : List V → Hp → VK → Prop := fun vs H Q => ∃ (a : Addr) (ns : List Int), vs = [.ref a] ∧ (SqL K H a (ns.map V.int) ∨ SqT K H a (ns.map V.int)) ∧ ns.length + 1 < scanBound ∧
  ∀ p c, H p = none → c = (usort ns).length → Q (.ref p) (upd H p (SetO w p (fun j => decide (j ∈ ns)) c))
theorem setR_count {w : World} {h : Heap} {a : Addr} {ns : List Int} {c : Nat} (R : SetR w h a (fun j => decide (j ∈ ns)) c) : c = (usort ns).length := by
  obtain ⟨o, es, ep, t, _, _, _, _, nd, hm, _, _, hn, _⟩ := R
  have := (perm_of_mem nd (nodup_usort ns) fun z => by rw [← hm z, mem_usort]; simp).length_eq
  rw [List.length_map, Array.length_toList, hn] at this
  exact this
section
variable {X : Cx}
theorem cr_set (hc : X.calm = true) : CallR X (.type "set") (rSetI X.w X.K) := by
  intro pins s σ H vs us Q I r ⟨a, ns, hvs, hq, hb, q⟩
  subst hvs
  have e1 : us = [Value.ref a] := Vals.ref1 r
  subst e1
  have fin : ∀ (h' : Heap) (tk c : Nat), SetDone X.w ns s.heap.objs.size s.heap h' c → EP X pins σ Q (.ref s.heap.objs.size) { s with heap := h', toks := tk } := fun h' tk c ⟨hS, _, hk⟩ =>
    ⟨.ref s.heap.objs.size, _, I.laid (t' := tk) hk (Nat.le_refl _) (setO_new hS), rfl, q _ c (I.hok.fresh (Nat.le_refl _)) (setR_count hS)⟩
  rcases hq with hq | hq
  · obtain ⟨its, rv, pl, _⟩ := I.list hq
    exact setOfInts ns (I.ok.hd hc) pl.isList (by simpa using rv.ints) hb fin
  · obtain ⟨its, rv, pl, _⟩ := I.tuple hq
    have pl' : s.heap.IsTuple a its.toArray := pl
    exact call_set_tupI ns (I.ok.hd hc) pl' (by simpa using rv.ints) hb fun h' tk c hS hcl hk => fin h' tk c ⟨hS, hcl, hk⟩
theorem cr_lenSet : CallR X (.builtin "len") (fun vs H Q => ∃ a S n, vs = [.ref a] ∧ H a = some (SetO X.w a S n) ∧ Q (.int (n : Nat)) H) := by
  intro pins s σ H vs us Q I r ⟨a, S, n, hvs, ha, q⟩
  subst hvs
  have e1 : us = [Value.ref a] := Vals.ref1 r
  subst e1
  obtain ⟨o, es, ep, t, ho, hex, hd, _, _, _, hsz, hf, hn, _⟩ := setO_get I ha
  refine call_len_set ho hex hd hf (by unfold scanBound at hsz; omega) ⟨.int n, H, I.tok _, ⟨_, by rw [hn]⟩, q⟩
end
def asIntsOf : PD → Option (List Int)
  | .list ds => asInts ds
  | .tuple ds => asInts ds
  | _ => none
def fSSet (d : PD) : Option Res := (asIntsOf d).bind fun ns => if ns.length + 1 < 4096 ∧ (usort ns).length < 64 then some (.obj (.ol ((usort ns).map .int))) else none
def fLSet (d : PD) : Option PD := (asIntsOf d).bind fun ns => if ns.length + 1 < 4096 then some (.int ((usort ns).length : Int)) else none
theorem seq_ints {K : Fg} {H : Hp} {v : V} {d : PD} {ns : List Int} (h : Dp K H v d) (e : asIntsOf d = some ns) : ∃ a, v = .ref a ∧ (SqL K H a (ns.map V.int) ∨ SqT K H a (ns.map V.int)) := by
  cases h with
  | @lst a vs ds q r =>
    rw [asInts_map e] at r
    rw [dpa_ints r] at q
    exact ⟨a, rfl, .inl q⟩
  | @tup a vs ds q r =>
    rw [asInts_map e] at r
    rw [dpa_ints r] at q
    exact ⟨a, rfl, .inr q⟩
  | non => cases e
  | bl _ => cases e
  | int _ => cases e
  | str _ => cases e
section
variable {X : Cx} {a : Expr} {p : Bool} {l : Lv} {ma : M PD} {pos : Pos}
theorem ef_sortedSet {q q2 q3 : Pos} (hc : X.calm = true) (hm : X.mg "sorted" = none) (hms : X.mg "set" = none) (ha : EV X p l a ma) (hg : Gl X "sorted" := by rfl) (hgs : Gl X "set" := by rfl)
    (h1 : starEach [.Call (.Name "set" q2) [a] [] q3] X.env = (false, eval (.Call (.Name "set" q2) [a] [] q3) X.env) :: starEach [] X.env := by rfl) (h2 : (backTo pos (starEach [] X.env)).any (·.1) = false := by rfl)
    (h3 : starEach [a] X.env = (false, eval a X.env) :: starEach [] X.env := by rfl) (h4 : (backTo q3 (starEach [] X.env)).any (·.1) = false := by rfl) :
    EF X p (.Call (.Name "sorted" q) [.Call (.Name "set" q2) [a] [] q3] [] pos) (m1 fSSet ma) := by
  obtain ⟨ta, a1, a2⟩ := ha.ok
  refine ⟨fun z => pur1 ha.pur z, _, pe_callB (cr_sortedSet hc) hg hm (by decide +kernel) (pa_cons (pe_callTy (cr_set hc) hgs hms (by decide +kernel) (pa_cons a1 pa_nil h3) (by decide) (by decide) h3 h4) pa_nil h1) (by decide) (by decide) h1 h2, fun G H0 pin ow σ H as r as' Q S hm k => ?_⟩
  obtain ⟨d, as1, q1, h⟩ := bind_some hm
  obtain ⟨q2, rfl⟩ := opt_some h
  unfold fSSet at q2
  cases e : asIntsOf d with
  | none => rw [e] at q2; cases q2
  | some ns =>
    rw [e] at q2
    have q2 : (if ns.length + 1 < 4096 ∧ (usort ns).length < 64 then some (Res.obj (.ol ((usort ns).map .int))) else none) = some r := q2
    split at q2
    · rename_i hz
      cases q2
      refine a2 G H0 pin ow σ H as d as' _ S q1 fun v H1 ow1 st sm S1 lv => ?_
      obtain ⟨b, rfl, hq⟩ := seq_ints (lv_dp S1.hd lv) e
      refine ⟨b, ns, rfl, hq, hz.1, fun c n hc hn => ?_⟩
      refine ⟨c, _, n, rfl, upd_same, by omega, fun ms c2 h1 h2 h3 h4 => ?_⟩
      have hms : ms = usort ns := strict_uniq h1 (sorted_usort ns) fun z => by rw [h2 z, mem_usort]; simp
      subst hms
      have hc2 : H1 c2 = none := by
        by_cases z : c2 = c
        · subst z; rw [upd_same] at h4; cases h4
        · rw [upd_ne z] at h4; exact h4
      refine fin_o S1 st sm (v := .ref c2) (res := .obj (.ol ((usort ns).map .int))) (fun b x e => ?_) ⟨c2, rfl, hc2, _, upd_same, ints_dpa _⟩ k
      rw [upd_ne (ne_of_none e hc2), upd_ne (ne_of_none e hc)]; exact e
    · cases q2
theorem ev_lenSet {q q2 q3 : Pos} (hc : X.calm = true) (hm : X.mg "len" = none) (hms : X.mg "set" = none) (ha : EV X p l a ma) (hg : Gl X "len" := by rfl) (hgs : Gl X "set" := by rfl)
    (h1 : starEach [.Call (.Name "set" q2) [a] [] q3] X.env = (false, eval (.Call (.Name "set" q2) [a] [] q3) X.env) :: starEach [] X.env := by rfl) (h2 : (backTo pos (starEach [] X.env)).any (·.1) = false := by rfl)
    (h3 : starEach [a] X.env = (false, eval a X.env) :: starEach [] X.env := by rfl) (h4 : (backTo q3 (starEach [] X.env)).any (·.1) = false := by rfl) :
    EV X p .D (.Call (.Name "len" q) [.Call (.Name "set" q2) [a] [] q3] [] pos) (m1 fLSet ma) := by
  obtain ⟨ta, a1, a2⟩ := ha.ok
  refine ⟨fun z => pur1 ha.pur z, _, pe_callB cr_lenSet hg hm (by decide +kernel) (pa_cons (pe_callTy (cr_set hc) hgs hms (by decide +kernel) (pa_cons a1 pa_nil h3) (by decide) (by decide) h3 h4) pa_nil h1) (by decide) (by decide) h1 h2, fun G H0 pin ow σ H as r as' Q S hm k => ?_⟩
  obtain ⟨d, as1, q1, h⟩ := bind_some hm
  obtain ⟨q2, rfl⟩ := opt_some h
  unfold fLSet at q2
  cases e : asIntsOf d with
  | none => rw [e] at q2; cases q2
  | some ns =>
    rw [e] at q2
    have q2 : (if ns.length + 1 < 4096 then some (PyData.int ((usort ns).length : Int)) else none) = some r := q2
    split at q2
    · rename_i hz
      cases q2
      refine a2 G H0 pin ow σ H as d as' _ S q1 fun v H1 ow1 st sm S1 lv => ?_
      obtain ⟨b, rfl, hq⟩ := seq_ints (lv_dp S1.hd lv) e
      refine ⟨b, ns, rfl, hq, hz, fun c n hc hn => ⟨c, _, n, rfl, upd_same, ?_⟩⟩
      subst hn
      exact fin_s S1 st sm (upd_grow hc) (Dp.int _) k
    · cases q2
end
end Vl

-- V14
set_option Elab.async false
set_option linter.all false
set_option maxRecDepth 100000
set_option maxHeartbeats 4000000
namespace Vl
open PySem L2

/-! ### dicts of one's own, keys ints and texts -/
section
variable {κ : Type} [DecidableEq κ]
def valP (kvs : List (κ × PD)) (k : κ) : Option PD := (kvs.find? fun kv => decide (kv.1 = k)).map (·.2)
def putP (kvs : List (κ × PD)) (k : κ) (d : PD) : List (κ × PD) := if (kvs.any fun kv => decide (kv.1 = k)) then kvs.map fun kv => if kv.1 = k then (kv.1, d) else kv else kvs ++ [(k, d)]
abbrev PR (K : Fg) (G : Hp) : κ × V → κ × PD → Prop := fun p q => p.1 = q.1 ∧ Dp K G p.2 q.2
theorem val_pair {K : Fg} {G : Hp} {ps : List (κ × V)} {kvs : List (κ × PD)} (h : Paired (PR K G) ps kvs) (k : κ) : (valV ps k = none ∧ valP kvs k = none) ∨ ∃ v d, valV ps k = some v ∧ valP kvs k = some d ∧ Dp K G v d := by
  induction h with
  | nil => exact .inl ⟨rfl, rfl⟩
  | @cons a b l m h t ih =>
    obtain ⟨h1, h2⟩ := h
    by_cases e : a.1 = k
    · refine .inr ⟨a.2, b.2, valV_pos e, ?_, h2⟩
      unfold valP
      rw [List.find?_cons_of_pos (by simpa using h1.symm.trans e)]
      rfl
    · have e2 : ¬ b.1 = k := fun z => e (h1.trans z)
      rw [valV_neg e]
      have : valP (b :: m) k = valP m k := by
        unfold valP
        rw [List.find?_cons_of_neg (by simpa using e2)]
      rw [this]
      exact ih
theorem any_pair {K : Fg} {G : Hp} {ps : List (κ × V)} {kvs : List (κ × PD)} (h : Paired (PR K G) ps kvs) (k : κ) : (ps.any fun kv => decide (kv.1 = k)) = kvs.any fun kv => decide (kv.1 = k) := by
  induction h with
  | nil => rfl
  | cons h t ih => rw [List.any_cons, List.any_cons, ih, h.1]
theorem map_pair {K : Fg} {G : Hp} {ps : List (κ × V)} {kvs : List (κ × PD)} (h : Paired (PR K G) ps kvs) {k : κ} {v : V} {d : PD} (q : Dp K G v d) : Paired (PR K G) (ps.map fun kv => if kv.1 = k then (kv.1, v) else kv) (kvs.map fun kv => if kv.1 = k then (kv.1, d) else kv) := by
  induction h with
  | nil => exact .nil
  | @cons a b l m h t ih =>
    rw [List.map_cons, List.map_cons]
    refine .cons ?_ ih
    rw [h.1]
    split
    · exact ⟨rfl, q⟩
    · exact h
theorem put_pair {K : Fg} {G : Hp} {ps : List (κ × V)} {kvs : List (κ × PD)} (h : Paired (PR K G) ps kvs) {k : κ} {v : V} {d : PD} (q : Dp K G v d) : Paired (PR K G) (putK ps k v) (putP kvs k d) := by
  unfold putK putP
  rw [any_pair h k]
  split
  · exact map_pair h q
  · exact paired_snoc h ⟨rfl, q⟩
end
def kOf : PD → Option Key
  | .int i => some (.inl i)
  | .str x => some (.inr x)
  | _ => none
def ofK : Key → PD
  | .inl i => .int i
  | .inr x => .str x
theorem kOf_dp {K : Fg} {H : Hp} {v : V} {d : PD} {k : Key} (h : Dp K H v d) (e : kOf d = some k) : v = kV k := by
  cases h <;> cases e <;> rfl
theorem ofK_dp {K : Fg} {H : Hp} (k : Key) : Dp K H (kV k) (ofK k) := by
  cases k with
  | inl i => exact Dp.int i
  | inr x => exact Dp.str x
/-- the pairs of slot i's dict -/
def slotD (as : AS) (i : Nat) : Option (List (Key × PD)) := match as[i]? with
  | some (.own (.od kvs)) => some kvs
  | some (.io (.od kvs)) => some kvs
  | some (.own (.fk kvs)) => some kvs
  | _ => none
theorem SR.atD {K : Fg} {G H0 H : Hp} {pin : Nat → Addr} {ow : Ow} {σ : L2.St} {as : AS} {i : Nat} {kvs : List (Key × PD)} (S : SR K G H0 pin ow σ H as) (e : slotD as i = some kvs) : ∃ a ps, σ[i]? = some (some (.ref a)) ∧ ow a = some (some i) ∧ Rd H a (.dK ps) ∧ Paired (PR K (Hd ow G H0 H)) ps kvs := by
  unfold slotD at e
  split at e
  · rename_i q
    cases e
    obtain ⟨a, q1, w, ps, hv, hd⟩ := S.slot i _ q
    exact ⟨a, ps, q1, w, .inl hv, hd⟩
  · rename_i q
    cases e
    obtain ⟨a, q1, w, _, ps, hv, hd⟩ := S.slot i _ q
    exact ⟨a, ps, q1, w, .inl hv, hd⟩
  · rename_i q
    cases e
    obtain ⟨a, q1, w, o, ps, hv, hd⟩ := S.slot i _ q
    exact ⟨a, ps, q1, w, .inr ⟨o, hv⟩, hd⟩
  · cases e
section
variable {X : Cx} {p p1 p2 p3 : Bool} {l l1 : Lv} {pos : Pos}
theorem ef_dict : EF X true (.Dict [] [] pos) (mPure (.obj (.od []))) := by
  refine ⟨fun _ as r as' h => (pure_some h).2, _, pe_dnewK, fun G H0 pin ow σ H as r as' Q S hm k => ?_⟩
  obtain ⟨rfl, rfl⟩ := pure_some hm
  intro q hq
  exact fin_o S Stp.refl (fun _ => Same.refl _) (upd_grow hq) (v := .ref q) (res := .obj (.od [])) ⟨q, rfl, hq, [], upd_same, .nil⟩ k
/-- d.get(k, x); d.get(k) -/
def mGet2 (i : Nat) (mk mx : M PD) : M PD := fun as => match slotD as i with
  | none => none
  | some _ => match mk as with
    | none => none
    | some (kd, as1) => match mx as1 with
      | none => none
      | some (x, as2) => match slotD as2 i with
        | none => none
        | some kvs => match kOf kd with
          | none => none
          | some k => some ((valP kvs k).getD x, as2)
def mGet1 (i : Nat) (mk : M PD) : M PD := mGet2 i mk (mPure .none)
def mIx (i : Nat) (mk : M PD) : M PD := fun as => match slotD as i with
  | none => none
  | some _ => match mk as with
    | none => none
    | some (kd, as1) => match slotD as1 i with
      | none => none
      | some kvs => match kOf kd with
        | none => none
        | some k => match valP kvs k with
          | none => none
          | some d => some (d, as1)
variable {i : Nat} {x : Str} {npos apos : Pos} {e f : Expr} {me mf : M PD}
theorem ev_get2 (hu : X.A.units + 1 < cLine) (he : EV X p1 .D e me) (hf : EV X p2 .D f mf)
    (hN : X.N[i]? = some x := by rfl) (hv : Vis X.env.scope x := by first | exact Or.inl rfl | exact Or.inr (Or.inl rfl) | exact Or.inr (Or.inr rfl)) (hd : (x == ("__debug__" : Str)) = false := by decide)
    (hcd : (x == ("__classdict__" : Str)) = false := by decide) (m : M2 X (.Name x npos) "get" apos e f pos := by exact ⟨rfl, rfl, rfl, rfl⟩) :
    EV X (p1 && p2) .D (.Call (.Attribute (.Name x npos) "get" apos) [e, f] [] pos) (mGet2 i me mf) := by
  obtain ⟨te, a1, a2⟩ := he.ok
  obtain ⟨tf, b1, b2⟩ := hf.ok
  refine ⟨fun z as r as' h => ?_, _, pe_dget2 hu (pe_var hN hv hd hcd) a1 b1 m, fun G H0 pin ow σ H as r as' Q S hm k => ?_⟩
  · have z' : p1 = true ∧ p2 = true := by simpa using z
    unfold mGet2 at h
    split at h
    · cases h
    split at h
    · cases h
    rename_i q1
    split at h
    · cases h
    rename_i q2
    split at h
    · cases h
    split at h
    · cases h
    cases h
    exact (hf.pur z'.2 _ _ _ q2).trans (he.pur z'.1 _ _ _ q1)
  · unfold mGet2 at hm
    split at hm
    · cases hm
    rename_i kv0 q0
    obtain ⟨a, ps0, hz, w0, hr0, _⟩ := S.atD q0
    split at hm
    · cases hm
    rename_i kd as1 q1
    split at hm
    · cases hm
    rename_i xd as2 q2
    split at hm
    · cases hm
    rename_i kvs q3
    split at hm
    · cases hm
    rename_i kk q4
    cases hm
    refine ⟨_, hz, a, rfl, .inl ⟨ps0, hr0⟩, ?_⟩
    refine a2 G H0 pin ow σ H as kd as1 _ S q1 fun v H1 ow1 st1 sm1 S1 lv1 => ?_
    refine b2 G H0 pin ow1 σ H1 as1 xd _ _ S1 q2 fun w H2 ow2 st2 sm2 S2 lv2 => ?_
    obtain ⟨b, ps, hz1, w1, hr, hp⟩ := S2.atD q3
    rw [hz] at hz1
    cases hz1
    have ek := kOf_dp lv1 q4
    refine ⟨valV ps kk, .inl ⟨ps, kk, hr, ek, rfl⟩, k _ H2 ow2 (st1.trans st2) (fun z => ?_) S2 ?_⟩
    · have z' : p1 = true ∧ p2 = true := by simpa using z
      exact (sm1 z'.1).trans (sm2 z'.2)
    · rcases val_pair hp kk with ⟨e1, e2⟩ | ⟨v', d', e1, e2, q⟩
      · rw [e1, e2]; exact lv2
      · rw [e1, e2]; exact q
theorem ev_get1 (hu : X.A.units + 1 < cLine) (he : EV X p .D e me)
    (hN : X.N[i]? = some x := by rfl) (hv : Vis X.env.scope x := by first | exact Or.inl rfl | exact Or.inr (Or.inl rfl) | exact Or.inr (Or.inr rfl)) (hd : (x == ("__debug__" : Str)) = false := by decide)
    (hcd : (x == ("__classdict__" : Str)) = false := by decide) (m : M1 X (.Name x npos) "get" apos e pos := by exact ⟨rfl, rfl, rfl, rfl⟩) :
    EV X p .D (.Call (.Attribute (.Name x npos) "get" apos) [e] [] pos) (mGet1 i me) := by
  obtain ⟨te, a1, a2⟩ := he.ok
  refine ⟨fun z as r as' h => ?_, _, pe_dget1 hu (pe_var hN hv hd hcd) a1 m, fun G H0 pin ow σ H as r as' Q S hm k => ?_⟩
  · unfold mGet1 mGet2 at h
    split at h
    · cases h
    split at h
    · cases h
    rename_i q1
    simp only [mPure] at h
    split at h
    · cases h
    split at h
    · cases h
    cases h
    exact he.pur z _ _ _ q1
  · unfold mGet1 mGet2 at hm
    split at hm
    · cases hm
    rename_i kv0 q0
    obtain ⟨a, ps0, hz, w0, hr0, _⟩ := S.atD q0
    split at hm
    · cases hm
    rename_i kd as1 q1
    simp only [mPure] at hm
    split at hm
    · cases hm
    rename_i kvs q3
    split at hm
    · cases hm
    rename_i kk q4
    cases hm
    refine ⟨_, hz, a, rfl, .inl ⟨ps0, hr0⟩, ?_⟩
    refine a2 G H0 pin ow σ H as kd _ _ S q1 fun v H1 ow1 st1 sm1 S1 lv1 => ?_
    obtain ⟨b, ps, hz1, w1, hr, hp⟩ := S1.atD q3
    rw [hz] at hz1
    cases hz1
    have ek := kOf_dp lv1 q4
    refine ⟨valV ps kk, .inl ⟨ps, kk, hr, ek, rfl⟩, k _ H1 ow1 st1 sm1 S1 ?_⟩
    rcases val_pair hp kk with ⟨e1, e2⟩ | ⟨v', d', e1, e2, q⟩
    · rw [e1, e2]; exact Dp.non
    · rw [e1, e2]; exact q
theorem ev_dix (hu : X.A.units + 1 < cLine) (he : EV X p .D e me)
    (hN : X.N[i]? = some x := by rfl) (hv : Vis X.env.scope x := by first | exact Or.inl rfl | exact Or.inr (Or.inl rfl) | exact Or.inr (Or.inr rfl)) (hd : (x == ("__debug__" : Str)) = false := by decide)
    (hcd : (x == ("__classdict__" : Str)) = false := by decide) (hs : NoSl e := by exact fun _ _ => rfl) :
    EV X p .D (.Subscript (.Name x npos) e pos) (mIx i me) := by
  obtain ⟨te, a1, a2⟩ := he.ok
  refine ⟨fun z as r as' h => ?_, _, pe_dget hu (pe_var hN hv hd hcd) a1 hs, fun G H0 pin ow σ H as r as' Q S hm k => ?_⟩
  · unfold mIx at h
    split at h
    · cases h
    split at h
    · cases h
    rename_i q1
    split at h
    · cases h
    split at h
    · cases h
    split at h
    · cases h
    cases h
    exact he.pur z _ _ _ q1
  · unfold mIx at hm
    split at hm
    · cases hm
    rename_i kv0 q0
    obtain ⟨a, ps0, hz, w0, hr0, _⟩ := S.atD q0
    split at hm
    · cases hm
    rename_i kd as1 q1
    split at hm
    · cases hm
    rename_i kvs q3
    split at hm
    · cases hm
    rename_i kk q4
    split at hm
    · cases hm
    rename_i d q5
    cases hm
    refine ⟨_, hz, ?_⟩
    refine a2 G H0 pin ow σ H as kd _ _ S q1 fun v H1 ow1 st1 sm1 S1 lv1 => ?_
    obtain ⟨b, ps, hz1, w1, hr, hp⟩ := S1.atD q3
    rw [hz] at hz1
    cases hz1
    have ek := kOf_dp lv1 q4
    rcases val_pair hp kk with ⟨e1, e2⟩ | ⟨v', d', e1, e2, q⟩
    · rw [e2] at q5; cases q5
    · rw [e2] at q5
      cases q5
      exact ⟨a, v', rfl, .inl ⟨ps, kk, hr, ek, e1.symm⟩, k _ H1 ow1 st1 sm1 S1 q⟩

/-! ### d[k] = v, as a target -/
def rSetD : V → V → V → Hp → (Hp → Prop) → Prop := fun o y v H Q => ∃ a H', o = .ref a ∧ DPut H a y v H' ∧ Q H'
theorem set_dict (hu : X.A.units + 1 < cLine) : PSet X rSetD := by
  intro pins s σ H o y v ov iv u Q I ro ri rv ⟨a, H', ho, g, q⟩
  subst ho
  cases ro
  exact d_setItem hu I g ri rv fun s' I' => ⟨H', I', q⟩
theorem SR.newO {K : Fg} {G H0 H : Hp} {pin : Nat → Addr} {ow : Ow} {σ : L2.St} {as : AS} {o o' : Obj} {a : Addr} {u : HO} (S : SR K G H0 pin ow σ H as) (e : slotO as i = some o) (hz : σ[i]? = some (some (.ref a))) (w : ow a = some (some i)) (h : ObjAt K (Hd ow G H0 H) (upd H a u) a o') :
    SR K G H0 pin ow σ (upd H a u) (Vl.setO as i o') ∧ Stp G H0 ow H ow (upd H a u) := by
  have S1 := S.tell (i := i) (s := .un) fun _ => trivial
  obtain ⟨S2, s2⟩ := S1.write (a := a) (u := u) (by rw [w]; exact nofun) fun j t ht q => by
    rw [w] at q
    cases q
    by_cases hl : i < as.length
    · rw [List.getElem?_set_self hl] at ht
      cases ht
      trivial
    · rw [List.getElem?_eq_none (by rw [List.length_set]; omega)] at ht; cases ht
  have ob := objM s2 rfl h
  refine ⟨?_, s2, fun b hb => ⟨hb, upd_ne fun q => ?_⟩, fun b hb => ?_⟩
  · unfold slotO at e
    unfold Vl.setO
    split at e
    · rename_i q
      simp only [q]
      have S3 := S2.tell (i := i) (s := .own o') fun _ => ⟨a, hz, w, ob⟩
      rw [List.set_set] at S3; exact S3
    · rename_i q
      simp only [q]
      obtain ⟨b, q1, w1, hp, _⟩ := S.slot i _ q
      rw [hz] at q1
      cases q1
      have S3 := S2.tell (i := i) (s := .io o') fun _ => ⟨a, hz, w, hp, ob⟩
      rw [List.set_set] at S3; exact S3
    · cases e
  · subst q; rw [w] at hb; cases hb
  · by_cases q : b = a
    · subst q; rw [upd_same]; exact nofun
    · rw [upd_ne q]; exact hb
def gDSet (i : Nat) (m : M PD) : PD → AS → Option AS := fun d as => match slotO as i with
  | none => none
  | some _ => match m as with
    | none => none
    | some (kd, as1) => match slotO as1 i with
      | some (.od kvs) => (match kOf kd with
        | none => none
        | some k => if kvs.length < sizeLine then some (setO as1 i (.od (putP kvs k d))) else none)
      | _ => none
theorem eh_dset (hu : X.A.units + 1 < cLine) (h : EV X p .D e me)
    (hN : X.N[i]? = some x := by rfl) (hv : Vis X.env.scope x := by first | exact Or.inl rfl | exact Or.inr (Or.inl rfl) | exact Or.inr (Or.inr rfl)) (hd : (x == ("__debug__" : Str)) = false := by decide)
    (hcd : (x == ("__classdict__" : Str)) = false := by decide)
    (hasg : ∀ v, assign (.Subscript (.Name x npos) e pos) X.env v = (do
      let c ← holding [v] (eval (.Name x npos) X.env)
      let b ← holding [v, c] (eval e X.env)
      standAt pos
      holding [v, c, b] (setItem c b v)
      release [v, c, b] []) := by intro _; rfl) : EH X (.Subscript (.Name x npos) e pos) (gDSet i me) := by
  obtain ⟨t, a1, a2⟩ := h.ok
  refine ⟨_, pg_sub (pe_var hN hv hd hcd) a1 (set_dict hu) hasg, fun G H0 pin ow σ H as v d as' Q S hd hg k => ?_⟩
  unfold gDSet at hg
  split at hg
  · cases hg
  rename_i o0 q0
  obtain ⟨a, hz, w0, _⟩ := S.atO q0
  split at hg
  · cases hg
  rename_i kd as1 q1
  split at hg
  · rename_i kvs q2
    split at hg
    · cases hg
    rename_i kk q3
    split at hg
    · rename_i hlen
      cases hg
      refine ⟨_, hz, ?_⟩
      refine a2 G H0 pin ow σ H as _ _ _ S q1 fun w H1 ow1 st sm S1 lv => ?_
      obtain ⟨b, hz1, w1, ps, hp, hpp⟩ := S1.atO q2
      rw [hz] at hz1
      cases hz1
      have ek := kOf_dp lv q3
      obtain ⟨S2, st2⟩ := S1.newO (u := .dK (putK ps kk v)) q2 hz w1 (o' := .od (putP kvs kk d)) ⟨_, upd_same, put_pair hpp (dpM st.dur _ _ hd)⟩
      exact ⟨a, _, rfl, .inl ⟨ps, kk, hp, ek, by rw [hpp.length]; exact hlen, rfl⟩, k σ _ ow1 (st.dur.trans st2.dur) S2⟩
    · cases hg
  · cases hg

/-! ### a comprehension over the keys of a dict of one's own -/
def mKeys (i : Nat) : M (List PD) := fun as => match as[i]? with
  | some (.own (.fk kvs)) => some (kvs.map fun q => ofK q.1, as)
  | _ => none
theorem dpa_keys {K : Fg} {G G' : Hp} : ∀ {ps : List (Key × V)} {kvs : List (Key × PD)}, Paired (PR K G) ps kvs → DpAll K G' (ps.map fun q => kV q.1) (kvs.map fun q => ofK q.1)
  | _, _, .nil => .nil
  | _, _, .cons h t => by
    refine .cons ?_ (dpa_keys t)
    show Dp K G' (kV _) (ofK _)
    rw [h.1]
    exact ofK_dp _
theorem ei_keys {tg : Expr} (hN : X.N[i]? = some x := by rfl) (hv : Vis X.env.scope x := by first | exact Or.inl rfl | exact Or.inr (Or.inl rfl) | exact Or.inr (Or.inr rfl)) (hd : (x == ("__debug__" : Str)) = false := by decide)
    (hcd : (x == ("__classdict__" : Str)) = false := by decide) : EI X true .I tg (.Name x npos) (mKeys i) := by
  refine ⟨fun _ as r as' h => ?_, _, pi_keys (pe_var hN hv hd hcd), fun G H0 pin ow σ H as ds as' R S hm k => ?_⟩
  · unfold mKeys at h
    split at h <;> cases h
    rfl
  · unfold mKeys at hm
    split at hm
    · rename_i kvs q
      cases hm
      obtain ⟨a, hz, w, o, ps, hp, hpp⟩ := S.slot i _ q
      refine ⟨_, hz, a, o, rfl, .inl ⟨ps, hp, ?_⟩⟩
      refine k _ H ow (ps.map fun q => kV q.1) (fun H2 => H2 a = some (.frz o (.dK ps))) Stp.refl (fun _ => Same.refl _) S (fun H2 h2 => ⟨fun j y e => ?_, fun j hj => ⟨h2, by simpa using hj⟩⟩) (dpa_keys hpp) fun H2 _ h2 => h2 nofun a _ hp
      have hj : j < ps.length := by
        have := (List.getElem?_eq_some_iff.mp e).1
        simpa using this
      refine ⟨⟨h2, hj⟩, fun z H' hy => ⟨hy.1, ?_⟩⟩
      obtain ⟨kk, vv, e2, rfl⟩ := hy.2
      rw [List.getElem?_map, e2] at e
      exact (Option.some.inj e)
    · cases hm
def mLcD (i : Nat) (vs : List Nat) (g : PD → AS → Option AS) (c : M Bool) (el : M PD) : M Res := fun as => match as[i]? with
  | some (.own (.od kvs)) => match mLc vs (mKeys i) g c el (as.set i (.own (.fk kvs))) with
    | none => none
    | some (r, _) => some (r, as)
  | _ => none
theorem mLc_pur {vs : List Nat} {mi : M (List PD)} {g : PD → AS → Option AS} {mc : M Bool} {el : M PD} (hi : ∀ as r as', mi as = some (r, as') → as' = as) (pg : ∀ d as as', g d as = some as' → as'.length = as.length ∧ ∀ j, j ∉ vs → as'[j]? = as[j]?)
    (pt : ∀ as r as', mc as = some (r, as') → as' = as) (pv : ∀ as r as', el as = some (r, as') → as' = as) {as : AS} {r : Res} {as' : AS} (h : mLc vs mi g mc el as = some (r, as')) : as' = as ∧ ∃ ys, r = .obj (.ol ys) := by
  unfold mLc at h
  split at h
  · cases h
  rename_i ds as1 q
  have := hi _ _ _ q
  subst this
  split at h
  · cases h
  rename_i ys as2 q2
  have := lcL_pure pg pt pv ds as1 ys as2 q2
  subst this
  split at h
  · cases h
    exact ⟨back_clr _ _, _, rfl⟩
  · cases h
theorem ef_lcD {elt tg : Expr} {ifs : List Expr} {scope : Scope} {g : PD → AS → Option AS} {mc : M Bool} {el : M PD} (own : List (Str × Nat)) (hc : X.calm = true) (hNd : X.N.Nodup) (hb : blkC X.N X.env.scope scope own = true)
    (hg : ∀ (s : Shared) (H : Hp) (C : Addr) (cl : List (Str × Addr)) (fp : List Addr), EG (X.blk s H scope (compEnvC scope cl C X.env) fp) tg (own.map (·.2)) g)
    (ht : ∀ (s : Shared) (H : Hp) (C : Addr) (cl : List (Str × Addr)) (fp : List Addr), ETs (X.blk s H scope (compEnvC scope cl C X.env) fp) true ifs mc)
    (he : ∀ (s : Shared) (H : Hp) (C : Addr) (cl : List (Str × Addr)) (fp : List Addr), EV (X.blk s H scope (compEnvC scope cl C X.env) fp) true .D elt el)
    (hN : X.N[i]? = some x := by rfl) (hv : Vis X.env.scope x := by first | exact Or.inl rfl | exact Or.inr (Or.inl rfl) | exact Or.inr (Or.inr rfl)) (hd : (x == ("__debug__" : Str)) = false := by decide)
    (hcd : (x == ("__classdict__" : Str)) = false := by decide)
    (hs : ∀ z, foldedSetIterable (.Name x npos) X.env z = pure z := by intro _; rfl) : EF X true (.ListComp elt [{ target := tg, iter := .Name x npos, ifs := ifs, is_async := 0 }] scope pos) (mLcD i (own.map (·.2)) g mc el) := by
  have pg := (hg X.s_0 X.H_0 0 [] []).loc
  have pt := (ht X.s_0 X.H_0 0 [] []).pur
  have pv := (he X.s_0 X.H_0 0 [] []).pur
  have hi : EI X true .I tg (.Name x npos) (mKeys i) := ei_keys hN hv hd hcd
  obtain ⟨t, a1, a2⟩ := lc_sound (vs := own.map (·.2)) (g := g) hi (.inr ⟨rfl, rfl⟩) pt pv
  refine ⟨fun _ as r as' h => ?_, _, pe_lock (pe_lc (own := own) (g := rdG X.K (own.map (·.2)) g) (tt := rdT X.K true mc) (te := rdV X.K true .D el) hc hNd a1 (blkOk_by hb) (fun s H C cl fp => (hg s H C cl fp).can) (fun s H C cl fp => (ht s H C cl fp).ok) (fun s H C cl fp => (he s H C cl fp).can) hs), fun G H0 pin ow σ H as r as' Q S hm k => ?_⟩
  · unfold mLcD at h
    split at h
    · split at h
      · cases h
      · cases h; rfl
    · cases h
  · unfold mLcD at hm
    split at hm
    · rename_i kvs q
      split at hm
      · cases hm
      rename_i r' as2 q2
      cases hm
      obtain ⟨a, hz, w, ps, hp, hpp⟩ := S.slot i _ q
      refine ⟨a, .dK ps, hp, trivial, fun od => ?_⟩
      have so : slotO as i = some (.od kvs) := by unfold slotO; rw [q]
      obtain ⟨S1, st1⟩ := S.newO (u := .frz od (.dK ps)) so hz w (o' := .fk kvs) ⟨od, ps, upd_same, hpp⟩
      have e1 : setO as i (.fk kvs) = as.set i (.own (.fk kvs)) := by unfold setO; rw [q]
      rw [e1] at S1
      refine a2 G H0 pin ow σ _ _ _ as2 _ S1 q2 fun v H2 ow2 st2 sm2 S2 fr => ?_
      have sm := sm2 rfl
      have ha : H2 a = some (.frz od (.dK ps)) := sm a _ upd_same
      refine ⟨ha, ?_⟩
      have sb : Same H (upd H2 a (.dK ps)) := fun b z e => by
        by_cases hb : b = a
        · subst hb; rw [upd_same, ← hp, e]
        · rw [upd_ne hb]; exact sm b z (by rw [upd_ne hb]; exact e)
      obtain ⟨e2, ys, er⟩ := mLc_pur (hi.pur rfl) pg (pt rfl) (pv rfl) q2
      subst er
      subst e2
      have hil : i < as.length := (List.getElem?_eq_some_iff.mp q).1
      have so2 : slotO (as.set i (.own (.fk kvs))) i = some (.fk kvs) := by
        unfold slotO
        rw [List.getElem?_set_self hil]
      obtain ⟨a', hz2, w2, _⟩ := S2.atO so2
      rw [hz] at hz2
      cases hz2
      obtain ⟨S3, st3⟩ := S2.newO (u := .dK ps) so2 hz w2 (o' := .od kvs) ⟨ps, upd_same, Paired.mapP hpp fun _ _ z => ⟨z.1, dpM (st1.dur.trans st2.dur) _ _ z.2⟩⟩
      have e3 : setO (as.set i (.own (.fk kvs))) i (.od kvs) = as := by
        unfold setO
        rw [List.getElem?_set_self hil]
        show (as.set i _).set i _ = as
        rw [List.set_set]
        refine List.ext_getElem? fun j => ?_
        by_cases hj : i = j
        · subst hj; rw [List.getElem?_set_self hil, q]
        · rw [List.getElem?_set_ne hj]
      rw [e3] at S3
      obtain ⟨c, rfl, c1, c2, vs', hv', hd'⟩ := fr
      have hca : c ≠ a := fun z => by subst z; rw [w2] at c2; cases c2
      exact k _ _ ow2 (st1.trans (st2.trans st3)) (fun _ => sb) S3 ⟨c, rfl, c1, c2, vs', by rw [upd_ne hca]; exact hv', dpaM st3.dur _ _ hd'⟩
    · cases hm
end
end Vl

-- V15
set_option Elab.async false
set_option linter.all false
set_option maxRecDepth 100000
set_option maxHeartbeats 4000000
namespace Vl
open PySem L2
section
variable {X : Cx} {e : Expr} {p : Bool} {m : M PD} {n : M Res}
theorem EV.uI (h : EV X p .D e m) : EV X p .I e m := h.up
theorem EV.uB (h : EV X p .D e m) : EV X p .B e m := h.up
theorem EF.vD (h : EF X p e n) : EV X p .D e (mV n) := h.v
theorem EF.vI (h : EF X p e n) : EV X p .I e (mV n) := h.v
theorem EF.vB (h : EF X p e n) : EV X p .B e (mV n) := h.v
end
end Vl

-- V16
set_option Elab.async false
set_option linter.all false
set_option maxRecDepth 100000
set_option maxHeartbeats 4000000
/-! products of lists and tuples, any count -/
namespace L2
open PySem PySem.Spec PyProof.Rows
theorem list_mulWd (l : Addr) (items : Array Value) (n : Nat) (dd : Option Addr) (sl : Array (Option Value)) (x : Int) (u : Tok) (hc0 : ¬(!Builtin.List.listFitsIndex x) = true) (hc1 : ¬items.size * x.toNat > (2 ^ 63 - 1) / 8) (hc2 : ¬Builtin.List.listTooLong (items.size * x.toNat) = true) :
    Meets (Builtin.«list.__mul__» ⟨[.ref l, .int x u], []⟩) (fun _ R s => s.heap.get? l = some { cls := .type "list", dict := dd, data := .seq items n, slots := sl } ∧ R (.ok (.ret (Value.ref s.heap.objs.size))) { s with heap := s.heap.push { cls := Value.type "list", data := Data.seq (List.foldl (fun x1 x2 => x1 ++ x2) #[] (List.replicate (if items.isEmpty = true then 0 else x.toNat) items)) }, toks := s.toks }) :=
  .of_wp fun prog w A R s h => by
    obtain ⟨hp, g, d, tk, os⟩ := s; obtain ⟨hl, h⟩ := h
    have hsz := PySem.AutoListH.joined_fits hc2
    have f1 := AutoSeq1.idx_int
    wp_walk using wpAny_loadPart' hl; refine wpAny_ite_false (decide_eq_false (Nat.not_lt.mpr hsz)) ?_; wp_walk using wpAny_loadPart' hl; exact ⟨_, rfl, h⟩
theorem int_rmul_listd (a : Int) (t : Tok) (l : Addr) (items : Array Value) (n : Nat) (dd : Option Addr) (sl : Array (Option Value)) :
    Meets (Builtin.«int.__rmul__» ⟨[.int a t, .ref l], []⟩) (fun _ R s => s.heap.get? l = some { cls := .type "list", dict := dd, data := .seq items n, slots := sl } ∧ R (.ok (.ret Value.notImplemented)) s) :=
  .of_wp fun prog w A R s h => by obtain ⟨hp, g, d, tk, os⟩ := s; obtain ⟨hl, h⟩ := h; wp_walk using wpAny_loadPart' hl; exact ⟨_, rfl, h⟩
theorem tuple_mulSame (l : Addr) (items : Array Value) (n : Nat) (dd : Option Addr) (sl : Array (Option Value)) (x : Int) (u : Tok) (c0 : (decide (x < -(2 ^ 63)) || decide (x ≥ 2 ^ 63)) = false) (c1 : (items.isEmpty || x == 1) = true) :
    Meets (Builtin.«tuple.__mul__» ⟨[.ref l, .int x u], []⟩) (fun _ R s => s.heap.get? l = some { cls := .type "tuple", dict := dd, data := .seq items n, slots := sl } ∧
      R (.ok (.ret (Value.ref l))) { s with heap := s.heap, toks := s.toks }) :=
  .of_wp fun prog w A R s h => by
    obtain ⟨hp, g, d, tk, os⟩ := s
    obtain ⟨hl, h⟩ := h
    have f1 := AutoSeq1.idx_int
    wp_walk using wpAny_loadPart' hl
    repeat (first
      | (refine wpAny_ite_false (decide_eq_false (by rw [c0]; exact Bool.false_ne_true)) ?_; wp_walk using wpAny_loadPart' hl)
      | (refine wpAny_ite_true (decide_eq_true (by rw [c1])) ?_; wp_walk using wpAny_loadPart' hl))
    exact ⟨_, rfl, h⟩
theorem tuple_mulNil (l : Addr) (items : Array Value) (n : Nat) (dd : Option Addr) (sl : Array (Option Value)) (x : Int) (u : Tok) (c0 : (decide (x < -(2 ^ 63)) || decide (x ≥ 2 ^ 63)) = false) (c1 : (items.isEmpty || x == 1) = false) (c2 : (decide (x ≤ 0) || items.isEmpty) = true) :
    Meets (Builtin.«tuple.__mul__» ⟨[.ref l, .int x u], []⟩) (fun _ R s => s.heap.get? l = some { cls := .type "tuple", dict := dd, data := .seq items n, slots := sl } ∧
      R (.ok (.ret (Value.ref s.heap.objs.size))) { s with heap := s.heap.push { cls := Value.type "tuple", data := Data.seq #[] }, toks := s.toks }) :=
  .of_wp fun prog w A R s h => by
    obtain ⟨hp, g, d, tk, os⟩ := s
    obtain ⟨hl, h⟩ := h
    have f1 := AutoSeq1.idx_int
    wp_walk using wpAny_loadPart' hl
    repeat (first
      | (refine wpAny_ite_false (decide_eq_false (by rw [c0]; exact Bool.false_ne_true)) ?_; wp_walk using wpAny_loadPart' hl)
      | (refine wpAny_ite_false (decide_eq_false (by rw [c1]; exact Bool.false_ne_true)) ?_; wp_walk using wpAny_loadPart' hl)
      | (refine wpAny_ite_true (decide_eq_true (by rw [c2])) ?_; wp_walk using wpAny_loadPart' hl))
    exact ⟨_, rfl, h⟩
end L2
namespace Vl
open PySem L2 PyProof.Rows
def rRepLL (K : Fg) : R2 := fun x y H Q => ∃ l k xs, x = .ref l ∧ y = .int k ∧ SqL K H l xs ∧ -(2 ^ 63) ≤ k ∧ k < 2 ^ 63 ∧ xs.length * k.toNat ≤ sizeLine ∧ ∀ p, H p = none → Q (.ref p) (upd H p (.lst (List.replicate k.toNat xs).flatten))
theorem op_repLL {X : Cx} : OpR X (binaryOp .Mult) (rRepLL X.K) := by
  intro pins s σ H x y v u Q I rx ry h
  obtain ⟨l, k, xs, rfl, rfl, hH, h1, h2, hz, q⟩ := h
  cases rx
  obtain ⟨t, rfl⟩ := ry
  obtain ⟨its, r, p1, _⟩ := I.list hH
  obtain ⟨⟨c1, d1, t1, s1⟩, e, hc1, n, ht1⟩ := p1.isList
  simp only at hc1 ht1
  subst hc1 ht1
  have hlen : its.toArray.size * k.toNat ≤ sizeLine := by rw [List.size_toArray, ← r.length]; exact hz
  have hcap : ¬ its.toArray.size * k.toNat > (2 ^ 63 - 1) / 8 := by
    have : (sizeLine : Nat) ≤ (2 ^ 63 - 1) / 8 := by decide
    omega
  have hfit : ¬ (!Builtin.List.listFitsIndex k) = true := by
    rw [fitsIndex_both h1 h2]
    exact Bool.false_ne_true
  have hlong : ¬ Builtin.List.listTooLong (its.toArray.size * k.toNat) = true := by
    rw [notLongL hlen]
    exact Bool.false_ne_true
  have hnew : List.foldl (fun x1 x2 => x1 ++ x2) #[] (List.replicate (if its.toArray.isEmpty = true then 0 else k.toNat) its.toArray) = (List.replicate k.toNat its).flatten.toArray := by
    have f0 : ∀ m : Nat, List.foldl (fun x1 x2 => x1 ++ x2) #[] (List.replicate m its.toArray) = (List.replicate m its).flatten.toArray := fun m => by
      have := foldl_rep its m []
      rw [List.nil_append] at this
      exact this
    rw [f0]
    cases its with
    | nil => simp
    | cons a r' => rw [if_neg (by simp)]
  refine wpAny_binaryOp_repeat_ref (T := "list") (U := "int") (by decide) ⟨_, e, rfl⟩ (fun s' => typeIs_int s' k t) noFill_list_mul PySem.F.fills_int_mul PySem.F.slot_int_rmul repeat_list PySem.F.slot_int_index.lookup
    (call_meets PySem.F.slot_int_rmul (typeIs_int s k t) PySem.F.entry_int_rmul (PySem.F.args_int_rmul_2 _ _) (int_rmul_listd k t l its.toArray n d1 s1)
      ⟨e, rfl, ⟨_, e, rfl⟩, call_meets PySem.F.slot_list_mul ⟨_, e, rfl⟩ PySem.F.entry_list_mul (PySem.F.args_list_mul_2 _ _) (list_mulWd l its.toArray n d1 s1 k t hfit hcap hlong) ⟨e, ?_⟩⟩)
  rw [hnew]
  exact ⟨.ref _, _, I.lnew (t' := s.toks) (r.rep k.toNat) (by rw [PyProof.Rows.lm_len_rep_flat, Nat.mul_comm]; exact hz), rfl, q _ I.fresh⟩
/-- tuple * int, any int -/
def rRepTT (K : Fg) : R2 := fun x y H Q => ∃ l k xs, x = .ref l ∧ y = .int k ∧ SqT K H l xs ∧ -(2 ^ 63) ≤ k ∧ k < 2 ^ 63 ∧ xs.length * k.toNat ≤ 1000000 ∧ xs.length ≤ 1000 ∧ k ≤ 1000 ∧ ((xs = [] ∨ k = 1) → Q (.ref l) H) ∧ (xs ≠ [] → k ≠ 1 → ∀ p, H p = none → Q (.ref p) (upd H p (.tup (List.replicate k.toNat xs).flatten)))
theorem op_repTT {X : Cx} : OpR X (binaryOp .Mult) (rRepTT X.K) := by
  intro pins s σ H x y v u Q I rx ry h
  obtain ⟨l, k, xs, rfl, rfl, hT, h1, h2, hz, hz1, hz2, q1, q2⟩ := h
  by_cases h3 : xs ≠ [] ∧ 2 ≤ k
  · exact op_repT pins s σ H _ _ v u Q I rx ry ⟨l, k, xs, rfl, rfl, hT, h3.1, h3.2, hz2, hz1, q2 h3.1 (by omega)⟩
  cases rx
  obtain ⟨t, rfl⟩ := ry
  obtain ⟨its, r, ⟨⟨cls, dd, data, sl⟩, ho, hc, n, hd⟩, hs⟩ := I.tuple hT
  simp only at hc hd
  subst hc hd
  have hle : its.length = xs.length := r.length.symm
  have c0 : (decide (k < -(2 ^ 63)) || decide (k ≥ 2 ^ 63)) = false := by
    rw [decide_eq_false (by omega), decide_eq_false (by omega)] <;> rfl
  by_cases h4 : xs = [] ∨ k = 1
  · have c1 : (its.toArray.isEmpty || k == 1) = true := by
      rcases h4 with h4 | h4
      · subst h4; cases r; rfl
      · subst h4; simp
    exact wpAny_binaryOp_repeat_ref (T := "tuple") (U := "int") (by decide) ⟨_, ho, rfl⟩ (fun s' => typeIs_int s' k t) noFill_tuple_mul PySem.F.fills_int_mul PySem.F.slot_int_rmul repeat_tuple PySem.F.slot_int_index.lookup
      (call_meets PySem.F.slot_int_rmul (typeIs_int s k t) PySem.F.entry_int_rmul (PySem.F.args_int_rmul_2 _ _) (int_rmul_tuple k t l its.toArray n dd sl)
        ⟨ho, rfl, ⟨_, ho, rfl⟩, call_meets PySem.F.slot_tuple_mul ⟨_, ho, rfl⟩ PySem.F.entry_tuple_mul (PySem.F.args_tuple_mul_2 _ _) (tuple_mulSame l its.toArray n dd sl k t c0 c1) ⟨ho, .ref l, H, I, rfl, q1 h4⟩⟩)
  · have hx : xs ≠ [] := fun e => h4 (.inl e)
    have hk1 : k ≠ 1 := fun e => h4 (.inr e)
    have hk : k ≤ 0 := by
      have : ¬ 2 ≤ k := fun e => h3 ⟨hx, e⟩
      omega
    have hn : its ≠ [] := fun e => hx (by
      rw [e] at hle
      exact List.eq_nil_of_length_eq_zero hle.symm)
    have hi : its.toArray.isEmpty = false := by
      cases its with
      | nil => exact absurd rfl hn
      | cons a b => rfl
    have c1 : (its.toArray.isEmpty || k == 1) = false := by
      rw [hi, Bool.false_or]
      exact beq_eq_false_iff_ne.mpr hk1
    have c2 : (decide (k ≤ 0) || its.toArray.isEmpty) = true := by
      rw [hi, Bool.or_false]
      exact decide_eq_true hk
    refine wpAny_binaryOp_repeat_ref (T := "tuple") (U := "int") (by decide) ⟨_, ho, rfl⟩ (fun s' => typeIs_int s' k t) noFill_tuple_mul PySem.F.fills_int_mul PySem.F.slot_int_rmul repeat_tuple PySem.F.slot_int_index.lookup
      (call_meets PySem.F.slot_int_rmul (typeIs_int s k t) PySem.F.entry_int_rmul (PySem.F.args_int_rmul_2 _ _) (int_rmul_tuple k t l its.toArray n dd sl)
        ⟨ho, rfl, ⟨_, ho, rfl⟩, call_meets PySem.F.slot_tuple_mul ⟨_, ho, rfl⟩ PySem.F.entry_tuple_mul (PySem.F.args_tuple_mul_2 _ _) (tuple_mulNil l its.toArray n dd sl k t c0 c1 c2) ⟨ho, ?_⟩⟩)
    have q3 := q2 hx hk1
    rw [show k.toNat = 0 by omega] at q3
    refine ⟨.ref s.heap.objs.size, _, I.laid (t' := s.toks) (o := .tup []) (fun b ob q => Heap.get?_push_of_some _ q) (Nat.le_refl _) ?_, rfl, q3 _ (I.hok.fresh (Nat.le_refl _))⟩
    exact ⟨Nat.zero_le _, [], .nil, IsTup.new _ _⟩
/-- a product: of ints; of a list or a tuple and an int -/
def fMulA : PD → PD → Option Res
  | .int i, .int j => (iMul i j).map .val
  | .list ds, .int k => if -(2 ^ 63) ≤ k ∧ k < 2 ^ 63 ∧ ds.length * k.toNat ≤ sizeLine then some (.obj (.ol (List.replicate k.toNat ds).flatten)) else none
  | .tuple ds, .int k => if -(2 ^ 63) ≤ k ∧ k ≤ 1000 ∧ ds.length ≤ 1000 then some (.val (.tuple (List.replicate k.toNat ds).flatten)) else none
  | _, _ => none
theorem rep_nil {α : Type} : ∀ n : Nat, (List.replicate n ([] : List α)).flatten = []
  | 0 => rfl
  | n + 1 => by rw [List.replicate_succ, List.flatten_cons, rep_nil n]; rfl
theorem r2o_mulA {K : Fg} : R2O K (fun x y H Q => (rI CMul fun i j => .int (i * j)) x y H Q ∨ (rI CMulW fun i j => .int (i * j)) x y H Q ∨ rRepTT K x y H Q ∨ rRepLL K x y H Q) fMulA := by
  intro G H x y dx dy res s hx hy hf Q k
  unfold fMulA at hf
  split at hf
  · rename_i i j
    unfold iMul at hf
    split at hf
    · rename_i hc
      cases hf
      cases hx
      cases hy
      unfold mulOk at hc
      simp only [Bool.or_eq_true, decide_eq_true_eq] at hc
      rcases hc with (hc | hc) | hc
      · exact .inl ⟨_, _, rfl, rfl, .inl (by omega), k _ H (Same.refl H) (ok_nil (Dp.int _))⟩
      · exact .inl ⟨_, _, rfl, rfl, .inr (by omega), k _ H (Same.refl H) (ok_nil (Dp.int _))⟩
      · exact .inr (.inl ⟨_, _, rfl, rfl, hc, k _ H (Same.refl H) (ok_nil (Dp.int _))⟩)
    · cases hf
  · rename_i ds j
    split at hf
    · rename_i hc
      cases hf
      obtain ⟨l, xs, rfl, q1, r1⟩ := hx
      cases hy
      have e1 := dpa_len r1
      exact .inr (.inr (.inr ⟨l, j, xs, rfl, rfl, q1, hc.1, hc.2.1, by rw [e1]; exact hc.2.2, fun q hq => k _ _ (upd_grow hq) (ok_lst s hq (dpa_rep r1 _))⟩))
    · cases hf
  · rename_i ds j
    split at hf
    · rename_i hc
      cases hf
      cases hx with
      | @tup l xs _ q1 r1 =>
      cases hy
      have e1 := dpa_len r1
      refine .inr (.inr (.inl ⟨l, j, xs, rfl, rfl, sqtM s q1, hc.1, by omega, ?_, by omega, hc.2.1, fun h => ?_, fun _ _ q hq => k _ _ (upd_grow hq) (ok_tup s hq (dpa_rep r1 _))⟩))
      · have a1 : xs.length * j.toNat ≤ 1000 * 1000 := Nat.mul_le_mul (by omega) (by omega)
        omega
      · have e : (List.replicate j.toNat ds).flatten = ds := by
          rcases h with h | h
          · subst h
            cases r1
            exact rep_nil _
          · subst h
            show (List.replicate 1 ds).flatten = ds
            simp
        rw [e] at k
        exact k _ H (Same.refl H) (ok_val s (Dp.tup q1 r1))
    · cases hf
  · cases hf
section
variable {X : Cx} {a b : Expr} {p p1 p2 : Bool} {l l1 : Lv} {ma mb : M PD} {pos : Pos}
theorem ef_mulA (ha : EV X p1 l a ma) (hb : EV X p2 l1 b mb) (hs : l = .D ∨ p2 = true := by first | exact .inr rfl | exact .inl rfl) (hl : l ≠ .B := by nofun) (hl1 : l1 ≠ .B := by nofun) : EF X (p1 && p2) (.BinOp a .Mult b pos) (m2 fMulA ma mb) := ef_op (op_mul.or (op_mulW.or (op_repTT.or op_repLL))) r2o_mulA ha hb hs hl hl1
end
end Vl

-- T1
set_option Elab.async false
set_option linter.all false
set_option maxRecDepth 100000
set_option maxHeartbeats 4000000
/-! tools for the denotations: what they compute, by simp -/
namespace Vl
open PySem L2
/-! no lambdas in what simp sees: continuations are denotations -/
section
variable {α β γ : Type} {as : AS}
def pairR (o : Option α) (as : AS) : Option (α × AS) := match o with
  | none => none
  | some a => some (a, as)
@[simp] theorem pairR_some {a : α} : pairR (some a) as = some (a, as) := (rfl)
@[simp] theorem mPure_ap {a : α} : mPure a as = some (a, as) := (rfl)
@[simp] theorem mOpt_ap {o : Option α} : mOpt o as = pairR o as := by
  unfold mOpt pairR
  cases o <;> rfl
def k1 (f : β → Option α) (q : Option (β × AS)) : Option (α × AS) := match q with
  | none => none
  | some (x, as) => pairR (f x) as
@[simp] theorem k1_some {f : β → Option α} {x : β} : k1 f (some (x, as)) = pairR (f x) as := (rfl)
@[simp] theorem m1_ap {f : PD → Option α} {m : M PD} : m1 f m as = k1 f (m as) := by
  show mBind m _ as = _
  unfold mBind
  cases m as with
  | none => rfl
  | some q => exact mOpt_ap
@[simp] theorem mN_ap {f : List PD → Option Res} {m : M (List PD)} : mN f m as = k1 f (m as) := by
  show mBind m _ as = _
  unfold mBind
  cases m as with
  | none => rfl
  | some q => exact mOpt_ap
@[simp] theorem mS_ap {f : List PD → Option PD} {m : M (List PD)} : mS f m as = k1 f (m as) := by
  show mBind m _ as = _
  unfold mBind
  cases m as with
  | none => rfl
  | some q => exact mOpt_ap
@[simp] theorem mR_ap {f : List PD → Option (List PD)} {m : M (List PD)} : mR f m as = k1 f (m as) := by
  show mBind m _ as = _
  unfold mBind
  cases m as with
  | none => rfl
  | some q => exact mOpt_ap
@[simp] theorem mV_ap {m : M Res} : mV m as = k1 Res.v (m as) := by
  show mBind m _ as = _
  unfold mBind
  cases m as with
  | none => rfl
  | some q => exact mOpt_ap
@[simp] theorem Res.v_val {d : PD} : (Res.val d).v = some d := (rfl)
@[simp] theorem Res.v_ol {xs : List PD} : (Res.obj (.ol xs)).v = some (.list xs) := (rfl)
def kF (q : Option (PD × AS)) : Option (Res × AS) := match q with
  | none => none
  | some (x, as) => some (.val x, as)
@[simp] theorem kF_some {x : PD} : kF (some (x, as)) = some (.val x, as) := (rfl)
@[simp] theorem mF_ap {m : M PD} : mF m as = kF (m as) := by
  show mBind m _ as = _
  unfold mBind
  cases m as <;> rfl
def k2b' (f : PD → PD → Option α) (x : PD) (q : Option (PD × AS)) : Option (α × AS) := match q with
  | none => none
  | some (y, as) => pairR (f x y) as
def k2 (f : PD → PD → Option α) (q : Option (PD × AS)) (n : M PD) : Option (α × AS) := match q with
  | none => none
  | some (x, as) => k2b' f x (n as)
@[simp] theorem k2_some {f : PD → PD → Option α} {x : PD} {n : M PD} : k2 f (some (x, as)) n = k2b' f x (n as) := (rfl)
@[simp] theorem k2b'_some {f : PD → PD → Option α} {x y : PD} : k2b' f x (some (y, as)) = pairR (f x y) as := (rfl)
@[simp] theorem m2_ap {f : PD → PD → Option α} {m n : M PD} : m2 f m n as = k2 f (m as) n := by
  show mBind m _ as = _
  unfold mBind
  cases m as with
  | none => rfl
  | some q =>
    show mBind n _ q.2 = k2b' f q.1 (n q.2)
    unfold mBind k2b'
    cases n q.2 with
    | none => rfl
    | some r => exact mOpt_ap
def asBo (o : Option PD) : Option Bool := o.bind asB
@[simp] theorem asBo_bool {b : Bool} : asBo (some (.bool b)) = some b := (rfl)
def fB (f : PD → PD → Option PD) (x y : PD) : Option Bool := asBo (f x y)
@[simp] theorem fB_ap {f : PD → PD → Option PD} {x y : PD} : fB f x y = asBo (f x y) := (rfl)
@[simp] theorem m2b_ap {f : PD → PD → Option PD} {m n : M PD} : m2b f m n as = k2 (fB f) (m as) n := m2_ap
def kC' (x : PD) (q : Option (List PD × AS)) : Option (List PD × AS) := match q with
  | none => none
  | some (xs, as) => some (x :: xs, as)
def kC (q : Option (PD × AS)) (n : M (List PD)) : Option (List PD × AS) := match q with
  | none => none
  | some (x, as) => kC' x (n as)
@[simp] theorem kC_some {x : PD} {n : M (List PD)} : kC (some (x, as)) n = kC' x (n as) := (rfl)
@[simp] theorem kC'_some {x : PD} {xs : List PD} : kC' x (some (xs, as)) = some (x :: xs, as) := (rfl)
@[simp] theorem mCons_ap {m : M PD} {ms : M (List PD)} : mCons m ms as = kC (m as) ms := by
  show mBind m _ as = _
  unfold mBind
  cases m as with
  | none => rfl
  | some q =>
    show mBind ms _ q.2 = kC' q.1 (ms q.2)
    unfold mBind
    cases ms q.2 <;> rfl
def kIsi (T : String) (q : Option (PD × AS)) : Option (PD × AS) := match q with
  | none => none
  | some (x, as) => some (.bool (isT T x), as)
@[simp] theorem kIsi_some {T : String} {x : PD} : kIsi T (some (x, as)) = some (.bool (isT T x), as) := (rfl)
@[simp] theorem mIsi_ap {T : String} {m : M PD} : mIsi T m as = kIsi T (m as) := by
  show m1 _ m as = _
  rw [m1_ap]
  cases m as <;> rfl
def kP (q : Option (PD × AS)) : Option (Option Int × AS) := match q with
  | some (.int i, as) => some (some i, as)
  | _ => none
@[simp] theorem kP_some {i : Int} : kP (some (.int i, as)) = some (some i, as) := (rfl)
@[simp] theorem mPart_ap {m : M PD} : mPart m as = kP (m as) := by
  show mBind m _ as = _
  unfold mBind
  cases m as with
  | none => rfl
  | some q =>
    obtain ⟨d, as1⟩ := q
    cases d <;> rfl
def kS3 (d : PD) (lo : Option Int) (q : Option (Option Int × AS)) : Option (Res × AS) := match q with
  | none => none
  | some (hi, as) => pairR (fSl d lo hi) as
def kS2 (d : PD) (q : Option (Option Int × AS)) (h : M (Option Int)) : Option (Res × AS) := match q with
  | none => none
  | some (lo, as) => kS3 d lo (h as)
def kS1 (q : Option (PD × AS)) (l h : M (Option Int)) : Option (Res × AS) := match q with
  | none => none
  | some (d, as) => kS2 d (l as) h
@[simp] theorem kS1_some {d : PD} {l h : M (Option Int)} : kS1 (some (d, as)) l h = kS2 d (l as) h := (rfl)
@[simp] theorem kS2_some {d : PD} {lo : Option Int} {h : M (Option Int)} : kS2 d (some (lo, as)) h = kS3 d lo (h as) := (rfl)
@[simp] theorem kS3_some {d : PD} {lo hi : Option Int} : kS3 d lo (some (hi, as)) = pairR (fSl d lo hi) as := (rfl)
@[simp] theorem mSl_ap {m : M PD} {l h : M (Option Int)} : mSl m l h as = kS1 (m as) l h := by
  show mBind m _ as = _
  unfold mBind
  cases m as with
  | none => rfl
  | some q =>
    show mBind l _ q.2 = kS2 q.1 (l q.2) h
    unfold mBind
    cases l q.2 with
    | none => rfl
    | some r =>
      show mBind h _ r.2 = kS3 q.1 r.1 (h r.2)
      unfold mBind
      cases h r.2 with
      | none => rfl
      | some t => exact mOpt_ap
/-- a test's two ways -/
def kI (q : Option (Bool × AS)) (m n : AS → Option γ) : Option γ := match q with
  | none => none
  | some (true, as) => m as
  | some (false, as) => n as
@[simp] theorem kI_true {m n : AS → Option γ} : kI (some (true, as)) m n = m as := (rfl)
@[simp] theorem kI_false {m n : AS → Option γ} : kI (some (false, as)) m n = n as := (rfl)
theorem kI_ite {m n : AS → Option γ} {b : Bool} : kI (some (b, as)) m n = if b = true then m as else n as := by cases b <;> rfl
@[simp] theorem mAnd_ap {m n : M Bool} : mAnd m n as = kI (m as) n (mPure false) := by
  show mBind m _ as = _
  unfold mBind
  cases m as with
  | none => rfl
  | some q => obtain ⟨b, as1⟩ := q; cases b <;> rfl
@[simp] theorem mOr_ap {m n : M Bool} : mOr m n as = kI (m as) (mPure true) n := by
  show mBind m _ as = _
  unfold mBind
  cases m as with
  | none => rfl
  | some q => obtain ⟨b, as1⟩ := q; cases b <;> rfl
def kNot (q : Option (Bool × AS)) : Option (Bool × AS) := match q with
  | none => none
  | some (b, as) => some (!b, as)
@[simp] theorem kNot_some {b : Bool} : kNot (some (b, as)) = some (!b, as) := (rfl)
@[simp] theorem mNot_ap {m : M Bool} : mNot m as = kNot (m as) := by
  show mBind m _ as = _
  unfold mBind
  cases m as <;> rfl
@[simp] theorem mIte_ap {c : M Bool} {m n : M α} : mIte c m n as = kI (c as) m n := by
  show mBind c _ as = _
  unfold mBind
  cases c as with
  | none => rfl
  | some q => obtain ⟨b, as1⟩ := q; cases b <;> rfl
def kIV (q : Option (PD × AS)) (m n : M PD) : Option (PD × AS) := match q with
  | some (.bool true, as) => m as
  | some (.bool false, as) => n as
  | _ => none
@[simp] theorem kIV_true {m n : M PD} : kIV (some (.bool true, as)) m n = m as := (rfl)
@[simp] theorem kIV_false {m n : M PD} : kIV (some (.bool false, as)) m n = n as := (rfl)
@[simp] theorem mAndV_ap {m n : M PD} : mAndV m n as = kIV (m as) n (mPure (.bool false)) := by
  show mBind m _ as = _
  unfold mBind
  cases m as with
  | none => rfl
  | some q =>
    obtain ⟨d, as1⟩ := q
    cases d with
    | bool b => cases b <;> rfl
    | _ => rfl
@[simp] theorem mOrV_ap {m n : M PD} : mOrV m n as = kIV (m as) (mPure (.bool true)) n := by
  show mBind m _ as = _
  unfold mBind
  cases m as with
  | none => rfl
  | some q =>
    obtain ⟨d, as1⟩ := q
    cases d with
    | bool b => cases b <;> rfl
    | _ => rfl
def kNotV (q : Option (PD × AS)) : Option (PD × AS) := match q with
  | some (.bool b, as) => some (.bool !b, as)
  | _ => none
@[simp] theorem kNotV_some {b : Bool} : kNotV (some (.bool b, as)) = some (.bool !b, as) := (rfl)
@[simp] theorem mNotV_ap {m : M PD} : mBind (m1 asB m) (fun c => mPure (.bool !c)) as = kNotV (m as) := by
  unfold mBind
  rw [m1_ap]
  cases m as with
  | none => rfl
  | some q =>
    obtain ⟨d, as1⟩ := q
    cases d <;> rfl
@[simp] theorem sNx_ap : sNx as = some (.nx, as) := (rfl)
@[simp] theorem sBk_ap : sBk as = some (.bk, as) := (rfl)
@[simp] theorem sCt_ap : sCt as = some (.ct, as) := (rfl)
@[simp] theorem sRetN_ap : sRetN as = some (.rt (.val .none), as) := (rfl)
def kT (q : Option (Ctl × AS)) (n : MS) : Option (Ctl × AS) := match q with
  | none => none
  | some (.nx, as) => n as
  | some (c, as) => some (c, as)
@[simp] theorem kT_nx {n : MS} : kT (some (.nx, as)) n = n as := (rfl)
@[simp] theorem kT_bk {n : MS} : kT (some (.bk, as)) n = some (.bk, as) := (rfl)
@[simp] theorem kT_ct {n : MS} : kT (some (.ct, as)) n = some (.ct, as) := (rfl)
@[simp] theorem kT_rt {n : MS} {r : Res} : kT (some (.rt r, as)) n = some (.rt r, as) := (rfl)
@[simp] theorem sThen_ap {m n : MS} : sThen m n as = kT (m as) n := by
  unfold sThen kT
  cases m as with
  | none => rfl
  | some q =>
    obtain ⟨c, as1⟩ := q
    cases c <;> rfl
@[simp] theorem sIf_ap {c : M Bool} {m n : MS} : sIf c m n as = kI (c as) m n := by
  unfold sIf
  cases c as with
  | none => rfl
  | some q => obtain ⟨b, as1⟩ := q; cases b <;> rfl
def kD (q : Option (α × AS)) : Option (Ctl × AS) := match q with
  | none => none
  | some (_, as) => some (.nx, as)
@[simp] theorem kD_some {a : α} : kD (some (a, as)) = some (.nx, as) := (rfl)
@[simp] theorem sDrop_ap {m : M α} : sDrop m as = kD (m as) := by
  unfold sDrop
  cases m as <;> rfl
def kRet (q : Option (Res × AS)) : Option (Ctl × AS) := match q with
  | none => none
  | some (r, as) => some (.rt r, as)
@[simp] theorem kRet_some {r : Res} : kRet (some (r, as)) = some (.rt r, as) := (rfl)
@[simp] theorem sRet_ap {m : M Res} : sRet m as = kRet (m as) := by
  unfold sRet
  cases m as <;> rfl
/-- a slot's new thing -/
def slotOf : Res → Slot
  | .val d => .dur d
  | .obj o => .own o
@[simp] theorem slotOf_val {d : PD} : slotOf (.val d) = .dur d := (rfl)
@[simp] theorem slotOf_obj {o : Obj} : slotOf (.obj o) = .own o := (rfl)
/-- a slot set anew -/
def wS (z : Slot) : AS → Nat → Option AS
  | [], _ => none
  | .io _ :: _, 0 => none
  | _ :: l, 0 => some (z :: l)
  | s :: l, i + 1 => match wS z l i with
    | none => none
    | some l' => some (s :: l')
def kW (s : Slot) (q : Option AS) : Option AS := match q with
  | none => none
  | some l => some (s :: l)
@[simp] theorem kW_some {s : Slot} {l : AS} : kW s (some l) = some (s :: l) := (rfl)
def isF : Slot → Bool
  | .io _ => false
  | _ => true
@[simp] theorem isF_un : isF .un = true := of_eq_true (eq_self true)
@[simp] theorem isF_dur {d : PD} : isF (.dur d) = true := of_eq_true (eq_self true)
@[simp] theorem isF_own {o : Obj} : isF (.own o) = true := of_eq_true (eq_self true)
@[simp] theorem isF_io {o : Obj} : isF (.io o) = false := (rfl)
@[simp] theorem wS_un {z : Slot} {l : AS} : wS z (.un :: l) 0 = some (z :: l) := (rfl)
@[simp] theorem wS_dur {z : Slot} {d : PD} {l : AS} : wS z (.dur d :: l) 0 = some (z :: l) := (rfl)
@[simp] theorem wS_own {z : Slot} {o : Obj} {l : AS} : wS z (.own o :: l) 0 = some (z :: l) := (rfl)
@[simp] theorem wS_zero {z s : Slot} {l : AS} (h : isF s = true) : wS z (s :: l) 0 = some (z :: l) := by
  cases s with
  | io o => cases h
  | _ => rfl
@[simp] theorem wS_succ {z s : Slot} {l : AS} {i : Nat} : wS z (s :: l) (i + 1) = kW s (wS z l i) := by
  have : wS z (s :: l) (i + 1) = match wS z l i with | none => none | some l' => some (s :: l') := by cases s <;> rfl
  rw [this]
  cases wS z l i <;> rfl
theorem wS_eq (z : Slot) : ∀ (as : AS) (i : Nat), wS z as i = match as[i]? with
    | some (.io _) => none
    | none => none
    | _ => some (as.set i z)
  | [], _ => rfl
  | s :: l, 0 => by cases s <;> rfl
  | s :: l, i + 1 => by
    rw [wS_succ, wS_eq z l i, List.getElem?_cons_succ]
    cases l[i]? with
    | none => rfl
    | some t => cases t <;> rfl
def kSet (i : Nat) (q : Option (Res × AS)) : Option (Ctl × AS) := match q with
  | none => none
  | some (r, as) => (match wS (slotOf r) as i with
    | none => none
    | some as2 => some (.nx, as2))
def kN (q : Option AS) : Option (Ctl × AS) := match q with
  | none => none
  | some as2 => some (.nx, as2)
@[simp] theorem kN_some : kN (some as) = some (.nx, as) := (rfl)
@[simp] theorem kSet_some {i : Nat} {r : Res} : kSet i (some (r, as)) = kN (wS (slotOf r) as i) := by
  show (match wS (slotOf r) as i with | none => none | some as2 => some (Ctl.nx, as2)) = _
  unfold kN
  cases wS (slotOf r) as i <;> rfl
@[simp] theorem sSet_ap {i : Nat} {m : M Res} : sSet i m as = kSet i (m as) := by
  unfold sSet kSet
  cases m as with
  | none => rfl
  | some q =>
    obtain ⟨r, as1⟩ := q
    simp only [wS_eq]
    cases h : as1[i]? with
    | none => rfl
    | some s => cases s <;> cases r <;> rfl
@[simp] theorem gN_ap {i : Nat} {d : PD} : gN i d as = wS (.dur d) as i := by
  refine Eq.trans ?_ (wS_eq _ _ _).symm
  unfold gN
  cases h : as[i]? with
  | none => rfl
  | some s => cases s <;> rfl
@[simp] theorem gNil_ap : gNil [] as = some as := (rfl)
def kG (q : Option AS) (gs : List PD → AS → Option AS) (ds : List PD) : Option AS := match q with
  | none => none
  | some as => gs ds as
@[simp] theorem kG_some {gs : List PD → AS → Option AS} {ds : List PD} : kG (some as) gs ds = gs ds as := (rfl)
@[simp] theorem gCons_ap {g : PD → AS → Option AS} {gs : List PD → AS → Option AS} {d : PD} {ds : List PD} : gCons g gs (d :: ds) as = kG (g d as) gs ds := by
  show (match g d as with | none => none | some as1 => gs ds as1) = _
  cases g d as <;> rfl
@[simp] theorem gT_ap {gs : List PD → AS → Option AS} {ds : List PD} : gT gs (.tuple ds) as = gs ds as := (rfl)
def kAsg (g : PD → AS → Option AS) (q : Option (PD × AS)) : Option (Ctl × AS) := match q with
  | none => none
  | some (d, as) => kN (g d as)
@[simp] theorem kAsg_some {g : PD → AS → Option AS} {d : PD} : kAsg g (some (d, as)) = kN (g d as) := (rfl)
@[simp] theorem sAsg_ap {g : PD → AS → Option AS} {m : M PD} : sAsg g m as = kAsg g (m as) := by
  unfold sAsg kAsg
  cases m as with
  | none => rfl
  | some q =>
    obtain ⟨d, as1⟩ := q
    simp only [kN]
    all_goals (cases g d as1 <;> rfl)
def kFor (g : PD → AS → Option AS) (b : MS) (q : Option (List PD × AS)) : Option (Ctl × AS) := match q with
  | none => none
  | some (ds, as) => forL g b ds as
@[simp] theorem kFor_some {g : PD → AS → Option AS} {b : MS} {ds : List PD} : kFor g b (some (ds, as)) = forL g b ds as := (rfl)
@[simp] theorem sFor_ap {mi : M (List PD)} {g : PD → AS → Option AS} {b : MS} : sFor mi g b as = kFor g b (mi as) := by
  unfold sFor
  cases mi as <;> rfl
end
/-- what a slot shows -/
def sv : Slot → Option PD
  | .dur d => some d
  | .own (.ol xs) => some (.list xs)
  | .io (.ol xs) => some (.list xs)
  | _ => none
def svD : Slot → Option PD
  | .dur d => some d
  | _ => none
def vI : AS → Nat → Option PD
  | [], _ => none
  | s :: _, 0 => sv s
  | _ :: l, i + 1 => vI l i
def vD : AS → Nat → Option PD
  | [], _ => none
  | s :: _, 0 => svD s
  | _ :: l, i + 1 => vD l i
@[simp] theorem vI_zero {s : Slot} {l : AS} : vI (s :: l) 0 = sv s := (rfl)
@[simp] theorem vI_succ {s : Slot} {l : AS} {i : Nat} : vI (s :: l) (i + 1) = vI l i := (rfl)
@[simp] theorem vD_zero {s : Slot} {l : AS} : vD (s :: l) 0 = svD s := (rfl)
@[simp] theorem vD_succ {s : Slot} {l : AS} {i : Nat} : vD (s :: l) (i + 1) = vD l i := (rfl)
@[simp] theorem sv_dur {d : PD} : sv (.dur d) = some d := (rfl)
@[simp] theorem sv_own {xs : List PD} : sv (.own (.ol xs)) = some (.list xs) := (rfl)
@[simp] theorem sv_io {xs : List PD} : sv (.io (.ol xs)) = some (.list xs) := (rfl)
@[simp] theorem svD_dur {d : PD} : svD (.dur d) = some d := (rfl)
theorem vI_eq : ∀ (as : AS) (i : Nat), vI as i = (as[i]?).bind sv
  | [], _ => rfl
  | _ :: _, 0 => rfl
  | _ :: l, i + 1 => by rw [vI_succ, List.getElem?_cons_succ]; exact vI_eq l i
theorem vD_eq : ∀ (as : AS) (i : Nat), vD as i = (as[i]?).bind svD
  | [], _ => rfl
  | _ :: _, 0 => rfl
  | _ :: l, i + 1 => by rw [vD_succ, List.getElem?_cons_succ]; exact vD_eq l i
@[simp] theorem mI_ap {as : AS} {i : Nat} : mI i as = pairR (vI as i) as := by
  rw [vI_eq]
  unfold mI
  cases as[i]? with
  | none => rfl
  | some s =>
    cases s with
    | own o => cases o <;> rfl
    | io o => cases o <;> rfl
    | _ => rfl
@[simp] theorem mD_ap {as : AS} {i : Nat} : mD i as = pairR (vD as i) as := by
  rw [vD_eq]
  unfold mD
  cases as[i]? with
  | none => rfl
  | some s => cases s <;> rfl
/-- the list of one's own in a slot; another one put there -/
def sL : Slot → Option (List PD)
  | .own (.ol xs) => some xs
  | .io (.ol xs) => some xs
  | _ => none
def vL : AS → Nat → Option (List PD)
  | [], _ => none
  | s :: _, 0 => sL s
  | _ :: l, i + 1 => vL l i
def pS (xs : List PD) : Slot → Slot
  | .io _ => .io (.ol xs)
  | _ => .own (.ol xs)
def pL : AS → Nat → List PD → AS
  | [], _, _ => []
  | s :: l, 0, xs => pS xs s :: l
  | s :: l, i + 1, xs => s :: pL l i xs
@[simp] theorem vL_zero {s : Slot} {l : AS} : vL (s :: l) 0 = sL s := (rfl)
@[simp] theorem vL_succ {s : Slot} {l : AS} {i : Nat} : vL (s :: l) (i + 1) = vL l i := (rfl)
@[simp] theorem pL_zero {s : Slot} {l : AS} {xs : List PD} : pL (s :: l) 0 xs = pS xs s :: l := (rfl)
@[simp] theorem pL_succ {s : Slot} {l : AS} {i : Nat} {xs : List PD} : pL (s :: l) (i + 1) xs = s :: pL l i xs := (rfl)
@[simp] theorem sL_own {xs : List PD} : sL (.own (.ol xs)) = some xs := (rfl)
@[simp] theorem sL_io {xs : List PD} : sL (.io (.ol xs)) = some xs := (rfl)
@[simp] theorem pS_own {xs : List PD} {o : Obj} : pS xs (.own o) = .own (.ol xs) := (rfl)
@[simp] theorem pS_io {xs : List PD} {o : Obj} : pS xs (.io o) = .io (.ol xs) := (rfl)
theorem slotL_eq : ∀ (as : AS) (i : Nat), slotL as i = vL as i
  | [], _ => rfl
  | s :: _, 0 => by
    cases s with
    | own o => cases o <;> rfl
    | io o => cases o <;> rfl
    | _ => rfl
  | _ :: l, i + 1 => by rw [vL_succ, ← slotL_eq l i]; rfl
theorem setL_eq : ∀ (as : AS) (i : Nat) (xs : List PD), setL as i xs = pL as i xs
  | [], _, _ => rfl
  | s :: _, 0, _ => by cases s <;> rfl
  | s :: l, i + 1, xs => by
    rw [pL_succ, ← setL_eq l i xs]
    unfold setL
    rw [List.getElem?_cons_succ]
    cases l[i]? with
    | none => rfl
    | some t => cases t <;> rfl
def kM3 (i : Nat) (as : AS) (q : Option (PD × List PD)) : Option (PD × AS) := match q with
  | none => none
  | some (d, xs) => some (d, pL as i xs)
@[simp] theorem kM3_some {i : Nat} {as : AS} {d : PD} {xs : List PD} : kM3 i as (some (d, xs)) = some (d, pL as i xs) := (rfl)
def ap2 (f : List PD → List PD → Option (PD × List PD)) (o : Option (List PD)) (ds : List PD) : Option (PD × List PD) := match o with
  | none => none
  | some xs => f xs ds
@[simp] theorem ap2_some {f : List PD → List PD → Option (PD × List PD)} {xs ds : List PD} : ap2 f (some xs) ds = f xs ds := (rfl)
def kM2 (i : Nat) (f : List PD → List PD → Option (PD × List PD)) (q : Option (List PD × AS)) : Option (PD × AS) := match q with
  | none => none
  | some (ds, as) => kM3 i as (ap2 f (vL as i) ds)
@[simp] theorem kM2_some {i : Nat} {f : List PD → List PD → Option (PD × List PD)} {as : AS} {ds : List PD} : kM2 i f (some (ds, as)) = kM3 i as (ap2 f (vL as i) ds) := (rfl)
def kM1 (i : Nat) (f : List PD → List PD → Option (PD × List PD)) (o : Option (List PD)) (q : Option (List PD × AS)) : Option (PD × AS) := match o with
  | none => none
  | some _ => kM2 i f q
@[simp] theorem kM1_some {i : Nat} {f : List PD → List PD → Option (PD × List PD)} {xs : List PD} {q : Option (List PD × AS)} : kM1 i f (some xs) q = kM2 i f q := (rfl)
@[simp] theorem mMth_ap {as : AS} {i : Nat} {f : List PD → List PD → Option (PD × List PD)} {ms : M (List PD)} : mMth i f ms as = kM1 i f (vL as i) (ms as) := by
  unfold mMth
  rw [slotL_eq]
  cases vL as i with
  | none => rfl
  | some _ =>
    cases ms as with
    | none => rfl
    | some q =>
      obtain ⟨ds, as1⟩ := q
      simp only [slotL_eq, kM1_some, kM2_some]
      cases vL as1 i with
      | none => rfl
      | some xs =>
        simp only [ap2_some]
        cases f xs ds with
        | none => rfl
        | some r => simp only [setL_eq]; rfl
def kI3 (as : AS) (i : Nat) (xs : List PD) (d : PD) (o : Option Nat) : Option AS := match o with
  | none => none
  | some j => some (pL as i (xs.set j d))
@[simp] theorem kI3_some {as : AS} {i : Nat} {xs : List PD} {d : PD} {j : Nat} : kI3 as i xs d (some j) = some (pL as i (xs.set j d)) := (rfl)
def kI2 (as : AS) (i : Nat) (d : PD) (k : Int) (o : Option (List PD)) : Option AS := match o with
  | none => none
  | some xs => kI3 as i xs d (ixN xs.length k)
@[simp] theorem kI2_some {as : AS} {i : Nat} {d : PD} {k : Int} {xs : List PD} : kI2 as i d k (some xs) = kI3 as i xs d (ixN xs.length k) := (rfl)
def kI1 (i : Nat) (d : PD) (q : Option (PD × AS)) : Option AS := match q with
  | some (.int k, as) => kI2 as i d k (vL as i)
  | _ => none
@[simp] theorem kI1_some {as : AS} {i : Nat} {d : PD} {k : Int} : kI1 i d (some (.int k, as)) = kI2 as i d k (vL as i) := (rfl)
def kI0 (i : Nat) (d : PD) (o : Option (List PD)) (q : Option (PD × AS)) : Option AS := match o with
  | none => none
  | some _ => kI1 i d q
@[simp] theorem kI0_some {i : Nat} {d : PD} {xs : List PD} {q : Option (PD × AS)} : kI0 i d (some xs) q = kI1 i d q := (rfl)
@[simp] theorem gSet_ap {as : AS} {i : Nat} {m : M PD} {d : PD} : gSet i m d as = kI0 i d (vL as i) (m as) := by
  unfold gSet
  rw [slotL_eq]
  cases vL as i with
  | none => rfl
  | some _ =>
    cases m as with
    | none => rfl
    | some q =>
      obtain ⟨z, as1⟩ := q
      cases z with
      | int k =>
        simp only [slotL_eq, kI0_some, kI1_some]
        cases vL as1 i with
        | none => rfl
        | some xs =>
          simp only [kI2_some]
          cases ixN xs.length k with
          | none => rfl
          | some j => simp only [setL_eq]; rfl
      | _ => rfl
def sO : Slot → Option Obj
  | .own o => some o
  | .io o => some o
  | _ => none
def vO : AS → Nat → Option Obj
  | [], _ => none
  | s :: _, 0 => sO s
  | _ :: l, i + 1 => vO l i
def qS (o : Obj) : Slot → Slot
  | .io _ => .io o
  | _ => .own o
def qO : AS → Nat → Obj → AS
  | [], _, _ => []
  | s :: l, 0, o => qS o s :: l
  | s :: l, i + 1, o => s :: qO l i o
@[simp] theorem vO_zero {s : Slot} {l : AS} : vO (s :: l) 0 = sO s := (rfl)
@[simp] theorem vO_succ {s : Slot} {l : AS} {i : Nat} : vO (s :: l) (i + 1) = vO l i := (rfl)
@[simp] theorem qO_zero {s : Slot} {l : AS} {o : Obj} : qO (s :: l) 0 o = qS o s :: l := (rfl)
@[simp] theorem qO_succ {s : Slot} {l : AS} {i : Nat} {o : Obj} : qO (s :: l) (i + 1) o = s :: qO l i o := (rfl)
@[simp] theorem sO_own {o : Obj} : sO (.own o) = some o := (rfl)
@[simp] theorem sO_io {o : Obj} : sO (.io o) = some o := (rfl)
@[simp] theorem qS_own {o o' : Obj} : qS o (.own o') = .own o := (rfl)
@[simp] theorem qS_io {o o' : Obj} : qS o (.io o') = .io o := (rfl)
theorem slotO_eq : ∀ (as : AS) (i : Nat), slotO as i = vO as i
  | [], _ => rfl
  | s :: _, 0 => by cases s <;> rfl
  | _ :: l, i + 1 => by rw [vO_succ, ← slotO_eq l i]; rfl
theorem setO_eq : ∀ (as : AS) (i : Nat) (o : Obj), setO as i o = qO as i o
  | [], _, _ => rfl
  | s :: _, 0, _ => by cases s <;> rfl
  | s :: l, i + 1, o => by
    rw [qO_succ, ← setO_eq l i o]
    unfold setO
    rw [List.getElem?_cons_succ]
    cases l[i]? with
    | none => rfl
    | some t => cases t <;> rfl
def kQ3 (i : Nat) (as : AS) (q : Option (PD × Obj)) : Option (PD × AS) := match q with
  | none => none
  | some (d, o) => some (d, qO as i o)
@[simp] theorem kQ3_some {i : Nat} {as : AS} {d : PD} {o : Obj} : kQ3 i as (some (d, o)) = some (d, qO as i o) := (rfl)
def apO (F : Obj → List PD → Option (PD × Obj)) (o : Option Obj) (ds : List PD) : Option (PD × Obj) := match o with
  | none => none
  | some o => F o ds
@[simp] theorem apO_some {F : Obj → List PD → Option (PD × Obj)} {o : Obj} {ds : List PD} : apO F (some o) ds = F o ds := (rfl)
def kQ2 (i : Nat) (F : Obj → List PD → Option (PD × Obj)) (q : Option (List PD × AS)) : Option (PD × AS) := match q with
  | none => none
  | some (ds, as) => kQ3 i as (apO F (vO as i) ds)
@[simp] theorem kQ2_some {i : Nat} {F : Obj → List PD → Option (PD × Obj)} {as : AS} {ds : List PD} : kQ2 i F (some (ds, as)) = kQ3 i as (apO F (vO as i) ds) := (rfl)
def kQ1 (i : Nat) (F : Obj → List PD → Option (PD × Obj)) (o : Option Obj) (q : Option (List PD × AS)) : Option (PD × AS) := match o with
  | none => none
  | some _ => kQ2 i F q
@[simp] theorem kQ1_some {i : Nat} {F : Obj → List PD → Option (PD × Obj)} {o : Obj} {q : Option (List PD × AS)} : kQ1 i F (some o) q = kQ2 i F q := (rfl)
@[simp] theorem mCallI_ap {as : AS} {i : Nat} {F : Obj → List PD → Option (PD × Obj)} {ms : M (List PD)} : mCallI i F ms as = kQ1 i F (vO as i) (ms as) := by
  unfold mCallI
  rw [slotO_eq]
  cases vO as i with
  | none => rfl
  | some _ =>
    cases ms as with
    | none => rfl
    | some q =>
      obtain ⟨ds, as1⟩ := q
      simp only [slotO_eq, kQ1_some, kQ2_some]
      cases vO as1 i with
      | none => rfl
      | some xs =>
        simp only [apO_some]
        cases F xs ds with
        | none => rfl
        | some r => simp only [setO_eq]; rfl
/-- the own thing of a slot, taken out -/
def vT : AS → Nat → Option (Res × AS)
  | .own o :: l, 0 => some (.obj o, .un :: l)
  | s :: l, i + 1 => match vT l i with
    | none => none
    | some (r, l') => some (r, s :: l')
  | _, _ => none
def kTk (s : Slot) (q : Option (α × AS)) : Option (α × AS) := match q with
  | none => none
  | some (r, l) => some (r, s :: l)
@[simp] theorem kTk_some {α : Type} {s : Slot} {r : α} {l : AS} : kTk s (some (r, l)) = some (r, s :: l) := (rfl)
@[simp] theorem vT_zero {o : Obj} {l : AS} : vT (.own o :: l) 0 = some (.obj o, .un :: l) := (rfl)
@[simp] theorem vT_succ {s : Slot} {l : AS} {i : Nat} : vT (s :: l) (i + 1) = kTk s (vT l i) := by
  have : vT (s :: l) (i + 1) = match vT l i with | none => none | some (r, l') => some (r, s :: l') := by cases s <;> rfl
  rw [this]
  cases vT l i <;> rfl
theorem vT_eq : ∀ (as : AS) (i : Nat), vT as i = match as[i]? with
    | some (.own o) => some (.obj o, as.set i .un)
    | _ => none
  | [], _ => rfl
  | s :: l, 0 => by cases s <;> rfl
  | s :: l, i + 1 => by
    rw [vT_succ, vT_eq l i, List.getElem?_cons_succ]
    cases l[i]? with
    | none => rfl
    | some t => cases t <;> rfl
@[simp] theorem mMv_ap {as : AS} {i : Nat} : mMv i as = vT as i := by rw [vT_eq]; rfl
/-- .. kept as a lasting value -/
def vZ : AS → Nat → Option (PD × AS)
  | .dur d :: l, 0 => some (d, .dur d :: l)
  | .own (.ol xs) :: l, 0 => some (.list xs, .dur (.list xs) :: l)
  | s :: l, i + 1 => match vZ l i with
    | none => none
    | some (r, l') => some (r, s :: l')
  | _, _ => none
@[simp] theorem vZ_dur {d : PD} {l : AS} : vZ (.dur d :: l) 0 = some (d, .dur d :: l) := (rfl)
@[simp] theorem vZ_own {xs : List PD} {l : AS} : vZ (.own (.ol xs) :: l) 0 = some (.list xs, .dur (.list xs) :: l) := (rfl)
@[simp] theorem vZ_succ {s : Slot} {l : AS} {i : Nat} : vZ (s :: l) (i + 1) = kTk s (vZ l i) := by
  have : vZ (s :: l) (i + 1) = match vZ l i with | none => none | some (r, l') => some (r, s :: l') := by
    cases s with
    | own o => cases o <;> rfl
    | _ => rfl
  rw [this]
  cases vZ l i <;> rfl
theorem vZ_eq : ∀ (as : AS) (i : Nat), vZ as i = match as[i]? with
    | some (.dur d) => some (d, as)
    | some (.own (.ol xs)) => some (.list xs, as.set i (.dur (.list xs)))
    | _ => none
  | [], _ => rfl
  | s :: l, 0 => by
    cases s with
    | own o => cases o <;> rfl
    | _ => rfl
  | s :: l, i + 1 => by
    rw [vZ_succ, vZ_eq l i, List.getElem?_cons_succ]
    cases l[i]? with
    | none => rfl
    | some t =>
      cases t with
      | own o => cases o <;> rfl
      | _ => rfl
@[simp] theorem mZ_ap {as : AS} {i : Nat} : mZ i as = vZ as i := by rw [vZ_eq]; rfl
/-! ### values -/
@[simp] theorem fAdd_int {i j : Int} : fAdd (.int i) (.int j) = some (.val (.int (i + j))) := (rfl)
theorem fAdd_list {a b : List PD} (h : a.length + b.length ≤ 16777216) : fAdd (.list a) (.list b) = some (.obj (.ol (a ++ b))) := by
  have e : ∀ {α : Type} (x y : α), (if a.length + b.length ≤ sizeLine then x else y) = x := fun x y => if_pos (by rw [sizeLine_eq]; exact h)
  exact e _ _
theorem fAdd_tuple {a b : List PD} (h : a.length + b.length ≤ 16777216) : fAdd (.tuple a) (.tuple b) = some (.val (.tuple (a ++ b))) := by
  have e : ∀ {α : Type} (x y : α), (if a.length + b.length ≤ sizeLine then x else y) = x := fun x y => if_pos (by rw [sizeLine_eq]; exact h)
  exact e _ _
@[simp] theorem fInt_int {g : Int → Int → Option PD} {i j : Int} : fInt g (.int i) (.int j) = g i j := (rfl)
@[simp] theorem iSub_ap {i j : Int} : iSub i j = some (.int (i - j)) := (rfl)
theorem iMod_ap {i j : Int} (h : 0 < j) : iMod i j = some (.int (i % j)) := by unfold iMod; rw [if_pos h]
theorem iDiv_ap {i j : Int} (h : 0 < j) (h2 : j < 18446744073709551616) : iDiv i j = some (.int (i / j)) := by unfold iDiv; rw [if_pos ⟨h, by omega⟩]
theorem fMul_int {i j : Int} (h : mulOk i j = true) : fMulA (.int i) (.int j) = some (.val (.int (i * j))) := by
  show (iMul i j).map _ = _
  unfold iMul
  rw [if_pos h]; rfl
theorem mulOk_l {i j : Int} (h : i.natAbs < 18446744073709551616) : mulOk i j = true := by
  unfold mulOk
  rw [decide_eq_true h]; rfl
theorem mulOk_r {i j : Int} (h : j.natAbs < 18446744073709551616) : mulOk i j = true := by
  unfold mulOk
  rw [decide_eq_true h]; simp
@[simp] theorem cLt_ap {i j : Int} : cLt i j = some (.bool (decide (i < j))) := (rfl)
@[simp] theorem cLe_ap {i j : Int} : cLe i j = some (.bool (decide (i ≤ j))) := (rfl)
@[simp] theorem cGt_ap {i j : Int} : cGt i j = some (.bool (decide (j < i))) := (rfl)
@[simp] theorem cGe_ap {i j : Int} : cGe i j = some (.bool (decide (j ≤ i))) := (rfl)
@[simp] theorem asB_bool {b : Bool} : asB (.bool b) = some b := (rfl)
@[simp] theorem fEq_int {i j : Int} : fEq (.int i) (.int j) = some (.bool (decide (i = j))) := by
  show (if SeqAt.shaped (.int i) = true ∧ SeqAt.shaped (.int j) = true then some (PyData.bool (i == j)) else none) = _
  rw [if_pos ⟨rfl, rfl⟩]; simp [Bool.beq_eq_decide_eq]
@[simp] theorem fNe_int {i j : Int} : fNe (.int i) (.int j) = some (.bool (!decide (i = j))) := by
  show (if SeqAt.shaped (.int i) = true ∧ SeqAt.shaped (.int j) = true then some (PyData.bool (!(i == j))) else none) = _
  rw [if_pos ⟨rfl, rfl⟩]; simp [Bool.beq_eq_decide_eq]
@[simp] theorem fIs_non {d : PD} : fIs d .none = some (.bool (isN d)) := (rfl)
@[simp] theorem fIsNot_non {d : PD} : fIsNot d .none = some (.bool (!isN d)) := (rfl)
@[simp] theorem fLen_list {ds : List PD} : fLen [.list ds] = some (.int (ds.length : Int)) := (rfl)
@[simp] theorem fLen_tuple {ds : List PD} : fLen [.tuple ds] = some (.int (ds.length : Int)) := (rfl)
@[simp] theorem fInt1_int {i : Int} : fInt1 [.int i] = some (.int i) := (rfl)
@[simp] theorem fInt1_bool {b : Bool} : fInt1 [.bool b] = some (.int (if b then 1 else 0)) := (rfl)
@[simp] theorem fAbs_int {i : Int} : fAbs [.int i] = some (.int (if i < 0 then -i else i)) := (rfl)
@[simp] theorem fTuple_list {ds : List PD} : fTuple [.list ds] = some (.val (.tuple ds)) := (rfl)
@[simp] theorem fTuple_tuple {ds : List PD} : fTuple [.tuple ds] = some (.val (.tuple ds)) := (rfl)
@[simp] theorem fList_list {ds : List PD} : fList [.list ds] = some (.obj (.ol ds)) := (rfl)
@[simp] theorem fList_tuple {ds : List PD} : fList [.tuple ds] = some (.obj (.ol ds)) := (rfl)
@[simp] theorem fSeq_list {ds : List PD} : fSeq (.list ds) = some ds := (rfl)
@[simp] theorem fSeq_tuple {ds : List PD} : fSeq (.tuple ds) = some ds := (rfl)
@[simp] theorem fMax2_int {i j : Int} : fMax2 [.int i, .int j] = some (.int (max i j)) := by
  show some (PyData.int (if j > i then j else i)) = _
  congr 2
  split <;> omega
@[simp] theorem fMin2_int {i j : Int} : fMin2 [.int i, .int j] = some (.int (min i j)) := by
  show some (PyData.int (if j < i then j else i)) = _
  congr 2
  split <;> omega
theorem fAll_of {ds : List PD} {bs : List Bool} (h : ds = bs.map .bool) : fAll [.list ds] = some (.bool (bs.all id)) := by
  subst h
  show (asBools _).map _ = _
  rw [asBools_of]; rfl
theorem fAny_of {ds : List PD} {bs : List Bool} (h : ds = bs.map .bool) : fAny [.list ds] = some (.bool (bs.any id)) := by
  subst h
  show (asBools _).map _ = _
  rw [asBools_of]; rfl
theorem fSum_of {ds : List PD} {ns : List Int} (h : ds = ns.map .int) : fSum [.list ds] = some (.int ns.sum) := by
  subst h
  show (asInts _).map _ = _
  rw [asInts_of]; rfl
theorem fMaxI_of {ds : List PD} {ns : List Int} (h : ds = ns.map .int) (h0 : ns ≠ []) : fMaxI [.list ds] = some (.int (maxL ns)) := by
  subst h
  show (asInts _).bind _ = _
  rw [asInts_of]
  show (if ns = [] then none else _) = _
  rw [if_neg h0]
theorem fMinI_of {ds : List PD} {ns : List Int} (h : ds = ns.map .int) (h0 : ns ≠ []) : fMinI [.list ds] = some (.int (minL ns)) := by
  subst h
  show (asInts _).bind _ = _
  rw [asInts_of]
  show (if ns = [] then none else _) = _
  rw [if_neg h0]
theorem fSortI_of {ds : List PD} {ns : List Int} (h : ds = ns.map .int) : fSortI [.list ds] = some (.obj (.ol ((isort ns).map .int))) := by
  subst h
  show (asInts _).map _ = _
  rw [asInts_of]; rfl
theorem fSSet_list {ns : List Int} (h : ns.length + 1 < 4096) (h2 : (usort ns).length < 64) : fSSet (.list (ns.map .int)) = some (.obj (.ol ((usort ns).map .int))) := by
  show (asInts _).bind _ = _
  rw [asInts_of]
  exact if_pos ⟨h, h2⟩
theorem fSSet_tuple {ns : List Int} (h : ns.length + 1 < 4096) (h2 : (usort ns).length < 64) : fSSet (.tuple (ns.map .int)) = some (.obj (.ol ((usort ns).map .int))) := by
  show (asInts _).bind _ = _
  rw [asInts_of]
  exact if_pos ⟨h, h2⟩
theorem fLSet_list {ns : List Int} (h : ns.length + 1 < 4096) : fLSet (.list (ns.map .int)) = some (.int ((usort ns).length : Int)) := by
  show (asInts _).bind _ = _
  rw [asInts_of]
  exact if_pos h
theorem fLSet_tuple {ns : List Int} (h : ns.length + 1 < 4096) : fLSet (.tuple (ns.map .int)) = some (.int ((usort ns).length : Int)) := by
  show (asInts _).bind _ = _
  rw [asInts_of]
  exact if_pos h
theorem fR1_of {n : Nat} (h : n ≤ 4611686018427387903) : fR1 [.int (n : Int)] = some (rng 0 n) := by
  have e : fR1 [.int (n : Int)] = if -(2 ^ 62) ≤ (n : Int) ∧ (n : Int) < 2 ^ 62 then some (rng 0 (n : Int).toNat) else none := rfl
  rw [e, if_pos (by omega), Int.toNat_natCast]
theorem rng_zero (n : Nat) : rng 0 n = (List.range n).map fun (i : Nat) => PyData.int (i : Int) := by
  unfold rng
  congr
  funext i
  congr 1
  omega
theorem rng_nat (a n : Nat) : rng (a : Int) n = (List.range' a n).map fun (i : Nat) => PyData.int (i : Int) := by
  unfold rng
  rw [List.range'_eq_map_range, List.map_map]
  refine List.map_congr_left fun i _ => ?_
  show PyData.int ((a : Int) + (i : Int)) = PyData.int ((a + i : Nat) : Int)
  rw [Int.natCast_add]
theorem fR2_of {a b : Nat} (h : a ≤ 4611686018427387903) (h2 : b ≤ 4611686018427387903) : fR2 [.int (a : Int), .int (b : Int)] = some ((List.range' a (b - a)).map fun (i : Nat) => PyData.int (i : Int)) := by
  rw [← rng_nat, show b - a = ((b : Int) - (a : Int)).toNat by omega]
  unfold fR2
  exact if_pos (by omega)
theorem ixN_nat {n i : Nat} (h : i < n) : ixN n (i : Int) = some i := by
  unfold ixN
  rw [if_pos (by omega), if_pos (by omega), Int.toNat_natCast]
theorem atI_nat' {α : Type} {xs : List α} {i : Nat} (h : i < xs.length) : atI xs (i : Int) = some xs[i] := by
  unfold atI
  rw [ixN_nat h]
  exact List.getElem?_eq_getElem h
theorem fIx_list {ds : List PD} {i : Nat} (h : i < ds.length) : fIx (.list ds) (.int (i : Int)) = some (.val ds[i]) := by
  show (atI ds _).map _ = _
  rw [atI_nat' h]; rfl
theorem fIx_tuple {ds : List PD} {i : Nat} (h : i < ds.length) : fIx (.tuple ds) (.int (i : Int)) = some (.val ds[i]) := by
  show (atI ds _).map _ = _
  rw [atI_nat' h]; rfl

/-! ### a def's run -/
theorem runP_rt {n k : Nat} {m : MS} {ds : List PD} {r : Res} {as' : AS} (hl : ds.length = k) (h : m (startA n ds) = some (.rt r, as')) : runP n k m ds = some r := by
  unfold runP
  rw [if_pos hl, h]
theorem runI_rt {n k j : Nat} {m : MS} {o o' : Obj} {ds : List PD} {d : PD} {as' : AS} (hl : ds.length + 1 = k) (hj : j ≤ ds.length) (h : m (startI n j o ds) = some (.rt (.val d), as')) (ho : as'[j]? = some (.io o')) : runI n k j m o ds = some (d, o') := by
  unfold runI
  rw [if_pos ⟨hl, hj⟩, h]
  simp only [ho]
/-! ### comprehensions whose body changes nothing -/
theorem lcL_eq {ι : Type} {vs : List Nat} {g : PD → AS → Option AS} {c : M Bool} {el : M PD} {as : AS} (enc : ι → PD) (asx : ι → AS) (b : ι → Bool) (f : ι → PD) : ∀ (items : List ι)
    (_ : ∀ x ∈ items, g (enc x) as = some (asx x)) (_ : ∀ x ∈ items, c (asx x) = some (b x, asx x)) (_ : ∀ x ∈ items, b x = true → el (asx x) = some (f x, asx x)) (_ : ∀ x ∈ items, clr vs (asx x) = as),
    lcL vs g c el (items.map enc) as = some ((items.filter b).map f, as)
  | [], _, _, _, _ => rfl
  | x :: items, hg, hc, he, hk => by
    have ih := lcL_eq (vs := vs) (g := g) (c := c) (el := el) (as := as) enc asx b f items (fun y hy => hg y (List.mem_cons_of_mem _ hy)) (fun y hy => hc y (List.mem_cons_of_mem _ hy)) (fun y hy => he y (List.mem_cons_of_mem _ hy)) (fun y hy => hk y (List.mem_cons_of_mem _ hy))
    have g1 := hg x List.mem_cons_self
    have c1 := hc x List.mem_cons_self
    have k1 := hk x List.mem_cons_self
    rw [List.map_cons]
    unfold lcL
    simp only [g1, c1]
    cases hb : b x with
    | false =>
      simp only [k1, ih]
      rw [List.filter_cons_of_neg (by simp [hb])]
    | true =>
      simp only [he x List.mem_cons_self hb, k1, ih]
      rw [List.filter_cons_of_pos hb, List.map_cons]
theorem mLc_eq {ι : Type} {vs : List Nat} {mi : M (List PD)} {g : PD → AS → Option AS} {c : M Bool} {el : M PD} {as : AS} (items : List ι) (enc : ι → PD) (asx : ι → AS) (b : ι → Bool) (f : ι → PD)
    (hmi : mi as = some (items.map enc, as)) (hg : ∀ x ∈ items, g (enc x) (clr vs as) = some (asx x)) (hc : ∀ x ∈ items, c (asx x) = some (b x, asx x)) (he : ∀ x ∈ items, b x = true → el (asx x) = some (f x, asx x))
    (hf : free vs as = true) (hl : items.length ≤ 16777216) (hk : ∀ x ∈ items, clr vs (asx x) = clr vs as) : mLc vs mi g c el as = some (.obj (.ol ((items.filter b).map f)), as) := by
  unfold mLc
  simp only [hmi, lcL_eq enc asx b f items hg hc he hk]
  have hz : ((items.filter b).map f).length ≤ sizeLine := by
    rw [List.length_map, sizeLine_eq]
    exact Nat.le_trans (List.length_filter_le _ _) hl
  rw [if_pos ⟨hf, hz⟩, back_clr]
/-- .. without a test -/
theorem mLc_map {ι : Type} {vs : List Nat} {mi : M (List PD)} {g : PD → AS → Option AS} {el : M PD} {as : AS} (items : List ι) (enc : ι → PD) (asx : ι → AS) (f : ι → PD)
    (hmi : mi as = some (items.map enc, as)) (hg : ∀ x ∈ items, g (enc x) (clr vs as) = some (asx x)) (he : ∀ x ∈ items, el (asx x) = some (f x, asx x))
    (hf : free vs as = true) (hl : items.length ≤ 16777216) (hk : ∀ x ∈ items, clr vs (asx x) = clr vs as) : mLc vs mi g (mPure true) el as = some (.obj (.ol (items.map f)), as) := by
  have := mLc_eq (vs := vs) (mi := mi) (g := g) (c := mPure true) (el := el) (as := as) items enc asx (fun _ => true) f hmi hg (fun _ _ => rfl) (fun x hx _ => he x hx) hf hl hk
  rw [this, List.filter_eq_self.mpr (fun _ _ => rfl)]

/-! ### loops -/
/-- a loop whose turns all go on: the state by a fold -/
theorem forL_fold {ι σ : Type} {g : PD → AS → Option AS} {b : MS} (enc : ι → PD) (mk : σ → AS) (step : σ → ι → σ) (Inv : σ → Prop) : ∀ (items : List ι) (s : σ), Inv s →
    (∀ s x, x ∈ items → Inv s → Inv (step s x) ∧ ∃ as1, g (enc x) (mk s) = some as1 ∧ b as1 = some (.nx, mk (step s x))) → forL g b (items.map enc) (mk s) = some (.nx, mk (items.foldl step s)) ∧ Inv (items.foldl step s)
  | [], s, h, _ => ⟨rfl, h⟩
  | x :: items, s, h, k => by
    obtain ⟨i1, as1, h1, h2⟩ := k s x List.mem_cons_self h
    obtain ⟨q1, q2⟩ := forL_fold enc mk step Inv items (step s x) i1 fun s y hy => k s y (List.mem_cons_of_mem _ hy)
    refine ⟨?_, q2⟩
    rw [List.map_cons]
    unfold forL
    simp only [h1, h2]
    exact q1
/-- a loop whose turns all go on, by an invariant over the items gone -/
theorem forL_inv {g : PD → AS → Option AS} {b : MS} (Inv : List PD → AS → Prop) : ∀ (items pre : List PD) (as : AS), Inv pre as →
    (∀ pre x as, Inv pre as → x ∈ items → ∃ as1 as2, g x as = some as1 ∧ b as1 = some (.nx, as2) ∧ Inv (pre ++ [x]) as2) → ∃ as', forL g b items as = some (.nx, as') ∧ Inv (pre ++ items) as'
  | [], pre, as, h, _ => ⟨as, rfl, by rw [List.append_nil]; exact h⟩
  | x :: items, pre, as, h, k => by
    obtain ⟨as1, as2, h1, h2, h3⟩ := k pre x as h List.mem_cons_self
    obtain ⟨as', q1, q2⟩ := forL_inv Inv items (pre ++ [x]) as2 h3 fun pre y as hi hy => k pre y as hi (List.mem_cons_of_mem _ hy)
    refine ⟨as', ?_, by rw [List.append_assoc] at q2; exact q2⟩
    unfold forL
    simp only [h1, h2]
    exact q1
/-- .. by the turn's number -/
theorem forL_ix {g : PD → AS → Option AS} {b : MS} (Inv : Nat → AS → Prop) (items : List PD) (step : ∀ i x as, items[i]? = some x → Inv i as → ∃ as1 as2, g x as = some as1 ∧ b as1 = some (.nx, as2) ∧ Inv (i + 1) as2) {as : AS} (h : Inv 0 as) :
    ∃ as', forL g b items as = some (.nx, as') ∧ Inv items.length as' := by
  have key : ∀ (l : List PD) (i : Nat) (as : AS), items.drop i = l → Inv i as → ∃ as', forL g b l as = some (.nx, as') ∧ Inv (i + l.length) as' := fun l => by
    induction l with
    | nil => intro i as _ h; exact ⟨as, rfl, h⟩
    | cons x l ih =>
      intro i as hd h
      have hx : items[i]? = some x := by
        have := congrArg (fun z => z[0]?) hd
        simpa using this
      obtain ⟨as1, as2, h1, h2, h3⟩ := step i x as hx h
      have hd2 : items.drop (i + 1) = l := by rw [← List.drop_drop, hd]; rfl
      obtain ⟨as', q1, q2⟩ := ih (i + 1) as2 hd2 h3
      refine ⟨as', ?_, by rw [List.length_cons, ← Nat.add_assoc, Nat.add_right_comm]; exact q2⟩
      unfold forL
      simp only [h1, h2]
      exact q1
  obtain ⟨as', q1, q2⟩ := key items 0 as rfl h
  exact ⟨as', q1, by rw [Nat.zero_add] at q2; exact q2⟩
/-- a loop that may return -/
theorem forL_find {ι : Type} {g : PD → AS → Option AS} {b : MS} (enc : ι → PD) (as : AS) (hit : ι → Option Res) (asx : ι → AS) : ∀ (items : List ι) (as0 : AS), (as0 = as ∨ ∃ y, as0 = asx y) →
    (∀ x as0, x ∈ items → (as0 = as ∨ ∃ y, as0 = asx y) → ∃ as1, g (enc x) as0 = some as1 ∧ b as1 = match hit x with | none => some (.nx, asx x) | some r => some (.rt r, asx x)) →
    ∃ as', forL g b (items.map enc) as0 = (match items.findSome? hit with | none => some (.nx, as') | some r => some (.rt r, as')) ∧ (as' = as ∨ ∃ y, as' = asx y)
  | [], as0, h, _ => ⟨as0, rfl, h⟩
  | x :: items, as0, h, k => by
    obtain ⟨as1, h1, h2⟩ := k x as0 List.mem_cons_self h
    rw [List.map_cons, List.findSome?_cons]
    unfold forL
    simp only [h1, h2]
    cases e : hit x with
    | none =>
      simp only
      obtain ⟨as', q⟩ := forL_find enc as hit asx items (asx x) (.inr ⟨x, rfl⟩) fun y as0 hy => k y as0 (List.mem_cons_of_mem _ hy)
      exact ⟨as', q⟩
    | some r => exact ⟨asx x, rfl, .inr ⟨x, rfl⟩⟩
end Vl

-- T2
set_option Elab.async false
set_option linter.all false
set_option maxRecDepth 100000
set_option maxHeartbeats 4000000
/-! what stands in each law: the draws, the next draw, the comparison -/
namespace Vl
open PySem L2

theorem fIx_ints {ns : List Int} {i : Nat} (h : i < ns.length) : fIx (.list (ns.map .int)) (.int (i : Int)) = some (.val (.int ns[i])) := by
  rw [fIx_list (by simpa using h)]; simp
theorem fAppend_ap {xs : List PD} {d : PD} (h : xs.length < 16777216) : fAppend xs [d] = some (.none, xs ++ [d]) := by
  unfold fAppend
  exact if_pos (by rw [sizeLine_eq]; exact h)

/-- one turn of the draws' loop -/
def drawBody : MS := (sThen (sSet 6 (mF (m2 (fInt iMod) (mI 5) (mS fLen (mCons (mI 2) (mPure []))))))
  (sIf (mAnd (m2b (fInt cGe) (mV (m2 fIx (mI 2) (mI 6))) (m2 (fInt iPow) (mPure (.int 10)) (mPure (.int 18)))) (m2b (fInt cGt) (mV (m2 fIx (mI 3) (mI 6))) (mPure (.int 0)))) (sThen (sDrop (mMth 4 fAppend (mCons (m2 (fInt iMod) (mS fInt1 (mCons (mV (m2 fIx (mI 3) (mI 6))) (mPure []))) (mPure (.int 1000))) (mPure []))))
  (sAsg (gSet 3 (mI 6)) (m2 (fInt iDiv) (mV (m2 fIx (mI 3) (mI 6))) (mPure (.int 1000))))) (sThen (sSet 7 (mF (m2 (fInt iMod) (mS fInt1 (mCons (mV (m2 fAdd (mV (m2 fAdd (mV (m2 fMulA (mV (m2 fIx (mI 2) (mI 6))) (mPure (.int 48271)))) (mV (m2 fMulA (mI 5) (mPure (.int 69621)))))) (mPure (.int 11)))) (mPure []))) (mPure (.int 2147483647)))))
  (sDrop (mMth 4 fAppend (mCons (m2 (fInt iMod) (mS fInt1 (mCons (mV (m2 fAdd (mV (m2 fAdd (mV (m2 fMulA (mI 7) (mI 7))) (mV (m2 fMulA (mPure (.int 3)) (mI 7))))) (mI 5))) (mPure []))) (mPure (.int 1000003))) (mPure [])))))))
def drawSt (S m : PD) (cells rest drawn : List Int) (a b c : Slot) (e : Slot) : AS := [.dur S, .dur m, .own (.ol (cells.map .int)), .own (.ol (rest.map .int)), .own (.ol (drawn.map .int)), a, b, c, e]
theorem iPow_18 : iPow 10 18 = some (.int 1000000000000000000) := by
  unfold iPow
  rw [if_pos (by decide)]
  rfl
theorem drawTurn {S m : PD} {cells rest drawn : List Int} {b c e : Slot} {k : Nat} (h0 : 0 < cells.length) (hr : rest.length = cells.length) (hb : isF b = true) (hc : isF c = true) (hk : k < 100000) (hd : drawn.length < 100000) :
    ∃ rest' d b' c', drawBody (drawSt S m cells rest drawn (.dur (.int (k : Int))) b c e) = some (.nx, drawSt S m cells rest' (drawn ++ [d]) (.dur (.int (k : Int))) b' c' e) ∧ rest'.length = cells.length ∧ 0 ≤ d ∧ isF b' = true ∧ isF c' = true := by
  obtain ⟨j, e1, hi⟩ : ∃ j : Nat, ((k : Int) % (cells.length : Int)) = (j : Int) ∧ j < cells.length := ⟨k % cells.length, by simp, Nat.mod_lt _ h0⟩
  have hi2 : j < rest.length := by omega
  have hlen : (drawn.map PyData.int).length < 16777216 := by rw [List.length_map]; omega
  unfold drawBody drawSt
  by_cases hbig : 1000000000000000000 ≤ cells[j] ∧ 0 < rest[j]
  · refine ⟨rest.set (j) (rest[j] / 1000), rest[j] % 1000, .dur (.int (j : Int)), c, ?_, by rw [List.length_set, hr], by omega, rfl, hc⟩
    simp [hb, iMod_ap (show (0 : Int) < cells.length by omega), e1, fIx_ints hi, fIx_ints hi2, iPow_18, hbig.1, hbig.2, iMod_ap (show (0 : Int) < 1000 by decide), fAppend_ap hlen, iDiv_ap (show (0 : Int) < 1000 by decide) (by decide), ixN_nat hi2, List.map_set]
  · refine ⟨rest, ((cells[j] * 48271 + k * 69621 + 11) % 2147483647 * ((cells[j] * 48271 + k * 69621 + 11) % 2147483647) + 3 * ((cells[j] * 48271 + k * 69621 + 11) % 2147483647) + k) % 1000003, .dur (.int (j : Int)), .dur (.int ((cells[j] * 48271 + k * 69621 + 11) % 2147483647)), ?_, hr, by omega, rfl, rfl⟩
    have m1 : ∀ x : Int, fMulA (.int x) (.int 48271) = some (.val (.int (x * 48271))) := fun x => fMul_int (mulOk_r (by decide))
    have m2' : ∀ x : Int, fMulA (.int x) (.int 69621) = some (.val (.int (x * 69621))) := fun x => fMul_int (mulOk_r (by decide))
    have m3 : ∀ x : Int, fMulA (.int 3) (.int x) = some (.val (.int (3 * x))) := fun x => fMul_int (mulOk_l (by decide))
    have m4 : ∀ x : Int, fMulA (.int (x % 2147483647)) (.int (x % 2147483647)) = some (.val (.int (x % 2147483647 * (x % 2147483647)))) := fun x => fMul_int (mulOk_l (by omega))
    rcases (by omega : cells[j] < 1000000000000000000 ∨ 1000000000000000000 ≤ cells[j]) with hs | hs
    · simp [hb, hc, iMod_ap (show (0 : Int) < cells.length by omega), e1, fIx_ints hi, fIx_ints hi2, iPow_18, Int.not_le.mpr hs, iMod_ap (show (0 : Int) < 2147483647 by decide), iMod_ap (show (0 : Int) < 1000003 by decide), fAppend_ap hlen, m1, m2', m3, m4]
    · have hs2 : ¬ 0 < rest[j] := fun q => hbig ⟨hs, q⟩
      simp [hb, hc, iMod_ap (show (0 : Int) < cells.length by omega), e1, fIx_ints hi, fIx_ints hi2, iPow_18, hs, hs2, iMod_ap (show (0 : Int) < 2147483647 by decide), iMod_ap (show (0 : Int) < 1000003 by decide), fAppend_ap hlen, m1, m2', m3, m4]

/-- the draws: as many nonnegative ints as asked for -/
def drawTail : MS := (sThen (sSet 3 (mN fList (mCons (mI 2) (mPure []))))
  (sThen (sSet 4 (mN fLst (mPure [])))
  (sThen (sFor (mR fR1 (mCons (mI 1) (mPure []))) (gN 5) drawBody)
  (sThen (sDrop (mMth 4 fRev (mPure [])))
  (sRet (mMv 4))))))
def drawHeadA : M Res := mLc [8] (m1 fSeq (mI 0)) (gN 8) (mPure true) (mS fInt1 (mCons (mI 8) (mPure [])))
def gDrawsA : MS := sThen (sSet 2 drawHeadA) (sThen (sIf (m2b fEq (mS fLen (mCons (mI 2) (mPure []))) (mPure (.int 0))) (sDrop (mMth 2 fAppend (mCons (mPure (.int 0)) (mPure [])))) sNx) drawTail)
theorem fLst_ap {xs : List PD} (h : xs.length ≤ 1000) : fLst xs = some (.obj (.ol xs)) := if_pos h
theorem fTup_ap {xs : List PD} (h : xs.length ≤ 1000) : fTup xs = some (.val (.tuple xs)) := if_pos h
theorem fRev_ap {xs : List PD} : fRev xs [] = some (.none, xs.reverse) := rfl
def drawInv (S : PD) (cells : List Int) (m i : Nat) (as : AS) : Prop := ∃ rest drawn a b c, as = drawSt S (.int (m : Int)) cells rest drawn a b c .un ∧ rest.length = cells.length ∧ drawn.length = i ∧ (∀ d ∈ drawn, 0 ≤ d) ∧ isF a = true ∧ isF b = true ∧ isF c = true
theorem rng_at {m i : Nat} {x : PD} (hx : (rng 0 m)[i]? = some x) : i < m ∧ x = .int (i : Int) := by
  rw [rng_zero, List.getElem?_map] at hx
  have hi : i < m := by
    cases e : (List.range m)[i]? with
    | none => rw [e] at hx; cases hx
    | some j => simpa using (List.getElem?_eq_some_iff.mp e).1
  rw [List.getElem?_range hi] at hx
  cases hx
  exact ⟨hi, rfl⟩
theorem rng_len {a : Int} {m : Nat} : (rng a m).length = m := by simp [rng]
theorem drawStep {S : PD} {cells : List Int} {m : Nat} (hm : m ≤ 100000) (h0 : 0 < cells.length) (i : Nat) (x : PD) (as : AS) (hx : (rng 0 m)[i]? = some x) (h : drawInv S cells m i as) :
    ∃ as1 as2, gN 5 x as = some as1 ∧ drawBody as1 = some (.nx, as2) ∧ drawInv S cells m (i + 1) as2 := by
  obtain ⟨rest, drawn, a, b, c, rfl, h1, h2, h3, ha, hb, hc⟩ := h
  obtain ⟨hi, rfl⟩ := rng_at hx
  obtain ⟨rest', d, b', c', q1, q2, q3, q4, q5⟩ := drawTurn (S := S) (m := .int (m : Int)) (drawn := drawn) (e := .un) h0 h1 hb hc (show i < 100000 by omega) (by omega)
  refine ⟨_, _, by simp [drawSt, ha], q1, rest', drawn ++ [d], _, b', c', rfl, q2, by simp [h2], ?_, isF_dur, q4, q5⟩
  intro z hz
  rcases List.mem_append.mp hz with hz | hz
  · exact h3 z hz
  · cases List.mem_singleton.mp hz; exact q3
theorem drawLoop {S : PD} {cells : List Int} {m : Nat} (hm : m ≤ 100000) (h0 : 0 < cells.length) : ∃ as', forL (gN 5) drawBody (rng 0 m) (drawSt S (.int (m : Int)) cells cells [] .un .un .un .un) = some (.nx, as') ∧ drawInv S cells m m as' := by
  have h := forL_ix (drawInv S cells m) (rng 0 m) (drawStep hm h0) (as := drawSt S (.int (m : Int)) cells cells [] .un .un .un .un) ⟨cells, [], .un, .un, .un, rfl, rfl, rfl, fun d hd => absurd hd List.not_mem_nil, isF_un, isF_un, isF_un⟩
  rw [rng_len] at h
  exact h
theorem drawTail_ok {S : PD} {cells : List Int} {m : Nat} (hm : m ≤ 100000) (h0 : 0 < cells.length) : ∃ (ds : List Int) (as' : AS), drawTail [.dur S, .dur (.int (m : Int)), .own (.ol (cells.map .int)), .un, .un, .un, .un, .un, .un] = some (.rt (.obj (.ol (ds.map .int))), as') ∧ ds.length = m ∧ ∀ d ∈ ds, 0 ≤ d := by
  obtain ⟨as', h1, rest, drawn, a, b, c, rfl, hl, hn, hd, _⟩ := drawLoop (S := S) hm h0
  refine ⟨drawn.reverse, [.dur S, .dur (.int (m : Int)), .own (.ol (cells.map .int)), .own (.ol (rest.map .int)), .un, a, b, c, .un], ?_, by rw [List.length_reverse, hn], fun d hz => hd d (List.mem_reverse.mp hz)⟩
  unfold drawSt at h1
  simp only [List.map_nil] at h1
  have h2 : fR1 [.int (m : Int)] = some (rng 0 m) := fR1_of (by omega)
  have h3 : fLst [] = some (.obj (.ol [])) := fLst_ap (Nat.zero_le _)
  unfold drawTail
  simp [h3, h2, h1, fRev_ap]
theorem drawHeadA_ok {ns : List Int} {m : PD} (hn : ns.length ≤ 63) : drawHeadA [.dur (.list (ns.map .int)), .dur m, .un, .un, .un, .un, .un, .un, .un] = some (.obj (.ol (ns.map .int)), [.dur (.list (ns.map .int)), .dur m, .un, .un, .un, .un, .un, .un, .un]) := by
  unfold drawHeadA
  exact mLc_map ns .int (fun x => [.dur (.list (ns.map .int)), .dur m, .un, .un, .un, .un, .un, .un, .dur (.int x)]) .int (by simp) (by simp [clr]) (by simp) rfl (by omega) (by simp [clr])
theorem draws_A {ns : List Int} {m : Nat} (hn : ns.length ≤ 63) (hm : m ≤ 100000) : ∃ ds : List Int, runP 9 2 gDrawsA [.list (ns.map .int), .int (m : Int)] = some (.obj (.ol (ds.map .int))) ∧ ds.length = m ∧ ∀ d ∈ ds, 0 ≤ d := by
  have e : startA 9 [PyData.list (ns.map .int), .int (m : Int)] = [.dur (.list (ns.map .int)), .dur (.int (m : Int)), .un, .un, .un, .un, .un, .un, .un] := rfl
  by_cases h : ns = []
  · subst h
    obtain ⟨ds, as', q, h1, h2⟩ := drawTail_ok (S := .list ([].map .int)) (cells := [0]) hm (by decide)
    refine ⟨ds, runP_rt (as' := as') rfl ?_, h1, h2⟩
    rw [e]
    unfold gDrawsA
    have ea : fAppend [] [.int 0] = some (.none, [.int 0]) := fAppend_ap (by decide)
    have eh := drawHeadA_ok (ns := []) (m := .int (m : Int)) (Nat.zero_le _)
    simp only [List.map_nil, List.map_cons] at q eh
    simp [eh, ea, q]
  · have h0 : 0 < ns.length := List.length_pos_iff.mpr h
    obtain ⟨ds, as', q, h1, h2⟩ := drawTail_ok (S := .list (ns.map .int)) (cells := ns) hm h0
    refine ⟨ds, runP_rt (as' := as') rfl ?_, h1, h2⟩
    rw [e]
    unfold gDrawsA
    simp [drawHeadA_ok (ns := ns) (m := .int (m : Int)) hn, q, h]
/-- the next draw -/
def gTake : MS := (sThen (sIf (m2b fEq (mS fLen (mCons (mI 0) (mPure []))) (mPure (.int 0))) (sRet (mF (mPure (.int 0)))) sNx)
  (sRet (mF (m2 (fInt iMod) (mS fInt1 (mCons (mMth 0 fPop (mPure [])) (mPure []))) (mI 1)))))
theorem take_ok (ds : List Int) {n : Int} (hn : 0 < n) : ∃ (t : Int) (ds' : List Int), runI 2 2 0 gTake (.ol (ds.map .int)) [.int n] = some (.int t, .ol (ds'.map .int)) ∧ 0 ≤ t ∧ t < n := by
  by_cases h : ds = []
  · subst h
    refine ⟨0, [], ?_, by omega, hn⟩
    refine runI_rt (o' := .ol []) (as' := [.io (.ol []), .dur (.int n)]) rfl (Nat.zero_le _) ?_ rfl
    rw [show startI 2 0 (.ol (([] : List Int).map .int)) [PyData.int n] = [.io (.ol []), .dur (.int n)] from rfl]
    simp [gTake]
  · have h0 : 0 < ds.length := List.length_pos_iff.mpr h
    refine ⟨ds[ds.length - 1] % n, ds.dropLast, ?_, Int.emod_nonneg _ (by omega), Int.emod_lt_of_pos _ hn⟩
    refine runI_rt (o' := .ol (ds.dropLast.map .int)) (as' := [.io (.ol (ds.dropLast.map .int)), .dur (.int n)]) rfl (Nat.zero_le _) ?_ rfl
    rw [show startI 2 0 (.ol (ds.map .int)) [PyData.int n] = [.io (.ol (ds.map .int)), .dur (.int n)] from rfl]
    have ep : fPop (ds.map PyData.int) [] = some (.int ds[ds.length - 1], (ds.dropLast).map .int) := by
      show ((ds.map PyData.int)[(ds.map PyData.int).length - 1]?).map (fun d => (d, (ds.map PyData.int).dropLast)) = _
      rw [List.length_map, List.getElem?_map, List.getElem?_eq_getElem (by omega)]
      simp [List.map_dropLast]
    simp [gTake, h, ep, iMod_ap hn]
/-- what is compared in laws: no list, not deep -/
def gd : Nat → PD → Bool
  | 0, _ => false
  | _ + 1, .none => true
  | _ + 1, .bool _ => true
  | _ + 1, .int _ => true
  | _ + 1, .str x => PyData.strOk x
  | n + 1, .tuple ds => decide (ds.length ≤ 1000000) && ds.all (gd n)
  | _ + 1, _ => false
def sameRest (R : List PD → Option Res) : MS := (sThen (sIf (mOr (mNot (m1 asB (mIsi "tuple" (mI 0)))) (m2b fNe (mS fLen (mCons (mI 0) (mPure []))) (mS fLen (mCons (mI 1) (mPure []))))) (sRet (mF (mPure (.bool false)))) sNx)
  (sThen (sFor (mR fR1 (mCons (mS fLen (mCons (mI 1) (mPure []))) (mPure []))) (gN 2) (sIf (mNot (m1 asB (mV (mN R (mCons (mV (m2 fIx (mI 0) (mI 2))) (mCons (mV (m2 fIx (mI 1) (mI 2))) (mPure []))))))) (sRet (mF (mPure (.bool false)))) sNx))
  (sRet (mF (mPure (.bool true))))))
def bSameN (R : List PD → Option Res) : MS := (sThen (sIf (m2b fIs (mI 1) (mPure .none)) (sRet (mF (m2 fIs (mI 0) (mPure .none)))) sNx)
  (sThen (sIf (m1 asB (mIsi "bool" (mI 1))) (sRet (mF (mAndV (mIsi "bool" (mI 0)) (m2 fEq (mI 0) (mI 1))))) sNx)
  (sThen (sIf (m1 asB (mIsi "int" (mI 1))) (sRet (mF (mAndV (mIsi "int" (mI 0)) (mAndV (mBind (m1 asB (mIsi "bool" (mI 0))) fun c => mPure (.bool !c)) (m2 fEq (mI 0) (mI 1)))))) sNx)
  (sThen (sIf (m1 asB (mIsi "str" (mI 1))) (sRet (mF (mAndV (mIsi "str" (mI 0)) (m2 fEq (mI 0) (mI 1))))) sNx)
  (sameRest R)))))
def bSameB (R : List PD → Option Res) : MS := (sThen (sIf (m1 asB (mIsi "bool" (mI 1))) (sRet (mF (mAndV (mIsi "bool" (mI 0)) (m2 fEq (mI 0) (mI 1))))) sNx)
  (sThen (sIf (m1 asB (mIsi "int" (mI 1))) (sRet (mF (mAndV (mIsi "int" (mI 0)) (mAndV (mBind (m1 asB (mIsi "bool" (mI 0))) fun c => mPure (.bool !c)) (m2 fEq (mI 0) (mI 1)))))) sNx)
  (sThen (sIf (m1 asB (mIsi "str" (mI 1))) (sRet (mF (mAndV (mIsi "str" (mI 0)) (m2 fEq (mI 0) (mI 1))))) sNx)
  (sThen (sIf (m2b fIs (mI 1) (mPure .none)) (sRet (mF (m2 fIs (mI 0) (mPure .none)))) sNx)
  (sameRest R)))))
def sameN : Nat → List PD → Option Res
  | 0 => fun _ => none
  | k + 1 => runP 3 2 (bSameN (sameN k))
def sameB : Nat → List PD → Option Res
  | 0 => fun _ => none
  | k + 1 => runP 3 2 (bSameB (sameB k))
theorem isN_none : isN .none = true := (rfl)
theorem isN_bool {b : Bool} : isN (.bool b) = false := (rfl)
theorem isN_int {b : Int} : isN (.int b) = false := (rfl)
theorem isN_str {b : Str} : isN (.str b) = false := (rfl)
theorem isN_tuple {b : List PD} : isN (.tuple b) = false := (rfl)
theorem isT_bb {b : Bool} : isT "bool" (.bool b) = true := (rfl)
theorem isT_bi {b : Int} : isT "bool" (.int b) = false := (rfl)
theorem isT_bs {b : Str} : isT "bool" (.str b) = false := (rfl)
theorem isT_bt {b : List PD} : isT "bool" (.tuple b) = false := (rfl)
theorem isT_bn : isT "bool" .none = false := (rfl)
theorem isT_ii {b : Int} : isT "int" (.int b) = true := (rfl)
theorem isT_is {b : Str} : isT "int" (.str b) = false := (rfl)
theorem isT_it {b : List PD} : isT "int" (.tuple b) = false := (rfl)
theorem isT_in : isT "int" .none = false := (rfl)
theorem isT_ss {b : Str} : isT "str" (.str b) = true := (rfl)
theorem isT_st {b : List PD} : isT "str" (.tuple b) = false := (rfl)
theorem isT_sn : isT "str" .none = false := (rfl)
theorem isT_tt {b : List PD} : isT "tuple" (.tuple b) = true := (rfl)
theorem fEq_self {d : PD} (h : SeqAt.shaped d = true) : fEq d d = some (.bool true) := by
  unfold fEq
  rw [if_pos ⟨h, h⟩, SeqAt.eqv_refl d (SeqAt.canLay_of_shaped h)]
theorem shaped_str {x : Str} (h : PyData.strOk x = true) : SeqAt.shaped (.str x) = true := by
  unfold SeqAt.shaped
  simp [PyData.canLay0, PyData.depth, h]
theorem shaped_bool {x : Bool} : SeqAt.shaped (.bool x) = true := (rfl)
theorem sameRest_ok {R : List PD → Option Res} {ds : List PD} (hl : ds.length ≤ 1000000) (h : ∀ d ∈ ds, R [d, d] = some (.val (.bool true))) : ∃ as', sameRest R [.dur (.tuple ds), .dur (.tuple ds), .un] = some (.rt (.val (.bool true)), as') := by
  have step : ∀ (i : Nat) (x : PD) (as : AS), (rng 0 ds.length)[i]? = some x → (∃ z, as = [.dur (.tuple ds), .dur (.tuple ds), z] ∧ isF z = true) →
      ∃ as1 as2, gN 2 x as = some as1 ∧ (sIf (mNot (m1 asB (mV (mN R (mCons (mV (m2 fIx (mI 0) (mI 2))) (mCons (mV (m2 fIx (mI 1) (mI 2))) (mPure []))))))) (sRet (mF (mPure (.bool false)))) sNx) as1 = some (.nx, as2) ∧ ∃ z, as2 = [.dur (.tuple ds), .dur (.tuple ds), z] ∧ isF z = true := by
    rintro i x as hx ⟨z, rfl, hz⟩
    obtain ⟨hi, rfl⟩ := rng_at hx
    exact ⟨[.dur (.tuple ds), .dur (.tuple ds), .dur (.int (i : Int))], [.dur (.tuple ds), .dur (.tuple ds), .dur (.int (i : Int))], by simp [hz], by simp [fIx_tuple hi, h _ (List.getElem_mem hi)], _, rfl, isF_dur⟩
  obtain ⟨as', h1, z, rfl, hz⟩ := forL_ix _ _ step (as := [.dur (.tuple ds), .dur (.tuple ds), .un]) ⟨.un, rfl, isF_un⟩
  refine ⟨[.dur (.tuple ds), .dur (.tuple ds), z], ?_⟩
  have h2 : fR1 [.int (ds.length : Int)] = some (rng 0 ds.length) := fR1_of (by omega)
  unfold sameRest
  simp [isT_tt, h2, h1]
theorem start2 {a b : PD} : startA 3 [a, b] = [.dur a, .dur b, .un] := rfl
theorem sameN_ok : ∀ (k : Nat) (d : PD), gd k d = true → sameN k [d, d] = some (.val (.bool true))
  | 0, _, h => by cases h
  | k + 1, d, h => by
    cases d with
    | none => exact runP_rt (as' := [.dur .none, .dur .none, .un]) rfl (by rw [start2]; simp [bSameN, isN_none])
    | bool b => exact runP_rt (as' := [.dur (.bool b), .dur (.bool b), .un]) rfl (by rw [start2]; simp [bSameN, isN_bool, isT_bb, fEq_self shaped_bool])
    | int b => exact runP_rt (as' := [.dur (.int b), .dur (.int b), .un]) rfl (by rw [start2]; simp [bSameN, isN_int, isT_bi, isT_ii])
    | str b => exact runP_rt (as' := [.dur (.str b), .dur (.str b), .un]) rfl (by rw [start2]; simp [bSameN, isN_str, isT_bs, isT_is, isT_ss, fEq_self (shaped_str h)])
    | list _ => cases h
    | dict _ => cases h
    | tuple ds =>
      have h2 : decide (ds.length ≤ 1000000) = true ∧ ds.all (gd k) = true := by simpa [gd] using h
      obtain ⟨as', q⟩ := sameRest_ok (R := sameN k) (of_decide_eq_true h2.1) fun d hd => sameN_ok k d (List.all_eq_true.mp h2.2 d hd)
      exact runP_rt (as' := as') rfl (by rw [start2]; simp [bSameN, isN_tuple, isT_bt, isT_it, isT_st, q])
theorem sameB_ok : ∀ (k : Nat) (d : PD), gd k d = true → sameB k [d, d] = some (.val (.bool true))
  | 0, _, h => by cases h
  | k + 1, d, h => by
    cases d with
    | none => exact runP_rt (as' := [.dur .none, .dur .none, .un]) rfl (by rw [start2]; simp [bSameB, isN_none, isT_bn, isT_in, isT_sn])
    | bool b => exact runP_rt (as' := [.dur (.bool b), .dur (.bool b), .un]) rfl (by rw [start2]; simp [bSameB, isN_bool, isT_bb, fEq_self shaped_bool])
    | int b => exact runP_rt (as' := [.dur (.int b), .dur (.int b), .un]) rfl (by rw [start2]; simp [bSameB, isN_int, isT_bi, isT_ii])
    | str b => exact runP_rt (as' := [.dur (.str b), .dur (.str b), .un]) rfl (by rw [start2]; simp [bSameB, isN_str, isT_bs, isT_is, isT_ss, fEq_self (shaped_str h)])
    | list _ => cases h
    | dict _ => cases h
    | tuple ds =>
      have h2 : decide (ds.length ≤ 1000000) = true ∧ ds.all (gd k) = true := by simpa [gd] using h
      obtain ⟨as', q⟩ := sameRest_ok (R := sameB k) (of_decide_eq_true h2.1) fun d hd => sameB_ok k d (List.all_eq_true.mp h2.2 d hd)
      exact runP_rt (as' := as') rfl (by rw [start2]; simp [bSameB, isN_tuple, isT_bt, isT_it, isT_st, q])
/-! ### data that is compared: an encoding keeps equality -/
def sh (n : Nat) (d : PD) : Bool := d.canLay0 && decide (d.depth ≤ n)
theorem sh_mono {n m : Nat} {d : PD} (h : sh n d = true) (hm : n ≤ m) : sh m d = true := by
  unfold sh at *
  simp only [Bool.and_eq_true, decide_eq_true_eq] at *
  exact ⟨h.1, Nat.le_trans h.2 hm⟩
def EqE {α : Type} [DecidableEq α] (n : Nat) (f : α → PD) : Prop := ∀ x, sh n (f x) = true ∧ ∀ y, PyData.eqv (f x) (f y) = decide (x = y)
theorem eqe_int : EqE 0 PyData.int := fun x => ⟨rfl, fun y => by simp [PyData.eqv, Bool.beq_eq_decide_eq]⟩
theorem eqvAll_map {α : Type} [DecidableEq α] {n : Nat} {f : α → PD} (h : EqE n f) : ∀ xs ys : List α, PyData.eqvAll (xs.map f) (ys.map f) = decide (xs = ys)
  | [], [] => by simp [PyData.eqvAll]
  | [], _ :: _ => by simp [PyData.eqvAll]
  | _ :: _, [] => by simp [PyData.eqvAll]
  | x :: xs, y :: ys => by
    rw [List.map_cons, List.map_cons, PyData.eqvAll, (h x).2 y, eqvAll_map h xs ys]
    by_cases e : x = y <;> by_cases e2 : xs = ys <;> simp [e, e2]
theorem shAll_map {α : Type} [DecidableEq α] {n : Nat} {f : α → PD} (h : EqE n f) : ∀ xs : List α, PyData.canLayAll0 (xs.map f) = true ∧ PyData.depthAll (xs.map f) ≤ n
  | [] => ⟨by simp [PyData.canLayAll0], by simp [PyData.depthAll]⟩
  | x :: xs => by
    obtain ⟨h1, h2⟩ := shAll_map h xs
    have h3 := (h x).1
    unfold sh at h3
    simp only [Bool.and_eq_true, decide_eq_true_eq] at h3
    rw [List.map_cons]
    refine ⟨by rw [PyData.canLayAll0, h3.1, h1]; rfl, ?_⟩
    rw [PyData.depthAll]
    have := h3.2
    omega
theorem eqe_tup {α : Type} [DecidableEq α] {n : Nat} {f : α → PD} (h : EqE n f) : EqE (n + 1) (fun xs : List α => PyData.tuple (xs.map f)) := fun xs => by
  obtain ⟨h1, h2⟩ := shAll_map h xs
  refine ⟨?_, fun ys => ?_⟩
  · unfold sh
    rw [PyData.canLay0, PyData.depth, h1, decide_eq_true (by omega)]; rfl
  · rw [PyData.eqv]; exact eqvAll_map h xs ys
theorem eqe_list {α : Type} [DecidableEq α] {n : Nat} {f : α → PD} (h : EqE n f) : EqE (n + 1) (fun xs : List α => PyData.list (xs.map f)) := fun xs => by
  obtain ⟨h1, h2⟩ := shAll_map h xs
  refine ⟨?_, fun ys => ?_⟩
  · unfold sh
    rw [PyData.canLay0, PyData.depth, h1, decide_eq_true (by omega)]; rfl
  · rw [PyData.eqv]; exact eqvAll_map h xs ys
theorem shaped_of {α : Type} [DecidableEq α] {n : Nat} {f : α → PD} (h : EqE n f) (hn : n ≤ 64) (x : α) : SeqAt.shaped (f x) = true := sh_mono (h x).1 hn
theorem fEq_of {α : Type} [DecidableEq α] {n : Nat} {f : α → PD} (h : EqE n f) (hn : n ≤ 64) (x y : α) : fEq (f x) (f y) = some (.bool (decide (x = y))) := by
  unfold fEq
  rw [if_pos ⟨shaped_of h hn x, shaped_of h hn y⟩, (h x).2 y]
theorem fNe_of {α : Type} [DecidableEq α] {n : Nat} {f : α → PD} (h : EqE n f) (hn : n ≤ 64) (x y : α) : fNe (f x) (f y) = some (.bool (!decide (x = y))) := by
  unfold fNe
  rw [if_pos ⟨shaped_of h hn x, shaped_of h hn y⟩, (h x).2 y]
theorem gd_tup {α : Type} {n : Nat} {f : α → PD} {xs : List α} (hl : xs.length ≤ 1000000) (h : ∀ x ∈ xs, gd n (f x) = true) : gd (n + 1) (.tuple (xs.map f)) = true := by
  rw [gd, List.length_map, decide_eq_true hl, Bool.true_and, List.all_eq_true]
  intro d hd
  obtain ⟨x, hx, rfl⟩ := List.mem_map.mp hd
  exact h x hx
theorem gd_int {n : Nat} {i : Int} : gd (n + 1) (.int i) = true := rfl
theorem gd_bool {n : Nat} {i : Bool} : gd (n + 1) (.bool i) = true := rfl
theorem gd_none {n : Nat} : gd (n + 1) .none = true := rfl
theorem gd_ints {n : Nat} {xs : List Int} (hl : xs.length ≤ 1000000) : gd (n + 2) (.tuple (xs.map .int)) = true := gd_tup hl fun _ _ => gd_int
end Vl

-- T3
set_option Elab.async false
set_option linter.all false
set_option maxRecDepth 100000
set_option maxHeartbeats 4000000
/-! tools: dicts, slices, comprehensions over one name -/
namespace Vl
open PySem L2
@[simp] theorem kOf_int {i : Int} : kOf (.int i) = some (.inl i) := (rfl)
@[simp] theorem kOf_str {x : Str} : kOf (.str x) = some (.inr x) := (rfl)
def sDc : Slot → Option (List (Key × PD))
  | .own (.od kvs) => some kvs
  | .io (.od kvs) => some kvs
  | .own (.fk kvs) => some kvs
  | _ => none
def vDc : AS → Nat → Option (List (Key × PD))
  | [], _ => none
  | s :: _, 0 => sDc s
  | _ :: l, i + 1 => vDc l i
@[simp] theorem vDc_zero {s : Slot} {l : AS} : vDc (s :: l) 0 = sDc s := (rfl)
@[simp] theorem vDc_succ {s : Slot} {l : AS} {i : Nat} : vDc (s :: l) (i + 1) = vDc l i := (rfl)
@[simp] theorem sDc_own {k : List (Key × PD)} : sDc (.own (.od k)) = some k := (rfl)
@[simp] theorem sDc_io {k : List (Key × PD)} : sDc (.io (.od k)) = some k := (rfl)
@[simp] theorem sDc_fk {k : List (Key × PD)} : sDc (.own (.fk k)) = some k := (rfl)
theorem slotD_eq : ∀ (as : AS) (i : Nat), slotD as i = vDc as i
  | [], _ => rfl
  | s :: _, 0 => by
    cases s with
    | own o => cases o <;> rfl
    | io o => cases o <;> rfl
    | _ => rfl
  | _ :: l, i + 1 => by rw [vDc_succ, ← slotD_eq l i]; rfl
def kG6 (x : PD) (as : AS) (kvs : List (Key × PD)) (o : Option Key) : Option (PD × AS) := match o with
  | none => none
  | some k => some ((valP kvs k).getD x, as)
@[simp] theorem kG6_some {x : PD} {as : AS} {kvs : List (Key × PD)} {k : Key} : kG6 x as kvs (some k) = some ((valP kvs k).getD x, as) := (rfl)
def kG5 (kd x : PD) (as : AS) (o : Option (List (Key × PD))) : Option (PD × AS) := match o with
  | none => none
  | some kvs => kG6 x as kvs (kOf kd)
@[simp] theorem kG5_some {kd x : PD} {as : AS} {kvs : List (Key × PD)} : kG5 kd x as (some kvs) = kG6 x as kvs (kOf kd) := (rfl)
def kG4 (i : Nat) (kd : PD) (q : Option (PD × AS)) : Option (PD × AS) := match q with
  | none => none
  | some (x, as2) => kG5 kd x as2 (vDc as2 i)
@[simp] theorem kG4_some {i : Nat} {kd x : PD} {as : AS} : kG4 i kd (some (x, as)) = kG5 kd x as (vDc as i) := (rfl)
def kG3 (i : Nat) (q : Option (PD × AS)) (mx : M PD) : Option (PD × AS) := match q with
  | none => none
  | some (kd, as1) => kG4 i kd (mx as1)
@[simp] theorem kG3_some {i : Nat} {kd : PD} {as : AS} {mx : M PD} : kG3 i (some (kd, as)) mx = kG4 i kd (mx as) := (rfl)
def kG2 (i : Nat) (o : Option (List (Key × PD))) (q : Option (PD × AS)) (mx : M PD) : Option (PD × AS) := match o with
  | none => none
  | some _ => kG3 i q mx
@[simp] theorem kG2_some {i : Nat} {k : List (Key × PD)} {q : Option (PD × AS)} {mx : M PD} : kG2 i (some k) q mx = kG3 i q mx := (rfl)
@[simp] theorem mGet2_ap {as : AS} {i : Nat} {mk mx : M PD} : mGet2 i mk mx as = kG2 i (vDc as i) (mk as) mx := by
  unfold mGet2
  rw [slotD_eq]
  cases vDc as i with
  | none => rfl
  | some _ =>
    cases mk as with
    | none => rfl
    | some q =>
      obtain ⟨kd, as1⟩ := q
      simp only [kG2_some, kG3_some]
      cases mx as1 with
      | none => rfl
      | some r =>
        obtain ⟨x, as2⟩ := r
        simp only [slotD_eq, kG4_some]
        cases vDc as2 i with
        | none => rfl
        | some kvs =>
          simp only [kG5_some]
          cases kOf kd <;> rfl
@[simp] theorem mGet1_ap {as : AS} {i : Nat} {mk : M PD} : mGet1 i mk as = kG2 i (vDc as i) (mk as) (mPure .none) := mGet2_ap
def kX4 (as : AS) (o : Option PD) : Option (PD × AS) := match o with
  | none => none
  | some d => some (d, as)
@[simp] theorem kX4_some {as : AS} {d : PD} : kX4 as (some d) = some (d, as) := (rfl)
def kX3 (as : AS) (kvs : List (Key × PD)) (o : Option Key) : Option (PD × AS) := match o with
  | none => none
  | some k => kX4 as (valP kvs k)
@[simp] theorem kX3_some {as : AS} {kvs : List (Key × PD)} {k : Key} : kX3 as kvs (some k) = kX4 as (valP kvs k) := (rfl)
def kX2 (kd : PD) (as : AS) (o : Option (List (Key × PD))) : Option (PD × AS) := match o with
  | none => none
  | some kvs => kX3 as kvs (kOf kd)
@[simp] theorem kX2_some {kd : PD} {as : AS} {kvs : List (Key × PD)} : kX2 kd as (some kvs) = kX3 as kvs (kOf kd) := (rfl)
def kX1 (i : Nat) (q : Option (PD × AS)) : Option (PD × AS) := match q with
  | none => none
  | some (kd, as) => kX2 kd as (vDc as i)
@[simp] theorem kX1_some {i : Nat} {kd : PD} {as : AS} : kX1 i (some (kd, as)) = kX2 kd as (vDc as i) := (rfl)
def kX0 (i : Nat) (o : Option (List (Key × PD))) (q : Option (PD × AS)) : Option (PD × AS) := match o with
  | none => none
  | some _ => kX1 i q
@[simp] theorem kX0_some {i : Nat} {k : List (Key × PD)} {q : Option (PD × AS)} : kX0 i (some k) q = kX1 i q := (rfl)
@[simp] theorem mIx_ap {as : AS} {i : Nat} {mk : M PD} : mIx i mk as = kX0 i (vDc as i) (mk as) := by
  unfold mIx
  rw [slotD_eq]
  cases vDc as i with
  | none => rfl
  | some _ =>
    cases mk as with
    | none => rfl
    | some q =>
      obtain ⟨kd, as1⟩ := q
      simp only [slotD_eq, kX0_some, kX1_some]
      cases vDc as1 i with
      | none => rfl
      | some kvs =>
        simp only [kX2_some]
        cases kOf kd with
        | none => rfl
        | some k =>
          simp only [kX3_some]
          cases valP kvs k <;> rfl
def kE3 (i : Nat) (d : PD) (as : AS) (kvs : List (Key × PD)) (o : Option Key) : Option AS := match o with
  | none => none
  | some k => if kvs.length < sizeLine then some (qO as i (.od (putP kvs k d))) else none
theorem kE3_some {i : Nat} {d : PD} {as : AS} {kvs : List (Key × PD)} {k : Key} (h : kvs.length < 16777216) : kE3 i d as kvs (some k) = some (qO as i (.od (putP kvs k d))) := if_pos (by rw [sizeLine_eq]; exact h)
def kE2 (i : Nat) (d kd : PD) (as : AS) (o : Option Obj) : Option AS := match o with
  | some (.od kvs) => kE3 i d as kvs (kOf kd)
  | _ => none
@[simp] theorem kE2_some {i : Nat} {d kd : PD} {as : AS} {kvs : List (Key × PD)} : kE2 i d kd as (some (.od kvs)) = kE3 i d as kvs (kOf kd) := (rfl)
def kE1 (i : Nat) (d : PD) (q : Option (PD × AS)) : Option AS := match q with
  | none => none
  | some (kd, as) => kE2 i d kd as (vO as i)
@[simp] theorem kE1_some {i : Nat} {d kd : PD} {as : AS} : kE1 i d (some (kd, as)) = kE2 i d kd as (vO as i) := (rfl)
def kE0 (i : Nat) (d : PD) (o : Option Obj) (q : Option (PD × AS)) : Option AS := match o with
  | none => none
  | some _ => kE1 i d q
@[simp] theorem kE0_some {i : Nat} {d : PD} {o : Obj} {q : Option (PD × AS)} : kE0 i d (some o) q = kE1 i d q := (rfl)
@[simp] theorem gDSet_ap {as : AS} {i : Nat} {m : M PD} {d : PD} : gDSet i m d as = kE0 i d (vO as i) (m as) := by
  unfold gDSet
  rw [slotO_eq]
  cases vO as i with
  | none => rfl
  | some _ =>
    cases m as with
    | none => rfl
    | some q =>
      obtain ⟨kd, as1⟩ := q
      simp only [slotO_eq, kE0_some, kE1_some]
      cases vO as1 i with
      | none => rfl
      | some o =>
        cases o with
        | od kvs =>
          simp only [kE2_some]
          cases kOf kd with
          | none => rfl
          | some k => simp only [setO_eq]; rfl
        | _ => rfl
@[simp] theorem nat_inj {a b : Nat} : ((a : Int) = (b : Int)) ↔ a = b := by omega
@[simp] theorem nat_lt {a b : Nat} : ((a : Int) < (b : Int)) ↔ a < b := by omega
@[simp] theorem nat_le {a b : Nat} : ((a : Int) ≤ (b : Int)) ↔ a ≤ b := by omega
/-! ### slices -/
theorem cutD_take {ds : List PD} {i : Nat} (h : i ≤ ds.length) : cutD ds none (some (i : Int)) = ds.take i := by
  unfold cutD
  rw [HT.sIx_none, HT.sIx_nat, List.drop_zero, Nat.min_eq_left h, Nat.sub_zero]
theorem cutD_drop {ds : List PD} {i : Nat} (h : i ≤ ds.length) : cutD ds (some (i : Int)) none = ds.drop i := by
  unfold cutD
  rw [HT.sIx_none, HT.sIx_nat, Nat.min_eq_left h]
  exact List.take_of_length_le (by rw [List.length_drop]; exact Nat.le_refl _)
theorem fSl_take {ds : List PD} {i : Nat} (h : i ≤ ds.length) : fSl (.tuple ds) none (some (i : Int)) = some (.val (.tuple (ds.take i))) := by rw [← cutD_take h]; rfl
theorem fSl_drop {ds : List PD} {i : Nat} (h : i ≤ ds.length) : fSl (.tuple ds) (some (i : Int)) none = some (.val (.tuple (ds.drop i))) := by rw [← cutD_drop h]; rfl
theorem fSl_takeL {ds : List PD} {i : Nat} (h : i ≤ ds.length) : fSl (.list ds) none (some (i : Int)) = some (.obj (.ol (ds.take i))) := by rw [← cutD_take h]; rfl
theorem fSl_dropL {ds : List PD} {i : Nat} (h : i ≤ ds.length) : fSl (.list ds) (some (i : Int)) none = some (.obj (.ol (ds.drop i))) := by rw [← cutD_drop h]; rfl
/-! ### comprehensions over one name -/
theorem mLc1_eq {ι : Type} {j : Nat} {mi : M (List PD)} {c : M Bool} {el : M PD} {as : AS} (items : List ι) (enc : ι → PD) (b : ι → Bool) (f : ι → PD)
    (hmi : mi as = some (items.map enc, as)) (hj : (match as[j]? with | some .un => true | some (.dur _) => true | _ => false) = true)
    (hc : ∀ x ∈ items, c (as.set j (.dur (enc x))) = some (b x, as.set j (.dur (enc x)))) (he : ∀ x ∈ items, b x = true → el (as.set j (.dur (enc x))) = some (f x, as.set j (.dur (enc x))))
    (hl : items.length ≤ 16777216) : mLc [j] mi (gN j) c el as = some (.obj (.ol ((items.filter b).map f)), as) := by
  have hjl : j < as.length := by
    cases e : as[j]? with
    | none => rw [e] at hj; cases hj
    | some s => exact (List.getElem?_eq_some_iff.mp e).1
  have hs : ∀ d : PD, gN j d (clr [j] as) = some (as.set j (.dur d)) := fun d => by
    show gN j d (as.set j .un) = _
    unfold gN
    rw [List.getElem?_set_self hjl]
    show some ((as.set j .un).set j (.dur d)) = _
    rw [List.set_set]
  refine mLc_eq items enc (fun x => as.set j (.dur (enc x))) b f hmi (fun x _ => hs _) hc he ?_ hl fun x _ => ?_
  · unfold free
    rw [List.all_cons, List.all_nil, Bool.and_true, List.getD_eq_getElem?_getD]
    cases e : as[j]? with
    | none => rw [e] at hj; cases hj
    | some s =>
      rw [e] at hj
      cases s with
      | un => rfl
      | dur d => rfl
      | own o => cases hj
      | io o => cases hj
  · show (as.set j _).set j .un = as.set j .un
    rw [List.set_set]
theorem mLc1_map {ι : Type} {j : Nat} {mi : M (List PD)} {el : M PD} {as : AS} (items : List ι) (enc : ι → PD) (f : ι → PD)
    (hmi : mi as = some (items.map enc, as)) (hj : (match as[j]? with | some .un => true | some (.dur _) => true | _ => false) = true)
    (he : ∀ x ∈ items, el (as.set j (.dur (enc x))) = some (f x, as.set j (.dur (enc x))))
    (hl : items.length ≤ 16777216) : mLc [j] mi (gN j) (mPure true) el as = some (.obj (.ol (items.map f)), as) := by
  have := mLc1_eq (c := mPure true) items enc (fun _ => true) f hmi hj (fun _ _ => rfl) (fun x hx _ => he x hx) hl
  rw [this, List.filter_eq_self.mpr (fun _ _ => rfl)]
/-- a run that comes to its end -/
theorem runP_ex {n k : Nat} {m : MS} {ds : List PD} {r : Res} (hl : ds.length = k) (h : ∃ as', m (startA n ds) = some (.rt r, as')) : runP n k m ds = some r := by
  obtain ⟨as', h⟩ := h
  exact runP_rt hl h
theorem then_ex {m n : MS} {as as1 : AS} {r : Res} (h : m as = some (.nx, as1)) (k : ∃ as', n as1 = some (.rt r, as')) : ∃ as', sThen m n as = some (.rt r, as') := by
  rw [sThen_ap, h]
  exact k
theorem rgOk_nat {n : Nat} (h : n ≤ 16777216) : rgOk 0 (n : Int) = true := by
  unfold rgOk
  simp
  omega
theorem fTR1_of {n : Nat} (h : n ≤ 16777216) : fTR1 (.int (n : Int)) = some (.val (.tuple ((List.range n).map fun (i : Nat) => PyData.int (i : Int)))) := by
  have e : fTR1 (.int (n : Int)) = if rgOk 0 (n : Int) = true then some (.val (.tuple (rng 0 ((n : Int) - 0).toNat))) else none := rfl
  rw [e, if_pos (rgOk_nat h), show ((n : Int) - 0).toNat = n by omega, rng_zero]
theorem forL_rel {ι σ : Type} {g : PD → AS → Option AS} {b : MS} (enc : ι → PD) (step : σ → ι → σ) (R : σ → AS → Prop) : ∀ (items : List ι) (s : σ) (as : AS), R s as →
    (∀ s x as, x ∈ items → R s as → ∃ as1 as2, g (enc x) as = some as1 ∧ b as1 = some (.nx, as2) ∧ R (step s x) as2) → ∃ as', forL g b (items.map enc) as = some (.nx, as') ∧ R (items.foldl step s) as'
  | [], s, as, h, _ => ⟨as, rfl, h⟩
  | x :: items, s, as, h, k => by
    obtain ⟨as1, as2, h1, h2, h3⟩ := k s x as List.mem_cons_self h
    obtain ⟨as', q1, q2⟩ := forL_rel enc step R items (step s x) as2 h3 fun s y as hy => k s y as (List.mem_cons_of_mem _ hy)
    refine ⟨as', ?_, q2⟩
    rw [List.map_cons]
    unfold forL
    simp only [h1, h2]
    exact q1
/-- one turn -/
def kTn (q : Option AS) (b : MS) : Option (Ctl × AS) := match q with
  | none => none
  | some as => b as
@[simp] theorem kTn_some {as : AS} {b : MS} : kTn (some as) b = b as := (rfl)
theorem kTn_of {q : Option AS} {b : MS} {r : Ctl × AS} (h : kTn q b = some r) : ∃ as1, q = some as1 ∧ b as1 = some r := by
  cases q with
  | none => cases h
  | some as => exact ⟨as, rfl, h⟩
theorem forL_rl {ι σ : Type} {g : PD → AS → Option AS} {b : MS} (enc : ι → PD) (step : σ → ι → σ) (R : σ → AS → Prop) (items : List ι) (s : σ) (as : AS) (h : R s as)
    (k : ∀ s x as, x ∈ items → R s as → ∃ as2, kTn (g (enc x) as) b = some (.nx, as2) ∧ R (step s x) as2) : ∃ as', forL g b (items.map enc) as = some (.nx, as') ∧ R (items.foldl step s) as' :=
  forL_rel enc step R items s as h fun s x as hx hr => by
    obtain ⟨as2, q, r⟩ := k s x as hx hr
    obtain ⟨as1, q1, q2⟩ := kTn_of q
    exact ⟨as1, as2, q1, q2, r⟩
def nth {α : Type} (xs : List α) (i : Nat) (z : α) : α := xs.getD i z
theorem nth_eq {α : Type} {xs : List α} {i : Nat} (z : α) (h : i < xs.length) : nth xs i z = xs[i] := by
  unfold nth
  rw [List.getD_eq_getElem?_getD, List.getElem?_eq_getElem h]; rfl
theorem nth_mem {α : Type} {xs : List α} {i : Nat} (z : α) (h : i < xs.length) : nth xs i z ∈ xs := by
  rw [nth_eq z h]; exact List.getElem_mem h
def iT (r : List Int) : PD := .tuple (r.map .int)
def iL (r : List Int) : PD := .list (r.map .int)
theorem iT_fold {r : List Int} : PyData.tuple (r.map .int) = iT r := (rfl)
theorem iL_fold {r : List Int} : PyData.list (r.map .int) = iL r := (rfl)
theorem fIx_mapL {α : Type} {xs : List α} {f : α → PD} {i : Nat} (z : α) (h : i < xs.length) : fIx (.list (xs.map f)) (.int (i : Int)) = some (.val (f (nth xs i z))) := by
  rw [fIx_list (by rw [List.length_map]; exact h), List.getElem_map, nth_eq z h]
theorem fIx_mapT {α : Type} {xs : List α} {f : α → PD} {i : Nat} (z : α) (h : i < xs.length) : fIx (.tuple (xs.map f)) (.int (i : Int)) = some (.val (f (nth xs i z))) := by
  rw [fIx_tuple (by rw [List.length_map]; exact h), List.getElem_map, nth_eq z h]
/-- a next draw as a natural number -/
theorem take_nat (ds : List Int) {n : Int} (hn : 0 < n) : ∃ (t : Nat) (ds' : List Int), runI 2 2 0 gTake (.ol (ds.map .int)) [.int n] = some (.int (t : Int), .ol (ds'.map .int)) ∧ (t : Int) < n := by
  obtain ⟨t, ds', h, h0, h1⟩ := take_ok ds hn
  obtain ⟨k, rfl⟩ := Int.eq_ofNat_of_zero_le h0
  exact ⟨k, ds', h, h1⟩
theorem asInts_of' {ns : List Int} : asInts (ns.map .int) = some ns := asInts_of _
/-! ### dicts -/
theorem valP_nil {k : Key} : valP ([] : List (Key × PD)) k = none := (rfl)
theorem valP_cons {k k' : Key} {d : PD} {l : List (Key × PD)} : valP ((k', d) :: l) k = if k' = k then some d else valP l k := by
  unfold valP
  rw [List.find?_cons]
  by_cases h : k' = k <;> simp [h]
theorem valP_none {k : Key} : ∀ {l : List (Key × PD)}, valP l k = none ↔ ∀ q ∈ l, q.1 ≠ k
  | [] => by simp [valP_nil]
  | (k', d) :: l => by
    rw [valP_cons]
    by_cases h : k' = k
    · simp [h]
    · simp [h, valP_none (l := l)]
theorem valP_app {k : Key} : ∀ {l l2 : List (Key × PD)}, valP (l ++ l2) k = (valP l k).or (valP l2 k)
  | [], _ => by simp [valP_nil]
  | (k', d) :: l, l2 => by
    rw [List.cons_append, valP_cons, valP_cons]
    by_cases h : k' = k
    · simp [h]
    · simp [h, valP_app (l := l)]
theorem valP_upd {k k' : Key} {d : PD} : ∀ {l : List (Key × PD)}, valP (l.map fun kv => if kv.1 = k then (kv.1, d) else kv) k' = if k' = k then (valP l k).map (fun _ => d) else valP l k'
  | [] => by simp [valP_nil]
  | (k1, d1) :: l => by
    rw [List.map_cons]
    by_cases h : k1 = k
    · subst h
      rw [if_pos rfl, valP_cons, valP_cons, valP_cons, valP_upd (l := l)]
      by_cases h2 : k1 = k'
      · subst h2; simp
      · have h3 : ¬ k' = k1 := fun e => h2 e.symm
        simp [h2, h3]
    · rw [if_neg h, valP_cons, valP_cons, valP_cons, valP_upd (l := l), if_neg h]
      by_cases h2 : k1 = k'
      · subst h2; simp [h]
      · simp [h2]
theorem valP_put {k k' : Key} {d : PD} {l : List (Key × PD)} : valP (putP l k d) k' = if k' = k then some d else valP l k' := by
  unfold putP
  by_cases h : (l.any fun kv => decide (kv.1 = k)) = true
  · rw [if_pos h, valP_upd]
    by_cases e : k' = k
    · rw [if_pos e, if_pos e]
      cases hv : valP l k with
      | some _ => rfl
      | none =>
        obtain ⟨q, hq, h2⟩ := List.any_eq_true.mp h
        exact absurd (of_decide_eq_true h2) (valP_none.mp hv q hq)
    · rw [if_neg e, if_neg e]
  · rw [if_neg h, valP_app, valP_cons, valP_nil]
    by_cases e : k' = k
    · subst e
      have : valP l k' = none := valP_none.mpr fun q hq e => h (List.any_eq_true.mpr ⟨q, hq, decide_eq_true e⟩)
      simp [this]
    · have h3 : ¬ k = k' := fun x => e x.symm
      simp [e, h3]
theorem keys_put {k : Key} {d : PD} {l : List (Key × PD)} {q : Key × PD} (h : q ∈ putP l k d) : q.1 = k ∨ ∃ q' ∈ l, q'.1 = q.1 := by
  unfold putP at h
  split at h
  · obtain ⟨q', h1, rfl⟩ := List.mem_map.mp h
    by_cases e : q'.1 = k
    · rw [if_pos e]; exact .inl e
    · rw [if_neg e]; exact .inr ⟨q', h1, rfl⟩
  · rcases List.mem_append.mp h with h | h
    · exact .inr ⟨q, h, rfl⟩
    · rw [List.mem_singleton] at h
      subst h; exact .inl rfl
theorem valP_mem {l : List (Key × PD)} {q : Key × PD} (h : q ∈ l) : ∃ d, valP l q.1 = some d := by
  cases e : valP l q.1 with
  | some d => exact ⟨d, rfl⟩
  | none => exact absurd rfl (valP_none.mp e q h)
theorem putP_len {k : Key} {d : PD} {l : List (Key × PD)} : (putP l k d).length ≤ l.length + 1 := by
  unfold putP
  split <;> simp
/-- the values, by the keys -/
theorem mLcD1_map {i j : Nat} {el : M PD} {as : AS} {kvs : List (Key × PD)} (f : Key → PD) (hi : as[i]? = some (.own (.od kvs))) (hij : i ≠ j)
    (hj : (match as[j]? with | some .un => true | some (.dur _) => true | _ => false) = true)
    (he : ∀ q ∈ kvs, el ((as.set i (.own (.fk kvs))).set j (.dur (ofK q.1))) = some (f q.1, (as.set i (.own (.fk kvs))).set j (.dur (ofK q.1))))
    (hl : kvs.length ≤ 16777216) : mLcD i [j] (gN j) (mPure true) el as = some (.obj (.ol (kvs.map fun q => f q.1)), as) := by
  have hil : i < as.length := (List.getElem?_eq_some_iff.mp hi).1
  unfold mLcD
  rw [hi]
  have := mLc1_map (j := j) (mi := mKeys i) (el := el) (as := as.set i (.own (.fk kvs))) kvs (fun q => ofK q.1) (fun q => f q.1) (by unfold mKeys; rw [List.getElem?_set_self hil]) (by rw [List.getElem?_set_ne hij]; exact hj) he hl
  simp only [this]
/-! ### greatest items -/
theorem foldl_max : ∀ (l : List Int) (a : Int), a ≤ l.foldl max a ∧ (∀ x ∈ l, x ≤ l.foldl max a) ∧ (l.foldl max a = a ∨ l.foldl max a ∈ l)
  | [], a => ⟨by simp, by simp, .inl rfl⟩
  | y :: l, a => by
    obtain ⟨h1, h2, h3⟩ := foldl_max l (max a y)
    rw [List.foldl_cons]
    refine ⟨by omega, fun x hx => ?_, ?_⟩
    · rcases List.mem_cons.mp hx with rfl | hx
      · omega
      · exact h2 x hx
    · rcases h3 with h3 | h3
      · rw [h3]
        rcases Int.le_total a y with q | q
        · right; rw [Int.max_eq_right q]; exact List.mem_cons_self
        · left; rw [Int.max_eq_left q]
      · exact .inr (List.mem_cons_of_mem _ h3)
theorem maxL_cons0 {l : List Int} : maxL (0 :: l) = l.foldl max 0 := by
  obtain ⟨a1, a2⟩ := maxL_spec (0 :: l) (by simp)
  obtain ⟨b1, b2, b3⟩ := foldl_max l 0
  have := a2 0 List.mem_cons_self
  rcases List.mem_cons.mp a1 with h | h
  · rcases b3 with b3 | b3
    · omega
    · have := a2 _ (List.mem_cons_of_mem _ b3); omega
  · have := b2 _ h
    rcases b3 with b3 | b3
    · omega
    · have := a2 _ (List.mem_cons_of_mem _ b3); omega
theorem maxL_app0 {l : List Int} : maxL (l ++ [0]) = l.foldl max 0 := by
  obtain ⟨a1, a2⟩ := maxL_spec (l ++ [0]) (by simp)
  obtain ⟨b1, b2, b3⟩ := foldl_max l 0
  have := a2 0 (by simp)
  rcases List.mem_append.mp a1 with h | h
  · have := b2 _ h
    rcases b3 with b3 | b3
    · omega
    · have := a2 _ (List.mem_append_left _ b3); omega
  · rw [List.mem_singleton] at h
    rcases b3 with b3 | b3
    · omega
    · have := a2 _ (List.mem_append_left _ b3); omega
theorem forL_rn {ι σ : Type} {g : PD → AS → Option AS} {b : MS} (enc : ι → PD) (step : σ → ι → σ) (R : Nat → σ → AS → Prop) (n : Nat) : ∀ (items : List ι) (i : Nat) (s : σ) (as : AS), i + items.length = n → R i s as →
    (∀ i s x as, i < n → x ∈ items → R i s as → ∃ as2, kTn (g (enc x) as) b = some (.nx, as2) ∧ R (i + 1) (step s x) as2) → ∃ as', forL g b (items.map enc) as = some (.nx, as') ∧ R n (items.foldl step s) as'
  | [], i, s, as, hn, h, _ => ⟨as, rfl, by rw [← hn]; exact h⟩
  | x :: items, i, s, as, hn, h, k => by
    rw [List.length_cons] at hn
    obtain ⟨as2, h1, h3⟩ := k i s x as (by omega) List.mem_cons_self h
    obtain ⟨as1, h1, h2⟩ := kTn_of h1
    obtain ⟨as', q1, q2⟩ := forL_rn enc step R n items (i + 1) (step s x) as2 (by omega) h3 fun i s y as hi hy => k i s y as hi (List.mem_cons_of_mem _ hy)
    refine ⟨as', ?_, q2⟩
    rw [List.map_cons]
    unfold forL
    simp only [h1, h2]
    exact q1
/-- .. over a range -/
theorem forL_rg {g : PD → AS → Option AS} {b : MS} (n : Nat) (R : Nat → AS → Prop) (as : AS) (h : R 0 as)
    (k : ∀ i as, i < n → R i as → ∃ as2, kTn (g (.int (i : Int)) as) b = some (.nx, as2) ∧ R (i + 1) as2) : ∃ as', forL g b ((List.range n).map fun (i : Nat) => PyData.int (i : Int)) as = some (.nx, as') ∧ R n as' := by
  have key : ∀ (m i : Nat) (as : AS), i + m = n → R i as → ∃ as', forL g b ((List.range' i m).map fun (i : Nat) => PyData.int (i : Int)) as = some (.nx, as') ∧ R n as' := fun m => by
    induction m with
    | zero => intro i as hi h; exact ⟨as, rfl, by rw [← hi]; exact h⟩
    | succ m ih =>
      intro i as hi h
      obtain ⟨as2, h1, h3⟩ := k i as (by omega) h
      obtain ⟨as1, h1, h2⟩ := kTn_of h1
      obtain ⟨as', q1, q2⟩ := ih (i + 1) as2 (by omega) h3
      refine ⟨as', ?_, q2⟩
      rw [List.range'_succ, List.map_cons]
      unfold forL
      simp only [h1, h2]
      exact q1
  have := key n 0 as (by omega) h
  rw [← List.range_eq_range'] at this
  exact this
theorem range_nth {α : Type} (l : List α) (z : α) : (List.range l.length).map (fun j => nth l j z) = l := by
  refine List.ext_getElem (by simp) fun i h1 h2 => ?_
  rw [List.getElem_map, List.getElem_range, nth_eq z h2]
theorem insU_len (y : Int) : ∀ l : List Int, (insU y l).length ≤ l.length + 1
  | [] => by simp [insU]
  | x :: l => by
    unfold insU
    have := insU_len y l
    repeat' split
    all_goals simp only [List.length_cons]
    all_goals omega
theorem usort_len : ∀ l : List Int, (usort l).length ≤ l.length
  | [] => by simp [usort]
  | y :: l => by
    have h1 := insU_len y (usort l)
    have h2 := usort_len l
    show (insU y (usort l)).length ≤ _
    rw [List.length_cons]
    omega
theorem usort_congr {a b : List Int} (h : ∀ z, z ∈ a ↔ z ∈ b) : usort a = usort b := strict_uniq (sorted_usort a) (sorted_usort b) fun z => by rw [mem_usort, mem_usort, h z]
theorem usort_nodup {l : List Int} (h : l.Nodup) : (usort l).length = l.length := (perm_of_mem (nodup_usort l) h fun z => by rw [mem_usort]).length_eq
end Vl

-- Dk85
set_option Elab.async false
set_option linter.all false
set_option maxRecDepth 100000
set_option maxHeartbeats 4000000
namespace Vl
open PySem L2
def b_known_behind : MS := (sThen (sSet 2 (mLc [6] (mR fR1 (mCons (mI 0) (mPure []))) (gN 6) (mPure true) (mV (mN fTup (mCons (mD 6) (mPure []))))))
  (sThen (sFor (m1 fSeq (mD 1)) (gT (gCons (gN 3) (gCons (gN 4) gNil))) (sThen (sSet 5 (mN fTuple (mCons (mV (m1 fSSet (mV (m2 fAdd (mV (m2 fIx (mI 2) (mI 3))) (mV (m2 fIx (mI 2) (mI 4))))))) (mPure []))))
  (sAsg (gT (gCons (gSet 2 (mI 3)) (gCons (gSet 2 (mI 4)) gNil))) (mV (mN fTup (mCons (mD 5) (mCons (mD 5) (mPure []))))))))
  (sRet (mN fTuple (mCons (mI 2) (mPure []))))))
def D_known_behind : List PD → Option Res := runP 7 2 b_known_behind
def b_all_know : MS := (sRet (mF (mS fAll (mCons (mV (mLc [2] (m1 fSeq (mV (mN D_known_behind (mCons (mD 0) (mCons (mD 1) (mPure [])))))) (gN 2) (mPure true) (m2 fEq (mS fLen (mCons (mI 2) (mPure []))) (mI 0)))) (mPure [])))))
def D_all_know : List PD → Option Res := runP 3 2 b_all_know
def b_fewest_talks : MS := (sRet (mF (mIte (m2b (fInt cGt) (mI 0) (mPure (.int 3))) (m2 (fInt iSub) (mV (m2 fMulA (mPure (.int 2)) (mI 0))) (mPure (.int 4))) (mV (m2 fIx (mV (mN fTup (mCons (mPure (.int 0)) (mCons (mPure (.int 1)) (mCons (mPure (.int 3)) (mPure [])))))) (m2 (fInt iSub) (mI 0) (mPure (.int 1))))))))
def D_fewest_talks : List PD → Option Res := runP 1 1 b_fewest_talks
def b_told_talks : MS := (sThen (sIf (m2b (fInt cLt) (mI 0) (mPure (.int 4))) (sRet (m2 fIx (mV (mN fTup (mCons (mV (mN fTup (mPure []))) (mCons (mV (mN fTup (mCons (mV (mN fTup (mCons (mPure (.int 0)) (mCons (mPure (.int 1)) (mPure []))))) (mPure [])))) (mCons (mV (mN fTup (mCons (mV (mN fTup (mCons (mPure (.int 0)) (mCons (mPure (.int 1)) (mPure []))))) (mCons (mV (mN fTup (mCons (mPure (.int 0)) (mCons (mPure (.int 2)) (mPure []))))) (mCons (mV (mN fTup (mCons (mPure (.int 0)) (mCons (mPure (.int 1)) (mPure []))))) (mPure [])))))) (mPure [])))))) (m2 (fInt iSub) (mI 0) (mPure (.int 1))))) sNx)
  (sThen (sSet 1 (mN fTuple (mCons (mV (mLc [2] (mR fR2 (mCons (mPure (.int 4)) (mCons (mI 0) (mPure [])))) (gN 2) (mPure true) (mV (mN fTup (mCons (mPure (.int 0)) (mCons (mD 2) (mPure []))))))) (mPure []))))
  (sRet (m2 fAdd (mV (m2 fAdd (mI 1) (mV (mN fTup (mCons (mV (mN fTup (mCons (mPure (.int 0)) (mCons (mPure (.int 1)) (mPure []))))) (mCons (mV (mN fTup (mCons (mPure (.int 2)) (mCons (mPure (.int 3)) (mPure []))))) (mCons (mV (mN fTup (mCons (mPure (.int 0)) (mCons (mPure (.int 2)) (mPure []))))) (mCons (mV (mN fTup (mCons (mPure (.int 1)) (mCons (mPure (.int 3)) (mPure []))))) (mPure []))))))))) (mI 1)))))
def D_told_talks : List PD → Option Res := runP 3 1 b_told_talks
def b_first_known : MS := (sThen (sFor (mR fR1 (mCons (mV (m2 fAdd (mS fLen (mCons (mI 1) (mPure []))) (mPure (.int 1)))) (mPure []))) (gN 3) (sIf (m2b fEq (mS fLen (mCons (mV (m2 fIx (mV (mN D_known_behind (mCons (mD 0) (mCons (mV (mSl (mI 1) (mPure none) (mPart (mI 3)))) (mPure []))))) (mI 2))) (mPure []))) (mI 0)) (sRet (mF (mD 3))) sNx))
  (sRet (mF (mPure .none))))
def D_first_known : List PD → Option Res := runP 4 3 b_first_known
def b_needless_talks : MS := (sThen (sSet 2 (mN D_known_behind (mCons (mD 0) (mCons (mD 1) (mPure [])))))
  (sRet (mN fTuple (mCons (mV (mLc [3] (mR fR1 (mCons (mS fLen (mCons (mI 1) (mPure []))) (mPure []))) (gN 3) (m2b fEq (mV (mN D_known_behind (mCons (mD 0) (mCons (mV (m2 fAdd (mV (mSl (mI 1) (mPure none) (mPart (mI 3)))) (mV (mSl (mI 1) (mPart (mV (m2 fAdd (mI 3) (mPure (.int 1))))) (mPure none))))) (mPure []))))) (mI 2)) (mD 3))) (mPure [])))))
def D_needless_talks : List PD → Option Res := runP 4 2 b_needless_talks
def b_rounds_of_talks : MS := (sThen (sSet 1 (mPure (.obj (.od []))))
  (sThen (sFor (m1 fSeq (mD 0)) (gT (gCons (gN 2) (gCons (gN 3) gNil))) (sThen (sSet 4 (m2 fAdd (mPure (.int 1)) (mS fMax2 (mCons (mGet2 1 (mD 2) (mPure (.int 0))) (mCons (mGet2 1 (mD 3) (mPure (.int 0))) (mPure []))))))
  (sAsg (gT (gCons (gDSet 1 (mD 2)) (gCons (gDSet 1 (mD 3)) gNil))) (mV (mN fTup (mCons (mD 4) (mCons (mD 4) (mPure []))))))))
  (sRet (mF (mS fMaxI (mCons (mV (m2 fAdd (mV (mN fLst (mCons (mPure (.int 0)) (mPure [])))) (mV (mLcD 1 [5] (gN 5) (mPure true) (mIx 1 (mD 5)))))) (mPure [])))))))
def D_rounds_of_talks : List PD → Option Res := runP 6 1 b_rounds_of_talks
def b_law_draws : MS := (sThen (sSet 2 (mLc [8] (m1 fSeq (mI 0)) (gN 8) (mPure true) (mS fInt1 (mCons (mI 8) (mPure [])))))
  (sThen (sIf (m2b fEq (mS fLen (mCons (mI 2) (mPure []))) (mPure (.int 0))) (sDrop (mMth 2 fAppend (mCons (mPure (.int 0)) (mPure [])))) sNx)
  (sThen (sSet 3 (mN fList (mCons (mI 2) (mPure []))))
  (sThen (sSet 4 (mN fLst (mPure [])))
  (sThen (sFor (mR fR1 (mCons (mI 1) (mPure []))) (gN 5) (sThen (sSet 6 (mF (m2 (fInt iMod) (mI 5) (mS fLen (mCons (mI 2) (mPure []))))))
  (sIf (mAnd (m2b (fInt cGe) (mV (m2 fIx (mI 2) (mI 6))) (m2 (fInt iPow) (mPure (.int 10)) (mPure (.int 18)))) (m2b (fInt cGt) (mV (m2 fIx (mI 3) (mI 6))) (mPure (.int 0)))) (sThen (sDrop (mMth 4 fAppend (mCons (m2 (fInt iMod) (mS fInt1 (mCons (mV (m2 fIx (mI 3) (mI 6))) (mPure []))) (mPure (.int 1000))) (mPure []))))
  (sAsg (gSet 3 (mI 6)) (m2 (fInt iDiv) (mV (m2 fIx (mI 3) (mI 6))) (mPure (.int 1000))))) (sThen (sSet 7 (mF (m2 (fInt iMod) (mS fInt1 (mCons (mV (m2 fAdd (mV (m2 fAdd (mV (m2 fMulA (mV (m2 fIx (mI 2) (mI 6))) (mPure (.int 48271)))) (mV (m2 fMulA (mI 5) (mPure (.int 69621)))))) (mPure (.int 11)))) (mPure []))) (mPure (.int 2147483647)))))
  (sDrop (mMth 4 fAppend (mCons (m2 (fInt iMod) (mS fInt1 (mCons (mV (m2 fAdd (mV (m2 fAdd (mV (m2 fMulA (mI 7) (mI 7))) (mV (m2 fMulA (mPure (.int 3)) (mI 7))))) (mI 5))) (mPure []))) (mPure (.int 1000003))) (mPure []))))))))
  (sThen (sDrop (mMth 4 fRev (mPure [])))
  (sRet (mMv 4))))))))
def D_law_draws : List PD → Option Res := runP 9 2 b_law_draws
def b_law_take : MS := (sThen (sIf (m2b fEq (mS fLen (mCons (mI 0) (mPure []))) (mPure (.int 0))) (sRet (mF (mPure (.int 0)))) sNx)
  (sRet (mF (m2 (fInt iMod) (mS fInt1 (mCons (mMth 0 fPop (mPure [])) (mPure []))) (mI 1)))))
def D_law_take : Obj → List PD → Option (PD × Obj) := runI 2 2 0 b_law_take
def b_law_same (R : List PD → Option Res) : MS := (sThen (sIf (m2b fIs (mI 1) (mPure .none)) (sRet (mF (m2 fIs (mI 0) (mPure .none)))) sNx)
  (sThen (sIf (m1 asB (mIsi "bool" (mI 1))) (sRet (mF (mAndV (mIsi "bool" (mI 0)) (m2 fEq (mI 0) (mI 1))))) sNx)
  (sThen (sIf (m1 asB (mIsi "int" (mI 1))) (sRet (mF (mAndV (mIsi "int" (mI 0)) (mAndV (mBind (m1 asB (mIsi "bool" (mI 0))) fun c => mPure (.bool !c)) (m2 fEq (mI 0) (mI 1)))))) sNx)
  (sThen (sIf (m1 asB (mIsi "str" (mI 1))) (sRet (mF (mAndV (mIsi "str" (mI 0)) (m2 fEq (mI 0) (mI 1))))) sNx)
  (sThen (sIf (mOr (mNot (m1 asB (mIsi "tuple" (mI 0)))) (m2b fNe (mS fLen (mCons (mI 0) (mPure []))) (mS fLen (mCons (mI 1) (mPure []))))) (sRet (mF (mPure (.bool false)))) sNx)
  (sThen (sFor (mR fR1 (mCons (mS fLen (mCons (mI 1) (mPure []))) (mPure []))) (gN 2) (sIf (mNot (m1 asB (mV (mN R (mCons (mV (m2 fIx (mI 0) (mI 2))) (mCons (mV (m2 fIx (mI 1) (mI 2))) (mPure []))))))) (sRet (mF (mPure (.bool false)))) sNx))
  (sRet (mF (mPure (.bool true))))))))))
def Dn_law_same : Nat → List PD → Option Res
  | 0 => fun _ => none
  | k + 1 => runP 3 2 (b_law_same (Dn_law_same k))
def D_law_same : List PD → Option Res := Dn_law_same 12
def b_law_talks : MS := (sThen (sSet 3 (m2 fIx (mV (mN fLst (mCons (mD 1) (mCons (mS fMin2 (mCons (mI 1) (mCons (mPure (.int 4)) (mPure [])))) (mPure []))))) (mCallI 0 D_law_take (mCons (mPure (.int 2)) (mPure [])))))
  (sThen (sSet 4 (mN fLst (mPure [])))
  (sThen (sFor (mR fR1 (mCons (mV (m2 fMulA (mI 2) (mS fInt1 (mCons (m2 (fInt cGt) (mI 1) (mPure (.int 1))) (mPure []))))) (mPure []))) (gN 5) (sThen (sSet 6 (mF (mCallI 0 D_law_take (mCons (mD 3) (mPure [])))))
  (sThen (sSet 7 (mF (m2 (fInt iMod) (mS fInt1 (mCons (mV (m2 fAdd (mV (m2 fAdd (mI 6) (mPure (.int 1)))) (mCallI 0 D_law_take (mCons (m2 (fInt iSub) (mI 3) (mPure (.int 1))) (mPure []))))) (mPure []))) (mI 3))))
  (sDrop (mMth 4 fAppend (mCons (mV (m2 fIx (mV (mN fLst (mCons (mV (mN fTup (mCons (mD 6) (mCons (mD 7) (mPure []))))) (mCons (mV (m2 fIx (mV (m2 fAdd (mI 4) (mV (mN fLst (mCons (mV (mN fTup (mCons (mD 6) (mCons (mD 7) (mPure []))))) (mPure [])))))) (mPure (.int 0)))) (mPure []))))) (mS fInt1 (mCons (m2 fEq (mCallI 0 D_law_take (mCons (mPure (.int 8)) (mPure []))) (mPure (.int 0))) (mPure []))))) (mPure [])))))))
  (sRet (mF (mV (mN fTuple (mCons (mI 4) (mPure [])))))))))
def D_law_talks : Obj → List PD → Option (PD × Obj) := runI 8 3 0 b_law_talks
def b_law_known : MS := (sThen (sSet 2 (mLc [6] (mR fR1 (mCons (mI 0) (mPure []))) (gN 6) (mPure true) (mV (mN fLst (mCons (mD 6) (mPure []))))))
  (sThen (sFor (m1 fSeq (mD 1)) (gT (gCons (gN 3) (gCons (gN 4) gNil))) (sThen (sSet 5 (m1 fSSet (mV (m2 fAdd (mV (m2 fIx (mI 2) (mI 3))) (mV (m2 fIx (mI 2) (mI 4)))))))
  (sThen (sAsg (gSet 2 (mI 3)) (mZ 5))
  (sAsg (gSet 2 (mI 4)) (mZ 5)))))
  (sRet (mN fTuple (mCons (mV (mLc [7] (m1 fSeq (mI 2)) (gN 7) (mPure true) (mV (mN fTuple (mCons (mI 7) (mPure [])))))) (mPure []))))))
def D_law_known : List PD → Option Res := runP 8 2 b_law_known
def b_law_rounds : MS := (sThen (sSet 1 (mN fLst (mPure [])))
  (sThen (sFor (mR fR1 (mCons (mS fLen (mCons (mI 0) (mPure []))) (mPure []))) (gN 2) (sThen (sSet 3 (mLc [4] (mR fR1 (mCons (mI 2) (mPure []))) (gN 4) (m2b (fInt cLt) (m1 fLSet (mV (m2 fAdd (mV (m2 fIx (mI 0) (mI 2))) (mV (m2 fIx (mI 0) (mI 4)))))) (mPure (.int 4))) (mV (m2 fIx (mI 1) (mI 4)))))
  (sDrop (mMth 1 fAppend (mCons (mV (m2 fAdd (mPure (.int 1)) (mS fMaxI (mCons (mV (m2 fAdd (mI 3) (mV (mN fLst (mCons (mPure (.int 0)) (mPure [])))))) (mPure []))))) (mPure []))))))
  (sRet (mF (mS fMaxI (mCons (mV (m2 fAdd (mI 1) (mV (mN fLst (mCons (mPure (.int 0)) (mPure [])))))) (mPure [])))))))
def D_law_rounds : List PD → Option Res := runP 5 1 b_law_rounds
def b_law_told : MS := (sThen (sIf (m2b (fInt cLt) (mI 0) (mPure (.int 4))) (sRet (m2 fIx (mV (mN fLst (mCons (mV (mN fTup (mPure []))) (mCons (mV (mN fTup (mPure []))) (mCons (mV (mN fTup (mCons (mV (mN fTup (mCons (mPure (.int 0)) (mCons (mPure (.int 1)) (mPure []))))) (mPure [])))) (mCons (mV (mN fTup (mCons (mV (mN fTup (mCons (mPure (.int 0)) (mCons (mPure (.int 1)) (mPure []))))) (mCons (mV (mN fTup (mCons (mPure (.int 0)) (mCons (mPure (.int 2)) (mPure []))))) (mCons (mV (mN fTup (mCons (mPure (.int 0)) (mCons (mPure (.int 1)) (mPure []))))) (mPure [])))))) (mPure []))))))) (mI 0))) sNx)
  (sThen (sSet 1 (mN fTuple (mCons (mV (mLc [2] (mR fR2 (mCons (mPure (.int 4)) (mCons (mI 0) (mPure [])))) (gN 2) (mPure true) (mV (mN fTup (mCons (mPure (.int 0)) (mCons (mD 2) (mPure []))))))) (mPure []))))
  (sRet (m2 fAdd (mV (m2 fAdd (mI 1) (mV (mN fTup (mCons (mV (mN fTup (mCons (mPure (.int 0)) (mCons (mPure (.int 1)) (mPure []))))) (mCons (mV (mN fTup (mCons (mPure (.int 2)) (mCons (mPure (.int 3)) (mPure []))))) (mCons (mV (mN fTup (mCons (mPure (.int 0)) (mCons (mPure (.int 2)) (mPure []))))) (mCons (mV (mN fTup (mCons (mPure (.int 1)) (mCons (mPure (.int 3)) (mPure []))))) (mPure []))))))))) (mI 1)))))
def D_law_told : List PD → Option Res := runP 3 1 b_law_told
def b_law_are_talks_right : MS := (sThen (sSet 3 (mN D_law_known (mCons (mD 1) (mCons (mD 2) (mPure [])))))
  (sThen (sIf (mOr (mNot (m1 asB (mV (mN D_law_same (mCons (mV (mN D_known_behind (mCons (mD 1) (mCons (mD 2) (mPure []))))) (mCons (mD 3) (mPure []))))))) (mNot (m1 asB (mV (mN D_law_same (mCons (mV (mN D_all_know (mCons (mD 1) (mCons (mD 2) (mPure []))))) (mCons (m2 fEq (mI 3) (mV (m2 fMulA (mV (mN fTup (mCons (mV (m1 fTR1 (mI 1))) (mPure [])))) (mI 1)))) (mPure [])))))))) (sRet (mF (mPure (.bool false)))) sNx)
  (sThen (sSet 4 (mLc [8] (mR fR1 (mCons (mS fLen (mCons (mI 2) (mPure []))) (mPure []))) (gN 8) (m2b fEq (mV (mN D_law_known (mCons (mD 1) (mCons (mV (m2 fAdd (mV (mSl (mI 2) (mPure none) (mPart (mI 8)))) (mV (mSl (mI 2) (mPart (mV (m2 fAdd (mI 8) (mPure (.int 1))))) (mPure none))))) (mPure []))))) (mI 3)) (mD 8)))
  (sThen (sIf (mOr (mNot (m1 asB (mV (mN D_law_same (mCons (mV (mN D_needless_talks (mCons (mD 1) (mCons (mD 2) (mPure []))))) (mCons (mV (mN fTuple (mCons (mI 4) (mPure [])))) (mPure []))))))) (mNot (m1 asB (mV (mN D_law_same (mCons (mV (mN D_rounds_of_talks (mCons (mD 2) (mPure [])))) (mCons (mV (mN D_law_rounds (mCons (mD 2) (mPure [])))) (mPure [])))))))) (sRet (mF (mPure (.bool false)))) sNx)
  (sThen (sFor (mR fR1 (mCons (mPure (.int 3)) (mPure []))) (gN 5) (sThen (sSet 6 (mF (mCallI 0 D_law_take (mCons (mD 1) (mPure [])))))
  (sThen (sSet 7 (mLc [9] (mR fR1 (mCons (mV (m2 fAdd (mS fLen (mCons (mI 2) (mPure []))) (mPure (.int 1)))) (mPure []))) (gN 9) (m2b fEq (mS fLen (mCons (mV (m2 fIx (mV (mN D_law_known (mCons (mD 1) (mCons (mV (mSl (mI 2) (mPure none) (mPart (mI 9)))) (mPure []))))) (mI 6))) (mPure []))) (mI 1)) (mD 9)))
  (sIf (mNot (m1 asB (mV (mN D_law_same (mCons (mV (mN D_first_known (mCons (mD 1) (mCons (mD 2) (mCons (mD 6) (mPure [])))))) (mCons (mV (m2 fIx (mV (m2 fAdd (mI 7) (mV (mN fLst (mCons (mPure .none) (mPure [])))))) (mPure (.int 0)))) (mPure []))))))) (sRet (mF (mPure (.bool false)))) sNx))))
  (sRet (mF (mPure (.bool true)))))))))
def D_law_are_talks_right : Obj → List PD → Option (PD × Obj) := runI 10 3 0 b_law_are_talks_right
def b_law : MS := (sThen (sSet 1 (mN D_law_draws (mCons (mD 0) (mCons (mPure (.int 160)) (mPure [])))))
  (sThen (sFor (mR fR1 (mCons (mPure (.int 2)) (mPure []))) (gN 2) (sThen (sSet 3 (m2 fAdd (mPure (.int 1)) (mCallI 1 D_law_take (mCons (mV (m2 fIx (mV (mN fLst (mCons (mPure (.int 8)) (mCons (mPure (.int 30)) (mPure []))))) (mS fInt1 (mCons (m2 fEq (mCallI 1 D_law_take (mCons (mPure (.int 16)) (mPure []))) (mPure (.int 0))) (mPure []))))) (mPure [])))))
  (sThen (sSet 4 (mF (mCallI 1 D_law_talks (mCons (mD 3) (mCons (mCallI 1 D_law_take (mCons (mV (m2 fIx (mV (mN fLst (mCons (mPure (.int 8)) (mCons (mPure (.int 25)) (mPure []))))) (mCallI 1 D_law_take (mCons (mPure (.int 2)) (mPure []))))) (mPure []))) (mPure []))))))
  (sIf (mNot (m1 asB (mCallI 1 D_law_are_talks_right (mCons (mD 3) (mCons (mD 4) (mPure [])))))) (sRet (mF (mPure (.bool false)))) sNx))))
  (sThen (sSet 5 (mN D_law_told (mCons (mD 3) (mPure []))))
  (sThen (sIf (mOr (mNot (m1 asB (mV (mN D_law_same (mCons (mV (mN D_told_talks (mCons (mD 3) (mPure [])))) (mCons (mD 5) (mPure []))))))) (mOr (mNot (m1 asB (mV (mN D_law_same (mCons (mV (mN D_fewest_talks (mCons (mD 3) (mPure [])))) (mCons (mS fLen (mCons (mI 5) (mPure []))) (mPure []))))))) (mNot (m1 asB (mCallI 1 D_law_are_talks_right (mCons (mD 3) (mCons (mD 5) (mPure [])))))))) (sRet (mF (mPure (.bool false)))) sNx)
  (sThen (sIf (mOr (mNot (m1 asB (mV (mN D_law_same (mCons (mV (mN D_needless_talks (mCons (mPure (.int 3)) (mCons (mV (mN fTup (mCons (mV (mN fTup (mCons (mPure (.int 0)) (mCons (mPure (.int 1)) (mPure []))))) (mCons (mV (mN fTup (mCons (mPure (.int 1)) (mCons (mPure (.int 0)) (mPure []))))) (mCons (mV (mN fTup (mCons (mPure (.int 1)) (mCons (mPure (.int 2)) (mPure []))))) (mPure [])))))) (mPure []))))) (mCons (mV (mN fTup (mCons (mPure (.int 0)) (mCons (mPure (.int 1)) (mPure []))))) (mPure []))))))) (mNot (m1 asB (mV (mN D_law_same (mCons (mV (mN D_first_known (mCons (mPure (.int 4)) (mCons (mV (mN fTup (mCons (mV (mN fTup (mCons (mPure (.int 0)) (mCons (mPure (.int 1)) (mPure []))))) (mCons (mV (mN fTup (mCons (mPure (.int 2)) (mCons (mPure (.int 3)) (mPure []))))) (mCons (mV (mN fTup (mCons (mPure (.int 0)) (mCons (mPure (.int 2)) (mPure []))))) (mPure [])))))) (mCons (mPure (.int 2)) (mPure [])))))) (mCons (mPure (.int 3)) (mPure [])))))))) (sRet (mF (mPure (.bool false)))) sNx)
  (sRet (mF (mAndV (mV (mN D_law_same (mCons (mV (mN D_rounds_of_talks (mCons (mV (mN fTup (mCons (mV (mN fTup (mCons (mPure (.int 0)) (mCons (mPure (.int 1)) (mPure []))))) (mCons (mV (mN fTup (mCons (mPure (.int 0)) (mCons (mPure (.int 2)) (mPure []))))) (mCons (mV (mN fTup (mCons (mPure (.int 3)) (mCons (mPure (.int 4)) (mPure []))))) (mCons (mV (mN fTup (mCons (mPure (.int 3)) (mCons (mPure (.int 5)) (mPure []))))) (mPure []))))))) (mPure [])))) (mCons (mPure (.int 2)) (mPure []))))) (mAndV (mV (mN D_law_same (mCons (mV (mN D_first_known (mCons (mPure (.int 1)) (mCons (mV (mN fTup (mPure []))) (mCons (mPure (.int 0)) (mPure [])))))) (mCons (mPure (.int 0)) (mPure []))))) (mV (mN D_law_same (mCons (mV (mN D_fewest_talks (mCons (mPure (.int 60)) (mPure [])))) (mCons (mPure (.int 116)) (mPure []))))))))))))))
def D_law : List PD → Option Res := runP 6 1 b_law
end Vl

-- M85a
set_option Elab.async false
set_option linter.all false
set_option maxRecDepth 100000
set_option maxHeartbeats 4000000
namespace Vl
open PySem L2
/-! ### plain: who knows what -/
def tE (t : Nat × Nat) : PD := .tuple [.int (t.1 : Int), .int (t.2 : Int)]
def tsE (ts : List (Nat × Nat)) : PD := .tuple (ts.map tE)
def both (rows : List (List Int)) (t : Nat × Nat) : List Int := usort (nth rows t.1 [] ++ nth rows t.2 [])
def meet (rows : List (List Int)) (t : Nat × Nat) : List (List Int) := (rows.set t.1 (both rows t)).set t.2 (both rows t)
def row0 (n : Nat) : List (List Int) := (List.range n).map fun (i : Nat) => [(i : Int)]
def kn (n : Nat) (ts : List (Nat × Nat)) : List (List Int) := ts.foldl meet (row0 n)
def goodR (n : Nat) (r : List Int) : Prop := r.Pairwise (· < ·) ∧ ∀ x ∈ r, 0 ≤ x ∧ x < (n : Int)
def good (n : Nat) (rows : List (List Int)) : Prop := rows.length = n ∧ ∀ r ∈ rows, goodR n r
theorem strict_len : ∀ (r : List Int) (a b : Int), r.Pairwise (· < ·) → (∀ x ∈ r, a ≤ x ∧ x < b) → (r.length : Int) ≤ max 0 (b - a)
  | [], _, _, _, _ => by simp; omega
  | x :: r, a, b, h, k => by
    rw [List.pairwise_cons] at h
    have k0 := k x List.mem_cons_self
    have := strict_len r (x + 1) b h.2 fun y hy => ⟨by have := h.1 y hy; omega, (k y (List.mem_cons_of_mem _ hy)).2⟩
    rw [List.length_cons]
    omega
theorem goodR_len {n : Nat} {r : List Int} (h : goodR n r) : r.length ≤ n := by
  have := strict_len r 0 n h.1 h.2
  omega
theorem strict_full : ∀ (r : List Int) (a : Int) (n : Nat), r.Pairwise (· < ·) → (∀ x ∈ r, a ≤ x ∧ x < a + n) → r.length = n → r = (List.range n).map fun (i : Nat) => a + (i : Int)
  | [], _, n, _, _, e => by simp at e; subst e; rfl
  | x :: r, a, n, h, k, e => by
    rw [List.pairwise_cons] at h
    cases n with
    | zero => cases e
    | succ m =>
      rw [List.length_cons] at e
      have hx : x = a := by
        have k0 := k x List.mem_cons_self
        have := strict_len r (x + 1) (a + ((m + 1 : Nat) : Int)) h.2 fun y hy => ⟨by have := h.1 y hy; omega, (k y (List.mem_cons_of_mem _ hy)).2⟩
        omega
      subst hx
      have ih := strict_full r (x + 1) m h.2 (fun y hy => ⟨by have := h.1 y hy; omega, by have := (k y (List.mem_cons_of_mem _ hy)).2; omega⟩) (by omega)
      rw [List.range_succ_eq_map, List.map_cons, List.map_map, ih]
      congr 1
      · omega
      · refine List.map_congr_left fun i _ => ?_
        show x + 1 + (i : Int) = x + ((i + 1 : Nat) : Int)
        omega
theorem good_row0 (n : Nat) : good n (row0 n) := by
  refine ⟨by simp [row0], fun r hr => ?_⟩
  obtain ⟨i, hi, rfl⟩ := List.mem_map.mp hr
  rw [List.mem_range] at hi
  exact ⟨List.pairwise_singleton _ _, fun x hx => by rw [List.mem_singleton] at hx; omega⟩
theorem good_getD {n : Nat} {rows : List (List Int)} (h : good n rows) {i : Nat} (hi : i < n) : goodR n (nth rows i []) := by
  have hl : i < rows.length := by rw [h.1]; exact hi
  exact h.2 _ (nth_mem [] hl)
theorem good_both {n : Nat} {rows : List (List Int)} {t : Nat × Nat} (h : good n rows) (h1 : t.1 < n) (h2 : t.2 < n) : goodR n (both rows t) := by
  refine ⟨sorted_usort _, fun x hx => ?_⟩
  unfold both at hx
  rw [mem_usort, List.mem_append] at hx
  rcases hx with hx | hx
  · exact (good_getD h h1).2 x hx
  · exact (good_getD h h2).2 x hx
theorem good_meet {n : Nat} {rows : List (List Int)} {t : Nat × Nat} (h : good n rows) (h1 : t.1 < n) (h2 : t.2 < n) : good n (meet rows t) := by
  refine ⟨by unfold meet; rw [List.length_set, List.length_set, h.1], fun r hr => ?_⟩
  unfold meet at hr
  rcases List.mem_or_eq_of_mem_set hr with hr | rfl
  · rcases List.mem_or_eq_of_mem_set hr with hr | rfl
    · exact h.2 r hr
    · exact good_both h h1 h2
  · exact good_both h h1 h2
def okT (n : Nat) (ts : List (Nat × Nat)) : Prop := ∀ t ∈ ts, t.1 < n ∧ t.2 < n
theorem good_fold {n : Nat} : ∀ (ts : List (Nat × Nat)) {rows : List (List Int)}, good n rows → okT n ts → good n (ts.foldl meet rows)
  | [], _, h, _ => h
  | t :: ts, _, h, k => good_fold ts (good_meet h (k t List.mem_cons_self).1 (k t List.mem_cons_self).2) fun t ht => k t (List.mem_cons_of_mem _ ht)
theorem good_kn {n : Nat} {ts : List (Nat × Nat)} (h : okT n ts) : good n (kn n ts) := good_fold ts (good_row0 n) h
/-! ### what the code computes -/
theorem fAdd_iT {a b : List Int} (h : a.length + b.length ≤ 16777216) : fAdd (iT a) (iT b) = some (.val (iT (a ++ b))) := by
  unfold iT
  rw [fAdd_tuple (by simpa using h), List.map_append]
theorem fAdd_iL {a b : List Int} (h : a.length + b.length ≤ 16777216) : fAdd (iL a) (iL b) = some (.obj (.ol ((a ++ b).map .int))) := by
  unfold iL
  rw [fAdd_list (by simpa using h), List.map_append]
def knInv (f : List Int → PD) (n : Nat) (ts : List (Nat × Nat)) (k : Nat) (rows : List (List Int)) (as : AS) : Prop :=
  good n rows ∧ ∃ z3 z4 z5 zs, as = [.dur (.int (n : Int)), .dur (tsE ts), .own (.ol (rows.map f)), z3, z4, z5] ++ zs ∧ isF z3 = true ∧ isF z4 = true ∧ isF z5 = true ∧ zs = List.replicate k .un
def kBodyK : MS := (sThen (sSet 5 (mN fTuple (mCons (mV (m1 fSSet (mV (m2 fAdd (mV (m2 fIx (mI 2) (mI 3))) (mV (m2 fIx (mI 2) (mI 4))))))) (mPure []))))
  (sAsg (gT (gCons (gSet 2 (mI 3)) (gCons (gSet 2 (mI 4)) gNil))) (mV (mN fTup (mCons (mD 5) (mCons (mD 5) (mPure [])))))))
def kBodyL : MS := (sThen (sSet 5 (m1 fSSet (mV (m2 fAdd (mV (m2 fIx (mI 2) (mI 3))) (mV (m2 fIx (mI 2) (mI 4)))))))
  (sThen (sAsg (gSet 2 (mI 3)) (mZ 5))
  (sAsg (gSet 2 (mI 4)) (mZ 5))))
theorem stepK {n : Nat} {ts : List (Nat × Nat)} (hn : n ≤ 60) (hts : okT n ts) (rows : List (List Int)) (t : Nat × Nat) (as : AS) (ht : t ∈ ts) (h : knInv iT n ts 1 rows as) :
    ∃ as2, kTn (gT (gCons (gN 3) (gCons (gN 4) gNil)) (tE t) as) kBodyK = some (.nx, as2) ∧ knInv iT n ts 1 (meet rows t) as2 := by
  obtain ⟨hg, z3, z4, z5, zs, rfl, h3, h4, h5, rfl⟩ := h
  obtain ⟨h1, h2⟩ := hts t ht
  have l1 := goodR_len (good_getD hg h1)
  have l2 := goodR_len (good_getD hg h2)
  have l3 := goodR_len (good_both hg h1 h2)
  have i1 : t.1 < rows.length := by rw [hg.1]; exact h1
  have i2 : t.2 < rows.length := by rw [hg.1]; exact h2
  have e1 : fSSet (iT (nth rows t.1 [] ++ nth rows t.2 [])) = some (.obj (.ol ((both rows t).map .int))) := fSSet_tuple (by rw [List.length_append]; omega) (by unfold both at l3; omega)
  refine ⟨[.dur (.int (n : Int)), .dur (tsE ts), .own (.ol ((meet rows t).map iT)), .dur (.int (t.1 : Int)), .dur (.int (t.2 : Int)), .dur (iT (both rows t)), .un], ?_, good_meet hg h1 h2, _, _, _, _, rfl, isF_dur, isF_dur, isF_dur, rfl⟩
  simp [tE, h3, h4, kBodyK, fIx_mapL [] i1, fIx_mapL [] i2, fAdd_iT (a := nth rows t.1 []) (b := nth rows t.2 []) (by omega), e1, h5, fTup_ap, ixN_nat i1, ixN_nat i2, List.map_set, meet, iT_fold]
theorem fR1_nat {n : Nat} (h : n ≤ 1000000) : fR1 [.int (n : Int)] = some ((List.range n).map fun (i : Nat) => PyData.int (i : Int)) := by rw [fR1_of (by omega), rng_zero]
theorem kn_fold {n : Nat} {ts : List (Nat × Nat)} : ts.foldl meet (row0 n) = kn n ts := (rfl)
theorem D_known_ok {n : Nat} {ts : List (Nat × Nat)} (hn : n ≤ 60) (hts : okT n ts) : D_known_behind [.int (n : Int), tsE ts] = some (.val (.tuple ((kn n ts).map iT))) := by
  refine runP_ex rfl ?_
  rw [show startA 7 [PyData.int (n : Int), tsE ts] = [.dur (.int (n : Int)), .dur (tsE ts), .un, .un, .un, .un, .un] from rfl]
  unfold b_known_behind
  refine then_ex (as1 := [.dur (.int (n : Int)), .dur (tsE ts), .own (.ol ((row0 n).map iT)), .un, .un, .un, .un]) ?_ ?_
  · rw [sSet_ap, mLc1_map (List.range n) (fun i => .int (i : Int)) (fun i => iT [(i : Int)]) (by simp [fR1_nat (show n ≤ 1000000 by omega)]) rfl (fun x _ => by simp [fTup_ap, iT]) (by rw [List.length_range]; omega)]
    simp [row0]
  · obtain ⟨as', q, hg, z3, z4, z5, zs, rfl, _, _, _, rfl⟩ := forL_rl tE meet (knInv iT n ts 1) ts (row0 n) _ ⟨good_row0 n, .un, .un, .un, [.un], rfl, isF_un, isF_un, isF_un, rfl⟩ fun rows t as ht h => stepK hn hts rows t as ht h
    rw [kn_fold] at *
    refine then_ex (as1 := _) (by simp [tsE]; exact q) ?_
    exact ⟨[.dur (.int (n : Int)), .dur (tsE ts), .own (.ol ((kn n ts).map iT)), z3, z4, z5, .un], by simp⟩
theorem stepL {n : Nat} {ts : List (Nat × Nat)} (hn : n ≤ 60) (hts : okT n ts) (rows : List (List Int)) (t : Nat × Nat) (as : AS) (ht : t ∈ ts) (h : knInv iL n ts 2 rows as) :
    ∃ as2, kTn (gT (gCons (gN 3) (gCons (gN 4) gNil)) (tE t) as) kBodyL = some (.nx, as2) ∧ knInv iL n ts 2 (meet rows t) as2 := by
  obtain ⟨hg, z3, z4, z5, zs, rfl, h3, h4, h5, rfl⟩ := h
  obtain ⟨h1, h2⟩ := hts t ht
  have l1 := goodR_len (good_getD hg h1)
  have l2 := goodR_len (good_getD hg h2)
  have l3 := goodR_len (good_both hg h1 h2)
  have i1 : t.1 < rows.length := by rw [hg.1]; exact h1
  have i2 : t.2 < rows.length := by rw [hg.1]; exact h2
  have e1 : fSSet (iL (nth rows t.1 [] ++ nth rows t.2 [])) = some (.obj (.ol ((both rows t).map .int))) := fSSet_list (by rw [List.length_append]; omega) (by unfold both at l3; omega)
  refine ⟨[.dur (.int (n : Int)), .dur (tsE ts), .own (.ol ((meet rows t).map iL)), .dur (.int (t.1 : Int)), .dur (.int (t.2 : Int)), .dur (iL (both rows t)), .un, .un], ?_, good_meet hg h1 h2, _, _, _, _, rfl, isF_dur, isF_dur, isF_dur, rfl⟩
  simp [-List.map_append, tE, h3, h4, kBodyL, fIx_mapL [] i1, fIx_mapL [] i2, fAdd_iL (a := nth rows t.1 []) (b := nth rows t.2 []) (by omega), e1, h5, ixN_nat i1, ixN_nat i2, List.map_set, meet, iL_fold]
theorem D_lknown_ok {n : Nat} {ts : List (Nat × Nat)} (hn : n ≤ 60) (hts : okT n ts) : D_law_known [.int (n : Int), tsE ts] = some (.val (.tuple ((kn n ts).map iT))) := by
  refine runP_ex rfl ?_
  rw [show startA 8 [PyData.int (n : Int), tsE ts] = [.dur (.int (n : Int)), .dur (tsE ts), .un, .un, .un, .un, .un, .un] from rfl]
  unfold b_law_known
  refine then_ex (as1 := [.dur (.int (n : Int)), .dur (tsE ts), .own (.ol ((row0 n).map iL)), .un, .un, .un, .un, .un]) ?_ ?_
  · rw [sSet_ap, mLc1_map (List.range n) (fun i => .int (i : Int)) (fun i => iL [(i : Int)]) (by simp [fR1_nat (show n ≤ 1000000 by omega)]) rfl (fun x _ => by simp [fLst_ap, iL]) (by rw [List.length_range]; omega)]
    simp [row0]
  · obtain ⟨as', q, hg, z3, z4, z5, zs, rfl, _, _, _, rfl⟩ := forL_rl tE meet (knInv iL n ts 2) ts (row0 n) _ ⟨good_row0 n, .un, .un, .un, [.un, .un], rfl, isF_un, isF_un, isF_un, rfl⟩ fun rows t as ht h => stepL hn hts rows t as ht h
    rw [kn_fold] at *
    refine then_ex (as1 := _) (by simp [tsE]; exact q) ?_
    refine ⟨[.dur (.int (n : Int)), .dur (tsE ts), .own (.ol ((kn n ts).map iL)), z3, z4, z5, .un, .un], ?_⟩
    have e := mLc1_map (j := 7) (mi := m1 fSeq (mI 2)) (el := mV (mN fTuple (mCons (mI 7) (mPure [])))) (as := [.dur (.int (n : Int)), .dur (tsE ts), .own (.ol ((kn n ts).map iL)), z3, z4, z5, .un, .un]) (kn n ts) iL iT (by simp) rfl (fun x _ => by simp [iL, iT]) (by rw [hg.1]; omega)
    simp [e]
end Vl

-- M85b
set_option Elab.async false
set_option linter.all false
set_option maxRecDepth 100000
set_option maxHeartbeats 4000000
namespace Vl
open PySem L2
theorem eqe_rows : EqE 2 (fun rows : List (List Int) => PyData.tuple (rows.map iT)) := eqe_tup (eqe_tup eqe_int)
theorem D_all_ok {n : Nat} {ts : List (Nat × Nat)} (hn : n ≤ 60) (hts : okT n ts) : D_all_know [.int (n : Int), tsE ts] = some (.val (.bool ((kn n ts).all fun r => decide (r.length = n)))) := by
  refine runP_ex rfl ?_
  rw [show startA 3 [PyData.int (n : Int), tsE ts] = [.dur (.int (n : Int)), .dur (tsE ts), .un] from rfl]
  refine ⟨[.dur (.int (n : Int)), .dur (tsE ts), .un], ?_⟩
  have e := mLc1_map (j := 2) (mi := m1 fSeq (mV (mN D_known_behind (mCons (mD 0) (mCons (mD 1) (mPure [])))))) (el := m2 fEq (mS fLen (mCons (mI 2) (mPure []))) (mI 0)) (as := [.dur (.int (n : Int)), .dur (tsE ts), .un]) (kn n ts) iT (fun r => .bool (decide (r.length = n))) (by simp [D_known_ok hn hts]) rfl (fun x _ => by simp [iT]) (by rw [(good_kn hts).1]; omega)
  have e2 := fAll_of (ds := (kn n ts).map fun r => .bool (decide (r.length = n))) (bs := (kn n ts).map fun r => decide (r.length = n)) (by simp)
  unfold b_all_know
  simp [e, e2]
theorem full_iff {n : Nat} {rows : List (List Int)} (h : good n rows) : (rows.all fun r => decide (r.length = n)) = decide (rows = List.replicate n ((List.range n).map fun (i : Nat) => (i : Int))) := by
  rw [Bool.eq_iff_iff, List.all_eq_true, decide_eq_true_iff]
  constructor
  · intro k
    refine List.eq_replicate_iff.mpr ⟨h.1, fun r hr => ?_⟩
    have g := h.2 r hr
    have := strict_full r 0 n g.1 (fun x hx => by have := g.2 x hx; omega) (of_decide_eq_true (k r hr))
    rw [this]
    refine List.map_congr_left fun i _ => by omega
  · rintro rfl r hr
    rw [List.eq_of_mem_replicate hr]
    simp
theorem okT_drop {n i : Nat} {ts : List (Nat × Nat)} (h : okT n ts) : okT n (ts.take i ++ ts.drop (i + 1)) := fun t ht => by
  rcases List.mem_append.mp ht with ht | ht
  · exact h t (List.mem_of_mem_take ht)
  · exact h t (List.mem_of_mem_drop ht)
theorem okT_take {n i : Nat} {ts : List (Nat × Nat)} (h : okT n ts) : okT n (ts.take i) := fun t ht => h t (List.mem_of_mem_take ht)
theorem cut_ok {ts : List (Nat × Nat)} {i : Nat} (h : i < ts.length) (hl : ts.length ≤ 1000) :
    fSl (tsE ts) none (some (i : Int)) = some (.val (tsE (ts.take i))) ∧ fSl (tsE ts) (some ((i : Int) + 1)) none = some (.val (tsE (ts.drop (i + 1)))) ∧ fAdd (tsE (ts.take i)) (tsE (ts.drop (i + 1))) = some (.val (tsE (ts.take i ++ ts.drop (i + 1)))) := by
  unfold tsE
  refine ⟨by rw [fSl_take (by rw [List.length_map]; omega), List.map_take], ?_, ?_⟩
  · have := fSl_drop (ds := ts.map tE) (i := i + 1) (by rw [List.length_map]; omega)
    rw [Int.natCast_add] at this
    rw [List.map_drop]
    exact this
  · rw [fAdd_tuple (by rw [List.length_map, List.length_map, List.length_take, List.length_drop]; omega), List.map_append]
def needl (n : Nat) (ts : List (Nat × Nat)) : List Nat := (List.range ts.length).filter fun i => decide (kn n (ts.take i ++ ts.drop (i + 1)) = kn n ts)
def nE (l : List Nat) : PD := .tuple (l.map fun (i : Nat) => PyData.int (i : Int))
theorem fLen_tsE {ts : List (Nat × Nat)} : fLen [tsE ts] = some (.int (ts.length : Int)) := by unfold tsE; rw [fLen_tuple, List.length_map]
theorem fEq_rows (a b : List (List Int)) : fEq (.tuple (a.map iT)) (.tuple (b.map iT)) = some (.bool (decide (a = b))) := fEq_of eqe_rows (by decide) a b
theorem D_need_ok {n : Nat} {ts : List (Nat × Nat)} (hn : n ≤ 60) (hl : ts.length ≤ 1000) (hts : okT n ts) : D_needless_talks [.int (n : Int), tsE ts] = some (.val (nE (needl n ts))) := by
  refine runP_ex rfl ?_
  rw [show startA 4 [PyData.int (n : Int), tsE ts] = [.dur (.int (n : Int)), .dur (tsE ts), .un, .un] from rfl]
  unfold b_needless_talks
  refine then_ex (as1 := [.dur (.int (n : Int)), .dur (tsE ts), .dur (.tuple ((kn n ts).map iT)), .un]) (by simp [D_known_ok hn hts]) ?_
  refine ⟨[.dur (.int (n : Int)), .dur (tsE ts), .dur (.tuple ((kn n ts).map iT)), .un], ?_⟩
  rw [sRet_ap, mN_ap, mCons_ap, mV_ap, mLc1_eq (List.range ts.length) (fun i => .int (i : Int)) (fun i => decide (kn n (ts.take i ++ ts.drop (i + 1)) = kn n ts)) (fun i => .int (i : Int)) (by simp [fLen_tsE, fR1_nat (show ts.length ≤ 1000000 by omega)]) rfl ?_ (fun i _ _ => by simp) (by rw [List.length_range]; omega)]
  · simp [nE, needl]
  · intro i hi
    rw [List.mem_range] at hi
    obtain ⟨c1, c2, c3⟩ := cut_ok hi hl
    simp [c1, c2, c3, D_known_ok hn (okT_drop (i := i) hts), fEq_rows]
def firstK (n : Nat) (ts : List (Nat × Nat)) (m : Nat) : List Nat := (List.range (ts.length + 1)).filter fun i => decide ((nth (kn n (ts.take i)) m []).length = n)
def firstV (l : List Nat) : PD := match l with
  | [] => .none
  | i :: _ => .int (i : Int)
theorem take_ok2 {ts : List (Nat × Nat)} {i : Nat} (h : i ≤ ts.length) : fSl (tsE ts) none (some (i : Int)) = some (.val (tsE (ts.take i))) := by
  unfold tsE
  rw [fSl_take (by rw [List.length_map]; omega), List.map_take]
theorem D_first_ok {n m : Nat} {ts : List (Nat × Nat)} (hn : n ≤ 60) (hm : m < n) (hl : ts.length ≤ 1000) (hts : okT n ts) : D_first_known [.int (n : Int), tsE ts, .int (m : Int)] = some (.val (firstV (firstK n ts m))) := by
  refine runP_ex rfl ?_
  rw [show startA 4 [PyData.int (n : Int), tsE ts, .int (m : Int)] = [.dur (.int (n : Int)), .dur (tsE ts), .dur (.int (m : Int)), .un] from rfl]
  unfold b_first_known
  obtain ⟨as', q, hq⟩ := forL_find (g := gN 3) (b := sIf (m2b fEq (mS fLen (mCons (mV (m2 fIx (mV (mN D_known_behind (mCons (mD 0) (mCons (mV (mSl (mI 1) (mPure none) (mPart (mI 3)))) (mPure []))))) (mI 2))) (mPure []))) (mI 0)) (sRet (mF (mD 3))) sNx)
    (fun (i : Nat) => PyData.int (i : Int)) [.dur (.int (n : Int)), .dur (tsE ts), .dur (.int (m : Int)), .un] (fun i => if (nth (kn n (ts.take i)) m []).length = n then some (.val (.int (i : Int))) else none) (fun i => [.dur (.int (n : Int)), .dur (tsE ts), .dur (.int (m : Int)), .dur (.int (i : Int))]) (List.range (ts.length + 1)) _ (.inl rfl) (by
      intro i as0 hi ha
      have e : ∃ z, as0 = [.dur (.int (n : Int)), .dur (tsE ts), .dur (.int (m : Int)), z] ∧ isF z = true := by
        rcases ha with rfl | ⟨y, rfl⟩
        · exact ⟨_, rfl, isF_un⟩
        · exact ⟨_, rfl, isF_dur⟩
      obtain ⟨z, rfl, hz⟩ := e
      refine ⟨[.dur (.int (n : Int)), .dur (tsE ts), .dur (.int (m : Int)), .dur (.int (i : Int))], by simp [hz], ?_⟩
      rw [List.mem_range] at hi
      have hlm : m < (kn n (ts.take i)).length := by rw [(good_kn (okT_take hts)).1]; exact hm
      have el : fLen [iT (nth (kn n (ts.take i)) m [])] = some (.int ((nth (kn n (ts.take i)) m []).length : Int)) := by unfold iT; rw [fLen_tuple, List.length_map]
      by_cases hx : (nth (kn n (ts.take i)) m []).length = n
      · simp [take_ok2 (show i ≤ ts.length by omega), D_known_ok hn (okT_take (i := i) hts), fIx_mapT [] hlm, el, hx]
      · simp [take_ok2 (show i ≤ ts.length by omega), D_known_ok hn (okT_take (i := i) hts), fIx_mapT [] hlm, el, hx])
  have er : fR1 [.int ((ts.length : Int) + 1)] = some ((List.range (ts.length + 1)).map fun (i : Nat) => PyData.int (i : Int)) := fR1_nat (show ts.length + 1 ≤ 1000000 by omega)
  have ef : (List.range (ts.length + 1)).findSome? (fun i => if (nth (kn n (ts.take i)) m []).length = n then some (Res.val (.int (i : Int))) else none) = (firstK n ts m).head?.map fun (i : Nat) => Res.val (.int (i : Int)) := by
    unfold firstK
    generalize List.range (ts.length + 1) = l
    induction l with
    | nil => rfl
    | cons x l ih =>
      rw [List.findSome?_cons]
      by_cases hx : (nth (kn n (ts.take x)) m []).length = n
      · simp [hx]
      · simp [hx, ih]
  rw [ef] at q
  cases hk : firstK n ts m with
  | nil =>
    rw [hk] at q
    refine then_ex (as1 := as') (by simp [fLen_tsE, er]; exact q) ⟨as', by simp [firstV]⟩
  | cons i l =>
    rw [hk] at q
    refine ⟨as', ?_⟩
    simp [fLen_tsE, er]
    rw [q]
    simp [firstV]
theorem D_fewest_ok {n : Nat} (h : 1 ≤ n) (hn : n ≤ 60) : D_fewest_talks [.int (n : Int)] = some (.val (.int (if 3 < n then 2 * n - 4 else if n = 3 then 3 else if n = 2 then 1 else 0))) := by
  refine runP_ex rfl ⟨[.dur (.int (n : Int))], ?_⟩
  rw [show startA 1 [PyData.int (n : Int)] = [.dur (.int (n : Int))] from rfl]
  unfold b_fewest_talks
  by_cases h3 : 3 < n
  · simp [show (3 : Int) < n by omega, show fMulA (.int 2) (.int (n : Int)) = _ from fMul_int (mulOk_l (by decide)), h3]
  · rcases (by omega : n = 1 ∨ n = 2 ∨ n = 3) with rfl | rfl | rfl <;> rfl
end Vl

-- M85c
set_option Elab.async false
set_option linter.all false
set_option maxRecDepth 100000
set_option maxHeartbeats 4000000
namespace Vl
open PySem L2
theorem maxL_eq {a b : List Int} (ha : a ≠ []) (hb : b ≠ []) (h1 : ∀ x ∈ a, ∃ y ∈ b, x ≤ y) (h2 : ∀ y ∈ b, ∃ x ∈ a, y ≤ x) : maxL a = maxL b := by
  obtain ⟨a1, a2⟩ := maxL_spec a ha
  obtain ⟨b1, b2⟩ := maxL_spec b hb
  obtain ⟨y, hy, q⟩ := h1 _ a1
  obtain ⟨x, hx, q2⟩ := h2 _ b1
  have := a2 x hx
  have := b2 y hy
  omega
/-! ### the talks told -/
def gossip (n : Nat) : List (Nat × Nat) := (List.range' 4 (n - 4)).map fun k => (0, k)
def toldP (n : Nat) : List (Nat × Nat) := if n < 4 then (if n = 3 then [(0, 1), (0, 2), (0, 1)] else if n = 2 then [(0, 1)] else []) else gossip n ++ [(0, 1), (2, 3), (0, 2), (1, 3)] ++ gossip n
def cyc : PD := tsE [(0, 1), (2, 3), (0, 2), (1, 3)]
theorem told_tail {n : Nat} (h : 4 ≤ n) (hn : n ≤ 60) (m : MS) (hm : m = (sThen (sSet 1 (mN fTuple (mCons (mV (mLc [2] (mR fR2 (mCons (mPure (.int 4)) (mCons (mI 0) (mPure [])))) (gN 2) (mPure true) (mV (mN fTup (mCons (mPure (.int 0)) (mCons (mD 2) (mPure []))))))) (mPure []))))
  (sRet (m2 fAdd (mV (m2 fAdd (mI 1) (mV (mN fTup (mCons (mV (mN fTup (mCons (mPure (.int 0)) (mCons (mPure (.int 1)) (mPure []))))) (mCons (mV (mN fTup (mCons (mPure (.int 2)) (mCons (mPure (.int 3)) (mPure []))))) (mCons (mV (mN fTup (mCons (mPure (.int 0)) (mCons (mPure (.int 2)) (mPure []))))) (mCons (mV (mN fTup (mCons (mPure (.int 1)) (mCons (mPure (.int 3)) (mPure []))))) (mPure []))))))))) (mI 1))))) :
    ∃ as', m [.dur (.int (n : Int)), .un, .un] = some (.rt (.val (tsE (toldP n))), as') := by
  subst hm
  refine then_ex (as1 := [.dur (.int (n : Int)), .dur (tsE (gossip n)), .un]) ?_ ⟨[.dur (.int (n : Int)), .dur (tsE (gossip n)), .un], ?_⟩
  · have e : fR2 [.int 4, .int (n : Int)] = some ((List.range' 4 (n - 4)).map fun (i : Nat) => PyData.int (i : Int)) := fR2_of (a := 4) (by decide) (by omega)
    have := mLc1_map (j := 2) (mi := mR fR2 (mCons (mPure (.int 4)) (mCons (mI 0) (mPure [])))) (el := mV (mN fTup (mCons (mPure (.int 0)) (mCons (mD 2) (mPure []))))) (as := [.dur (.int (n : Int)), .un, .un]) (List.range' 4 (n - 4)) (fun (i : Nat) => .int (i : Int)) (fun k => tE (0, k)) (by simp [e]) rfl (fun x _ => by simp [fTup_ap, tE]) (by simp; omega)
    simp [this, tsE, gossip]
  · have l : (gossip n).length = n - 4 := by simp [gossip]
    have a1 : fAdd (tsE (gossip n)) cyc = some (.val (tsE (gossip n ++ [(0, 1), (2, 3), (0, 2), (1, 3)]))) := by
      unfold cyc tsE
      rw [fAdd_tuple (by simp; omega), List.map_append]
    have a2 : fAdd (tsE (gossip n ++ [(0, 1), (2, 3), (0, 2), (1, 3)])) (tsE (gossip n)) = some (.val (tsE (toldP n))) := by
      unfold toldP tsE
      rw [fAdd_tuple (by simp; omega), ← List.map_append, if_neg (by omega)]
    have ec : PyData.tuple [.tuple [.int 0, .int 1], .tuple [.int 2, .int 3], .tuple [.int 0, .int 2], .tuple [.int 1, .int 3]] = cyc := rfl
    simp [fTup_ap, ec, a1, a2]
theorem D_told_ok {n : Nat} (h : 1 ≤ n) (hn : n ≤ 60) : D_told_talks [.int (n : Int)] = some (.val (tsE (toldP n))) := by
  refine runP_ex rfl ?_
  rw [show startA 3 [PyData.int (n : Int)] = [.dur (.int (n : Int)), .un, .un] from rfl]
  unfold b_told_talks
  by_cases h4 : n < 4
  · rcases (by omega : n = 1 ∨ n = 2 ∨ n = 3) with rfl | rfl | rfl
    · exact ⟨_, rfl⟩
    · exact ⟨_, rfl⟩
    · exact ⟨_, rfl⟩
  · refine then_ex (as1 := [.dur (.int (n : Int)), .un, .un]) ?_ (told_tail (by omega) hn _ rfl)
    simp [show ¬ (n : Int) < 4 by omega]
theorem D_ltold_ok {n : Nat} (h : 1 ≤ n) (hn : n ≤ 60) : D_law_told [.int (n : Int)] = some (.val (tsE (toldP n))) := by
  refine runP_ex rfl ?_
  rw [show startA 3 [PyData.int (n : Int)] = [.dur (.int (n : Int)), .un, .un] from rfl]
  unfold b_law_told
  by_cases h4 : n < 4
  · rcases (by omega : n = 1 ∨ n = 2 ∨ n = 3) with rfl | rfl | rfl
    · exact ⟨_, rfl⟩
    · exact ⟨_, rfl⟩
    · exact ⟨_, rfl⟩
  · refine then_ex (as1 := [.dur (.int (n : Int)), .un, .un]) ?_ (told_tail (by omega) hn _ rfl)
    simp [show ¬ (n : Int) < 4 by omega]
theorem told_len {n : Nat} (h : 1 ≤ n) : ((toldP n).length : Int) = (if 3 < n then 2 * (n : Int) - 4 else if n = 3 then 3 else if n = 2 then 1 else 0 : Int) := by
  unfold toldP gossip
  by_cases h4 : n < 4
  · rcases (by omega : n = 1 ∨ n = 2 ∨ n = 3) with rfl | rfl | rfl <;> rfl
  · rw [if_neg h4, if_pos (by omega)]
    simp
    omega
def fine (n : Nat) (ts : List (Nat × Nat)) : Prop := ∀ t ∈ ts, t.1 < n ∧ t.2 < n ∧ t.1 ≠ t.2
theorem fine_ok {n : Nat} {ts : List (Nat × Nat)} (h : fine n ts) : okT n ts := fun t ht => ⟨(h t ht).1, (h t ht).2.1⟩
theorem told_fine {n : Nat} (h : 1 ≤ n) : fine n (toldP n) := by
  unfold toldP
  by_cases h4 : n < 4
  · rcases (by omega : n = 1 ∨ n = 2 ∨ n = 3) with rfl | rfl | rfl <;> (unfold fine; decide)
  · rw [if_neg h4]
    have hg : fine n (gossip n) := by
      intro t ht
      obtain ⟨k, hk, rfl⟩ := List.mem_map.mp ht
      rw [List.mem_range'_1] at hk
      exact ⟨by show 0 < n; omega, by show k < n; omega, by show 0 ≠ k; omega⟩
    intro t ht
    rcases List.mem_append.mp ht with ht | ht
    · rcases List.mem_append.mp ht with ht | ht
      · exact hg t ht
      · simp at ht
        rcases ht with rfl | rfl | rfl | rfl <;> simp <;> omega
    · exact hg t ht
/-! ### the rounds -/
def share (t u : Nat × Nat) : Bool := decide (t.1 = u.1) || decide (t.1 = u.2) || decide (t.2 = u.1) || decide (t.2 = u.2)
def hasM (m : Nat) (u : Nat × Nat) : Bool := decide (u.1 = m) || decide (u.2 = m)
abbrev Done := List ((Nat × Nat) × Int)
def lastOf (done : Done) (m : Nat) : Int := ((done.filter fun p => hasM m p.1).map (·.2)).foldl max 0
def turnOf (done : Done) (t : Nat × Nat) : Int := 1 + ((done.filter fun p => share t p.1).map (·.2)).foldl max 0
def roundT (done : Done) (t : Nat × Nat) : Done := done ++ [(t, turnOf done t)]
def topT (done : Done) : Int := (done.map (·.2)).foldl max 0
theorem foldl_max_filter {done : Done} {f g h : (Nat × Nat) × Int → Bool} (e : ∀ p, h p = (f p || g p)) : ((done.filter h).map (·.2)).foldl max 0 = max (((done.filter f).map (·.2)).foldl max 0) (((done.filter g).map (·.2)).foldl max 0) := by
  obtain ⟨a1, a2, a3⟩ := foldl_max ((done.filter h).map (·.2)) 0
  obtain ⟨b1, b2, b3⟩ := foldl_max ((done.filter f).map (·.2)) 0
  obtain ⟨c1, c2, c3⟩ := foldl_max ((done.filter g).map (·.2)) 0
  have u1 : ((done.filter f).map (·.2)).foldl max 0 ≤ ((done.filter h).map (·.2)).foldl max 0 := by
    rcases b3 with b3 | b3
    · omega
    · obtain ⟨p, hp, q⟩ := List.mem_map.mp b3
      rw [List.mem_filter] at hp
      rw [← q]
      exact a2 _ (List.mem_map.mpr ⟨p, List.mem_filter.mpr ⟨hp.1, by rw [e, hp.2]; rfl⟩, rfl⟩)
  have u2 : ((done.filter g).map (·.2)).foldl max 0 ≤ ((done.filter h).map (·.2)).foldl max 0 := by
    rcases c3 with c3 | c3
    · omega
    · obtain ⟨p, hp, q⟩ := List.mem_map.mp c3
      rw [List.mem_filter] at hp
      rw [← q]
      exact a2 _ (List.mem_map.mpr ⟨p, List.mem_filter.mpr ⟨hp.1, by rw [e, hp.2]; simp⟩, rfl⟩)
  rcases a3 with a3 | a3
  · omega
  · obtain ⟨p, hp, q⟩ := List.mem_map.mp a3
    rw [List.mem_filter, e, Bool.or_eq_true] at hp
    rcases hp.2 with k | k
    · have := b2 _ (List.mem_map.mpr ⟨p, List.mem_filter.mpr ⟨hp.1, k⟩, rfl⟩)
      omega
    · have := c2 _ (List.mem_map.mpr ⟨p, List.mem_filter.mpr ⟨hp.1, k⟩, rfl⟩)
      omega
theorem turn_last {done : Done} {t : Nat × Nat} : turnOf done t = 1 + max (lastOf done t.1) (lastOf done t.2) := by
  unfold turnOf lastOf
  rw [foldl_max_filter (f := fun p => hasM t.1 p.1) (g := fun p => hasM t.2 p.1)]
  intro p
  unfold share hasM
  rw [Bool.eq_iff_iff]
  simp
  omega
theorem last_round {done : Done} {t : Nat × Nat} {m : Nat} : lastOf (roundT done t) m = if hasM m t = true then max (lastOf done m) (turnOf done t) else lastOf done m := by
  unfold lastOf roundT
  rw [List.filter_append, List.map_append, List.foldl_append]
  by_cases h : hasM m t = true
  · simp [h]
  · simp [h]
theorem turn_pos {done : Done} {t : Nat × Nat} : lastOf done t.1 ≤ turnOf done t ∧ lastOf done t.2 ≤ turnOf done t ∧ 0 ≤ turnOf done t := by
  rw [turn_last]
  have := (foldl_max ((done.filter fun p => hasM t.1 p.1).map (·.2)) 0).1
  unfold lastOf
  omega
theorem last_round2 {done : Done} {t : Nat × Nat} {m : Nat} : lastOf (roundT done t) m = if hasM m t = true then turnOf done t else lastOf done m := by
  rw [last_round]
  by_cases h : hasM m t = true
  · rw [if_pos h, if_pos h]
    obtain ⟨h1, h2, _⟩ := turn_pos (done := done) (t := t)
    unfold hasM at h
    simp at h
    rcases h with rfl | rfl <;> omega
  · rw [if_neg h, if_neg h]
theorem last_top {done : Done} {m : Nat} : lastOf done m ≤ topT done := by
  unfold lastOf topT
  obtain ⟨b1, b2, b3⟩ := foldl_max ((done.filter fun p => hasM m p.1).map (·.2)) 0
  obtain ⟨a1, a2, a3⟩ := foldl_max (done.map (·.2)) 0
  rcases b3 with b3 | b3
  · omega
  · obtain ⟨p, hp, q⟩ := List.mem_map.mp b3
    rw [List.mem_filter] at hp
    rw [← q]
    exact a2 _ (List.mem_map.mpr ⟨p, hp.1, rfl⟩)
/-- the dict of the last turns -/
def lastD (done : Done) (kvs : List (Key × PD)) : Prop := (∀ q ∈ kvs, ∃ m : Nat, q.1 = .inl (m : Int) ∧ ∃ p ∈ done, hasM m p.1 = true) ∧ (∀ m : Nat, (∃ p ∈ done, hasM m p.1 = true) → valP kvs (.inl (m : Int)) = some (.int (lastOf done m))) ∧ kvs.length ≤ 2 * done.length
theorem lastD_get {done : Done} {kvs : List (Key × PD)} (h : lastD done kvs) (m : Nat) : (valP kvs (.inl (m : Int))).getD (.int 0) = .int (lastOf done m) := by
  by_cases k : ∃ p ∈ done, hasM m p.1 = true
  · rw [h.2.1 m k]; rfl
  · have e : valP kvs (.inl (m : Int)) = none := valP_none.mpr fun q hq e => by
      obtain ⟨m', e1, e2⟩ := h.1 q hq
      rw [e1] at e
      have : m' = m := by injection e with e; omega
      subst this
      exact k e2
    have e2 : done.filter (fun p => hasM m p.1) = [] := List.filter_eq_nil_iff.mpr fun p hp hm => k ⟨p, hp, hm⟩
    rw [e]
    unfold lastOf
    rw [e2]; rfl
theorem lastD_put {done : Done} {kvs : List (Key × PD)} {t : Nat × Nat} (h : lastD done kvs) : lastD (roundT done t) (putP (putP kvs (.inl (t.1 : Int)) (.int (turnOf done t))) (.inl (t.2 : Int)) (.int (turnOf done t))) := by
  refine ⟨fun q hq => ?_, fun m hm => ?_, ?_⟩
  · have hin : ∀ m, hasM m t = true → ∃ p ∈ roundT done t, hasM m p.1 = true := fun m hm => ⟨(t, turnOf done t), by simp [roundT], hm⟩
    rcases keys_put hq with e | ⟨q', hq', e⟩
    · exact ⟨t.2, e, hin _ (by simp [hasM])⟩
    · rcases keys_put hq' with e2 | ⟨q2, hq2, e2⟩
      · exact ⟨t.1, by rw [← e, e2], hin _ (by simp [hasM])⟩
      · obtain ⟨m, e3, p, hp, e4⟩ := h.1 q2 hq2
        exact ⟨m, by rw [← e, ← e2, e3], p, by simp [roundT, hp], e4⟩
  · rw [valP_put, valP_put, last_round2]
    by_cases h2 : m = t.2
    · subst h2
      rw [if_pos rfl, if_pos (by simp [hasM])]
    · rw [if_neg (fun e => h2 (by injection e with e; omega))]
      by_cases h1 : m = t.1
      · subst h1
        rw [if_pos rfl, if_pos (by simp [hasM])]
      · rw [if_neg (fun e => h1 (by injection e with e; omega))]
        have hm2 : ¬ hasM m t = true := by simp [hasM]; omega
        rw [if_neg hm2]
        refine h.2.1 m ?_
        obtain ⟨p, hp, e⟩ := hm
        unfold roundT at hp
        rcases List.mem_append.mp hp with hp | hp
        · exact ⟨p, hp, e⟩
        · rw [List.mem_singleton] at hp
          subst hp
          exact absurd e hm2
  · have e1 := putP_len (k := .inl (t.2 : Int)) (d := .int (turnOf done t)) (l := putP kvs (.inl (t.1 : Int)) (.int (turnOf done t)))
    have e2 := putP_len (k := .inl (t.1 : Int)) (d := .int (turnOf done t)) (l := kvs)
    have := h.2.2
    unfold roundT
    rw [List.length_append, List.length_singleton]
    omega
end Vl

-- M85d
set_option Elab.async false
set_option linter.all false
set_option maxRecDepth 100000
set_option maxHeartbeats 4000000
namespace Vl
open PySem L2
def rBody : MS := (sThen (sSet 4 (m2 fAdd (mPure (.int 1)) (mS fMax2 (mCons (mGet2 1 (mD 2) (mPure (.int 0))) (mCons (mGet2 1 (mD 3) (mPure (.int 0))) (mPure []))))))
  (sAsg (gT (gCons (gDSet 1 (mD 2)) (gCons (gDSet 1 (mD 3)) gNil))) (mV (mN fTup (mCons (mD 4) (mCons (mD 4) (mPure [])))))))
def rInv' (ts : List (Nat × Nat)) (i : Nat) (done : Done) (as : AS) : Prop := done.length = i ∧ ∃ kvs z2 z3 z4, as = [.dur (tsE ts), .own (.od kvs), z2, z3, z4, .un] ∧ lastD done kvs ∧ isF z2 = true ∧ isF z3 = true ∧ isF z4 = true
theorem rStep {ts : List (Nat × Nat)} (hl : ts.length ≤ 1000) (i : Nat) (done : Done) (t : Nat × Nat) (as : AS) (hi : i < ts.length) (h : rInv' ts i done as) :
    ∃ as2, kTn (gT (gCons (gN 2) (gCons (gN 3) gNil)) (tE t) as) rBody = some (.nx, as2) ∧ rInv' ts (i + 1) (roundT done t) as2 := by
  obtain ⟨hd, kvs, z2, z3, z4, rfl, hk, h2, h3, h4⟩ := h
  have l0 := hk.2.2
  have l1 := putP_len (k := .inl (t.1 : Int)) (d := .int (turnOf done t)) (l := kvs)
  refine ⟨[.dur (tsE ts), .own (.od (putP (putP kvs (.inl (t.1 : Int)) (.int (turnOf done t))) (.inl (t.2 : Int)) (.int (turnOf done t)))), .dur (.int (t.1 : Int)), .dur (.int (t.2 : Int)), .dur (.int (turnOf done t)), .un], ?_, by simp [roundT, hd], _, _, _, _, rfl, lastD_put hk, isF_dur, isF_dur, isF_dur⟩
  simp [rBody, tE, h2, h3, h4, lastD_get hk, ← turn_last, fTup_ap, kE3_some (show kvs.length < 16777216 by omega), kE3_some (show (putP kvs (.inl (t.1 : Int)) (.int (turnOf done t))).length < 16777216 by omega)]
theorem vals_top {done : Done} {kvs : List (Key × PD)} (h : lastD done kvs) : ∃ vs : List Int, (kvs.map fun q => (valP kvs q.1).getD .none) = vs.map .int ∧ vs.foldl max 0 = topT done := by
  refine ⟨kvs.map fun q => match q.1 with | .inl m => lastOf done m.toNat | .inr _ => 0, ?_, ?_⟩
  · rw [List.map_map]
    refine List.map_congr_left fun q hq => ?_
    obtain ⟨m, e, k⟩ := h.1 q hq
    show _ = PyData.int (match q.1 with | .inl m => lastOf done m.toNat | .inr _ => 0)
    rw [e, h.2.1 m k]; rfl
  · obtain ⟨a1, a2, a3⟩ := foldl_max (kvs.map fun q => match q.1 with | .inl m => lastOf done m.toNat | .inr _ => 0) 0
    obtain ⟨b1, b2, b3⟩ := foldl_max (done.map (·.2)) 0
    have u1 : (kvs.map fun q => match q.1 with | .inl m => lastOf done m.toNat | .inr _ => 0).foldl max 0 ≤ topT done := by
      rcases a3 with a3 | a3
      · unfold topT; omega
      · obtain ⟨q, hq, e⟩ := List.mem_map.mp a3
        obtain ⟨m, em, k⟩ := h.1 q hq
        rw [em] at e
        rw [← e]
        exact last_top
    have u2 : topT done ≤ (kvs.map fun q => match q.1 with | .inl m => lastOf done m.toNat | .inr _ => 0).foldl max 0 := by
      unfold topT
      rcases b3 with b3 | b3
      · omega
      · obtain ⟨p, hp, e⟩ := List.mem_map.mp b3
        have hm : ∃ p' ∈ done, hasM p.1.1 p'.1 = true := ⟨p, hp, by simp [hasM]⟩
        have hv := h.2.1 _ hm
        have hkey : ∃ q ∈ kvs, q.1 = .inl (p.1.1 : Int) := by
          refine Classical.byContradiction fun hn => ?_
          have : valP kvs (.inl (p.1.1 : Int)) = none := valP_none.mpr fun q hq e => hn ⟨q, hq, e⟩
          rw [this] at hv; cases hv
        obtain ⟨q, hq, eq⟩ := hkey
        have h1 := a2 (lastOf done p.1.1) (List.mem_map.mpr ⟨q, hq, by rw [eq]; simp⟩)
        have h2 : p.2 ≤ lastOf done p.1.1 := by
          unfold lastOf
          exact (foldl_max _ 0).2.1 _ (List.mem_map.mpr ⟨p, List.mem_filter.mpr ⟨hp, by simp [hasM]⟩, rfl⟩)
        rw [← e]; omega
    omega
theorem D_rounds_ok {ts : List (Nat × Nat)} (hl : ts.length ≤ 1000) : D_rounds_of_talks [tsE ts] = some (.val (.int (topT (ts.foldl roundT [])))) := by
  refine runP_ex rfl ?_
  rw [show startA 6 [tsE ts] = [.dur (tsE ts), .un, .un, .un, .un, .un] from rfl]
  unfold b_rounds_of_talks
  refine then_ex (as1 := [.dur (tsE ts), .own (.od []), .un, .un, .un, .un]) (by simp) ?_
  obtain ⟨as', q, hd, kvs, z2, z3, z4, rfl, hk, _⟩ := forL_rn (b := rBody) tE roundT (rInv' ts) ts.length ts 0 [] [.dur (tsE ts), .own (.od []), .un, .un, .un, .un] (by omega) ⟨rfl, [], .un, .un, .un, rfl, ⟨nofun, fun m ⟨p, hp, _⟩ => absurd hp List.not_mem_nil, Nat.zero_le _⟩, isF_un, isF_un, isF_un⟩ fun i s x as hi hx h => rStep hl i s x as hi h
  refine then_ex (as1 := _) (by simp [tsE]; exact q) ⟨[.dur (tsE ts), .own (.od kvs), z2, z3, z4, .un], ?_⟩
  have l0 := hk.2.2
  obtain ⟨vs, e1, e2⟩ := vals_top hk
  have e := mLcD1_map (i := 1) (j := 5) (el := mIx 1 (mD 5)) (as := [.dur (tsE ts), .own (.od kvs), z2, z3, z4, .un]) (kvs := kvs) (fun k => (valP kvs k).getD .none) rfl (by decide) rfl (fun q hq => by
    obtain ⟨m, em, k⟩ := hk.1 q hq
    have : kOf (ofK q.1) = some q.1 := by rw [em]; rfl
    obtain ⟨d, ed⟩ := valP_mem hq
    simp [this, ed]) (by omega)
  rw [e1] at e
  have ea : fAdd (.list [.int 0]) (.list (vs.map .int)) = some (.obj (.ol ((0 :: vs).map .int))) := fAdd_list (a := [.int 0]) (by have := congrArg List.length e1; simp at this; simp; omega)
  have em : fMaxI [.list ((0 :: vs).map .int)] = some (.int (topT (ts.foldl roundT []))) := by rw [fMaxI_of rfl (by simp), maxL_cons0, e2]
  simp only [List.map_cons] at ea em
  simp [e, fLst_ap, ea, em]
/-! ### the law's rounds -/
theorem share_set {t u : Nat × Nat} (ht : t.1 ≠ t.2) (hu : u.1 ≠ u.2) : decide (((usort [(t.1 : Int), (t.2 : Int), (u.1 : Int), (u.2 : Int)]).length : Int) < 4) = share t u := by
  have len3 : ∀ a b c : Int, (usort [a, b, c]).length ≤ 3 := fun a b c => usort_len [a, b, c]
  unfold share
  by_cases h1 : t.1 = u.1
  · have ee : usort [(t.1 : Int), (t.2 : Int), (u.1 : Int), (u.2 : Int)] = usort [(t.1 : Int), (t.2 : Int), (u.2 : Int)] := usort_congr fun z => by rw [h1]; simp; omega
    have := len3 (t.1 : Int) (t.2 : Int) (u.2 : Int)
    rw [ee, decide_eq_true (by omega)]; simp [h1]
  by_cases h2 : t.1 = u.2
  · have ee : usort [(t.1 : Int), (t.2 : Int), (u.1 : Int), (u.2 : Int)] = usort [(t.1 : Int), (t.2 : Int), (u.1 : Int)] := usort_congr fun z => by rw [h2]; simp; omega
    have := len3 (t.1 : Int) (t.2 : Int) (u.1 : Int)
    rw [ee, decide_eq_true (by omega)]; simp [h2]
  by_cases h3 : t.2 = u.1
  · have ee : usort [(t.1 : Int), (t.2 : Int), (u.1 : Int), (u.2 : Int)] = usort [(t.1 : Int), (t.2 : Int), (u.2 : Int)] := usort_congr fun z => by rw [h3]; simp
    have := len3 (t.1 : Int) (t.2 : Int) (u.2 : Int)
    rw [ee, decide_eq_true (by omega)]; simp [h3]
  by_cases h4 : t.2 = u.2
  · have ee : usort [(t.1 : Int), (t.2 : Int), (u.1 : Int), (u.2 : Int)] = usort [(t.1 : Int), (t.2 : Int), (u.1 : Int)] := usort_congr fun z => by rw [h4]; simp; omega
    have := len3 (t.1 : Int) (t.2 : Int) (u.1 : Int)
    rw [ee, decide_eq_true (by omega)]; simp [h4]
  · have : (usort [(t.1 : Int), (t.2 : Int), (u.1 : Int), (u.2 : Int)]).length = 4 := usort_nodup (by simp; omega)
    simp [h1, h2, h3, h4, this]
def lrBody : MS := (sThen (sSet 3 (mLc [4] (mR fR1 (mCons (mI 2) (mPure []))) (gN 4) (m2b (fInt cLt) (m1 fLSet (mV (m2 fAdd (mV (m2 fIx (mI 0) (mI 2))) (mV (m2 fIx (mI 0) (mI 4)))))) (mPure (.int 4))) (mV (m2 fIx (mI 1) (mI 4)))))
  (sDrop (mMth 1 fAppend (mCons (mV (m2 fAdd (mPure (.int 1)) (mS fMaxI (mCons (mV (m2 fAdd (mI 3) (mV (mN fLst (mCons (mPure (.int 0)) (mPure [])))))) (mPure []))))) (mPure [])))))
def doneOf (ts : List (Nat × Nat)) (i : Nat) : Done := (ts.take i).foldl roundT []
theorem doneOf_succ {ts : List (Nat × Nat)} {i : Nat} (h : i < ts.length) : doneOf ts (i + 1) = roundT (doneOf ts i) (nth ts i (0, 0)) := by
  unfold doneOf
  rw [List.take_add_one, List.getElem?_eq_getElem h, nth_eq _ h, List.foldl_append]; rfl
theorem round_fst : ∀ (ts : List (Nat × Nat)) (d : Done), (ts.foldl roundT d).map (·.1) = d.map (·.1) ++ ts
  | [], d => by simp
  | t :: ts, d => by rw [List.foldl_cons, round_fst ts]; simp [roundT]
theorem doneOf_fst {ts : List (Nat × Nat)} {i : Nat} : (doneOf ts i).map (·.1) = ts.take i := by
  unfold doneOf
  rw [round_fst]; rfl
theorem doneOf_len {ts : List (Nat × Nat)} {i : Nat} (h : i ≤ ts.length) : (doneOf ts i).length = i := by
  have := congrArg List.length (doneOf_fst (ts := ts) (i := i))
  rw [List.length_map, List.length_take] at this
  omega
theorem doneOf_nth {ts : List (Nat × Nat)} {i j : Nat} (h : i ≤ ts.length) (hj : j < i) : nth ts j (0, 0) = (nth (doneOf ts i) j ((0, 0), 0)).1 := by
  have l := doneOf_len h
  rw [nth_eq _ (by omega), nth_eq _ (by omega)]
  have := congrArg (fun z => z[j]?) (doneOf_fst (ts := ts) (i := i))
  simp [List.getElem?_take_of_lt hj] at this
  rw [List.getElem?_eq_getElem (by omega), List.getElem?_eq_getElem (by omega)] at this
  simpa using this.symm
theorem nth_map {α β : Type} {f : α → β} {l : List α} {i : Nat} (z : α) (y : β) (h : i < l.length) : nth (l.map f) i y = f (nth l i z) := by
  rw [nth_eq y (by rw [List.length_map]; exact h), List.getElem_map, nth_eq z h]
def lrInv (ts : List (Nat × Nat)) (i : Nat) (as : AS) : Prop := ∃ z2 z3, as = [.dur (tsE ts), .own (.ol (((doneOf ts i).map (·.2)).map .int)), z2, z3, .un] ∧ isF z2 = true ∧ isF z3 = true
theorem lrStep {n : Nat} {ts : List (Nat × Nat)} (hf : fine n ts) (hl : ts.length ≤ 1000) (i : Nat) (as : AS) (hi : i < ts.length) (h : lrInv ts i as) :
    ∃ as2, kTn (gN 2 (.int (i : Int)) as) lrBody = some (.nx, as2) ∧ lrInv ts (i + 1) as2 := by
  obtain ⟨z2, z3, rfl, h2, h3⟩ := h
  have hdl := doneOf_len (ts := ts) (i := i) (by omega)
  refine ⟨[.dur (tsE ts), .own (.ol (((doneOf ts (i + 1)).map (·.2)).map .int)), .dur (.int (i : Int)), .own (.ol ((((doneOf ts i).filter fun p => share (nth ts i (0, 0)) p.1).map (·.2)).map .int)), .un], ?_, _, _, rfl, isF_dur, isF_own⟩
  have e := mLc1_eq (j := 4) (mi := mR fR1 (mCons (mI 2) (mPure []))) (c := m2b (fInt cLt) (m1 fLSet (mV (m2 fAdd (mV (m2 fIx (mI 0) (mI 2))) (mV (m2 fIx (mI 0) (mI 4)))))) (mPure (.int 4))) (el := mV (m2 fIx (mI 1) (mI 4))) (as := [.dur (tsE ts), .own (.ol (((doneOf ts i).map (·.2)).map .int)), .dur (.int (i : Int)), z3, .un])
    (List.range i) (fun (j : Nat) => .int (j : Int)) (fun j => share (nth ts i (0, 0)) (nth ts j (0, 0))) (fun j => .int (nth ((doneOf ts i).map (·.2)) j 0)) (by simp [fR1_nat (show i ≤ 1000000 by omega)]) rfl (by
      intro j hj
      rw [List.mem_range] at hj
      have hj2 : j < ts.length := by omega
      have x1 : fIx (tsE ts) (.int (i : Int)) = some (.val (tE (nth ts i (0, 0)))) := fIx_mapT (0, 0) hi
      have x2 : fIx (tsE ts) (.int (j : Int)) = some (.val (tE (nth ts j (0, 0)))) := fIx_mapT (0, 0) hj2
      have x3 : fAdd (tE (nth ts i (0, 0))) (tE (nth ts j (0, 0))) = some (.val (iT [((nth ts i (0, 0)).1 : Int), ((nth ts i (0, 0)).2 : Int), ((nth ts j (0, 0)).1 : Int), ((nth ts j (0, 0)).2 : Int)])) := fAdd_tuple (by simp)
      have x4 : ∀ l : List Int, l.length < 4000 → fLSet (iT l) = some (.int ((usort l).length : Int)) := fun l hl => fLSet_tuple (by omega)
      have x5 := share_set (hf _ (nth_mem (0, 0) hi)).2.2 (hf _ (nth_mem (0, 0) hj2)).2.2
      simp [x1, x2, x3, x4, x5]) (by
      intro j hj _
      rw [List.mem_range] at hj
      have x1 : fIx (.list (((doneOf ts i).map (·.2)).map .int)) (.int (j : Int)) = some (.val (.int (nth ((doneOf ts i).map (·.2)) j 0))) := fIx_mapL 0 (by rw [List.length_map]; omega)
      simp only [List.map_map] at x1
      simp [x1]) (by simp; omega)
  have e2 : ((List.range i).filter fun j => share (nth ts i (0, 0)) (nth ts j (0, 0))).map (fun j => PyData.int (nth ((doneOf ts i).map (·.2)) j 0)) = (((doneOf ts i).filter fun p => share (nth ts i (0, 0)) p.1).map (·.2)).map .int := by
    have r := range_nth (doneOf ts i) ((0, 0), 0)
    rw [hdl] at r
    conv => rhs; rw [← r]
    rw [List.filter_map, List.map_map, List.map_map]
    have ef : ((List.range i).filter fun j => share (nth ts i (0, 0)) (nth ts j (0, 0))) = (List.range i).filter ((fun p => share (nth ts i (0, 0)) p.1) ∘ fun j => nth (doneOf ts i) j ((0, 0), 0)) := List.filter_congr fun j hj => by
      rw [List.mem_range] at hj
      show _ = share (nth ts i (0, 0)) (nth (doneOf ts i) j ((0, 0), 0)).1
      rw [← doneOf_nth (by omega) hj]
    rw [ef]
    refine List.map_congr_left fun j hj => ?_
    have hj := List.mem_range.mp (List.mem_filter.mp hj).1
    rw [nth_map ((0, 0), 0) 0 (by omega)]; rfl
  rw [e2] at e
  have lf : (((doneOf ts i).filter fun p => share (nth ts i (0, 0)) p.1).map (·.2)).length ≤ 1000 := by
    have := List.length_filter_le (fun p : (Nat × Nat) × Int => share (nth ts i (0, 0)) p.1) (doneOf ts i)
    rw [List.length_map]; omega
  generalize hb : ((doneOf ts i).filter fun p => share (nth ts i (0, 0)) p.1).map (·.2) = bs at e lf
  have ea : fAdd (.list (bs.map .int)) (.list [.int 0]) = some (.obj (.ol ((bs ++ [0]).map .int))) := by rw [fAdd_list (by simp; omega), List.map_append]; rfl
  have em : fMaxI [.list ((bs ++ [0]).map .int)] = some (.int (bs.foldl max 0)) := by rw [fMaxI_of rfl (by simp), maxL_app0]
  have et : (doneOf ts (i + 1)).map (·.2) = (doneOf ts i).map (·.2) ++ [1 + bs.foldl max 0] := by
    rw [doneOf_succ hi]
    simp [roundT, turnOf, hb]
  have ep : fAppend (((doneOf ts i).map (·.2)).map PyData.int) [.int (1 + bs.foldl max 0)] = some (.none, ((doneOf ts i).map (·.2)).map PyData.int ++ [.int (1 + bs.foldl max 0)]) := fAppend_ap (by simp; omega)
  rw [et, List.map_append]
  unfold lrBody
  rw [show gN 2 (.int (i : Int)) [.dur (tsE ts), .own (.ol (((doneOf ts i).map (·.2)).map .int)), z2, z3, .un] = some [.dur (tsE ts), .own (.ol (((doneOf ts i).map (·.2)).map .int)), .dur (.int (i : Int)), z3, .un] by simp [h2]]
  simp [-List.map_append, -List.map_map, e, h3, fLst_ap, ea, em, ep]
theorem D_lrounds_ok {n : Nat} {ts : List (Nat × Nat)} (hf : fine n ts) (hl : ts.length ≤ 1000) : D_law_rounds [tsE ts] = some (.val (.int (topT (ts.foldl roundT [])))) := by
  refine runP_ex rfl ?_
  rw [show startA 5 [tsE ts] = [.dur (tsE ts), .un, .un, .un, .un] from rfl]
  unfold b_law_rounds
  refine then_ex (as1 := [.dur (tsE ts), .own (.ol []), .un, .un, .un]) (by simp [fLst_ap]) ?_
  obtain ⟨as', q, z2, z3, rfl, _⟩ := forL_rg (b := lrBody) (g := gN 2) ts.length (lrInv ts) [.dur (tsE ts), .own (.ol []), .un, .un, .un] ⟨.un, .un, rfl, isF_un, isF_un⟩ fun i as hi h => lrStep hf hl i as hi h
  refine then_ex (as1 := _) (by simp [fLen_tsE, fR1_nat (show ts.length ≤ 1000000 by omega)]; exact q) ⟨[.dur (tsE ts), .own (.ol (((doneOf ts ts.length).map (·.2)).map .int)), z2, z3, .un], ?_⟩
  · have hdl := doneOf_len (ts := ts) (i := ts.length) (by omega)
    generalize hb : (doneOf ts ts.length).map (fun p => p.2) = bs
    have hbl : bs.length ≤ 1000 := by rw [← hb, List.length_map]; omega
    have ea : fAdd (.list (bs.map .int)) (.list [.int 0]) = some (.obj (.ol ((bs ++ [0]).map .int))) := by rw [fAdd_list (by simp; omega), List.map_append]; rfl
    have em : fMaxI [.list ((bs ++ [0]).map .int)] = some (.int (topT (ts.foldl roundT []))) := by
      rw [fMaxI_of rfl (by simp), maxL_app0, ← hb]
      unfold topT doneOf
      rw [List.take_length]
    simp [-List.map_append, -List.map_map, fLst_ap, ea, em]
end Vl

-- M85e
set_option Elab.async false
set_option linter.all false
set_option maxRecDepth 100000
set_option maxHeartbeats 4000000
namespace Vl
open PySem L2
theorem tk (ds : List Int) (n : Int) (h : 0 < n) : ∃ (t : Nat) (ds' : List Int), D_law_take (.ol (ds.map .int)) [.int n] = some (.int (t : Int), .ol (ds'.map .int)) ∧ (t : Int) < n := take_nat ds h
theorem Dn_same (k : Nat) : Dn_law_same k = sameN k := by
  induction k with
  | zero => rfl
  | succ k ih =>
    show runP 3 2 (b_law_same _) = runP 3 2 (bSameN _)
    rw [ih]; rfl
theorem same_ok {d : PD} (h : gd 12 d = true) : D_law_same [d, d] = some (.val (.bool true)) := by
  unfold D_law_same
  rw [Dn_same]
  exact sameN_ok 12 d h
theorem draws_ok {ns : List Int} (hn : ns.length ≤ 63) : ∃ ds : List Int, D_law_draws [.list (ns.map .int), .int 160] = some (.obj (.ol (ds.map .int))) := by
  obtain ⟨ds, h, _⟩ := draws_A (ns := ns) (m := 160) hn (by decide)
  exact ⟨ds, h⟩
/-! ### the talks drawn -/
def tBody : MS := (sThen (sSet 6 (mF (mCallI 0 D_law_take (mCons (mD 3) (mPure [])))))
  (sThen (sSet 7 (mF (m2 (fInt iMod) (mS fInt1 (mCons (mV (m2 fAdd (mV (m2 fAdd (mI 6) (mPure (.int 1)))) (mCallI 0 D_law_take (mCons (m2 (fInt iSub) (mI 3) (mPure (.int 1))) (mPure []))))) (mPure []))) (mI 3))))
  (sDrop (mMth 4 fAppend (mCons (mV (m2 fIx (mV (mN fLst (mCons (mV (mN fTup (mCons (mD 6) (mCons (mD 7) (mPure []))))) (mCons (mV (m2 fIx (mV (m2 fAdd (mI 4) (mV (mN fLst (mCons (mV (mN fTup (mCons (mD 6) (mCons (mD 7) (mPure []))))) (mPure [])))))) (mPure (.int 0)))) (mPure []))))) (mS fInt1 (mCons (m2 fEq (mCallI 0 D_law_take (mCons (mPure (.int 8)) (mPure []))) (mPure (.int 0))) (mPure []))))) (mPure []))))))
def tInv (n m near : Nat) (i : Nat) (as : AS) : Prop := ∃ (ds : List Int) (ts : List (Nat × Nat)) (z5 z6 z7 : Slot), as = [.io (.ol (ds.map .int)), .dur (.int (n : Int)), .dur (.int (m : Int)), .dur (.int (near : Int)), .own (.ol (ts.map tE)), z5, z6, z7] ∧ ts.length = i ∧ fine near ts ∧ isF z5 = true ∧ isF z6 = true ∧ isF z7 = true
theorem tStep {n m near : Nat} (hn : 2 ≤ near) (i : Nat) (as : AS) (hi : i < m) (hm : m ≤ 1000) (h : tInv n m near i as) : ∃ as2, kTn (gN 5 (.int (i : Int)) as) tBody = some (.nx, as2) ∧ tInv n m near (i + 1) as2 := by
  obtain ⟨ds, ts, z5, z6, z7, rfl, hl, hf, h5, h6, h7⟩ := h
  obtain ⟨a, ds1, e1, l1⟩ := tk ds (near : Int) (by omega)
  obtain ⟨c, ds2, e2, l2⟩ := tk ds1 ((near : Int) - 1) (by omega)
  obtain ⟨q, ds3, e3, l3⟩ := tk ds2 8 (by decide)
  obtain ⟨b, eb, hb, hab⟩ : ∃ b : Nat, ((a : Int) + 1 + (c : Int)) % (near : Int) = (b : Int) ∧ b < near ∧ a ≠ b := by
    refine ⟨(a + 1 + c) % near, by simp, Nat.mod_lt _ (by omega), fun e => ?_⟩
    rcases (by omega : a + 1 + c < near ∨ near ≤ a + 1 + c) with h | h
    · rw [Nat.mod_eq_of_lt h] at e; omega
    · rw [Nat.mod_eq_sub_mod h, Nat.mod_eq_of_lt (by omega)] at e; omega
  have hfirst : (nth (ts ++ [(a, b)]) 0 (a, b)).1 < near ∧ (nth (ts ++ [(a, b)]) 0 (a, b)).2 < near ∧ (nth (ts ++ [(a, b)]) 0 (a, b)).1 ≠ (nth (ts ++ [(a, b)]) 0 (a, b)).2 := by
    cases ts with
    | nil => exact ⟨by show a < near; omega, hb, hab⟩
    | cons t ts => exact hf t List.mem_cons_self
  have ha : (a : Int) < near := l1
  have x1 : fAdd (.list (ts.map tE)) (.list [tE (a, b)]) = some (.obj (.ol ((ts ++ [(a, b)]).map tE))) := by rw [fAdd_list (by simp; omega), List.map_append]; rfl
  have x2 : fIx (.list ((ts ++ [(a, b)]).map tE)) (.int 0) = some (.val (tE (nth (ts ++ [(a, b)]) 0 (a, b)))) := fIx_mapL (i := 0) (a, b) (by simp)
  have x3 : ∀ t : Nat × Nat, fAppend (ts.map tE) [tE t] = some (.none, (ts ++ [t]).map tE) := fun t => by rw [fAppend_ap (by simp; omega), List.map_append]; rfl
  have xe : PyData.tuple [.int (a : Int), .int (b : Int)] = tE (a, b) := rfl
  have l8 : q = 0 ∨ q ≠ 0 := by omega
  rcases l8 with hq | hq
  · refine ⟨[.io (.ol (ds3.map .int)), .dur (.int (n : Int)), .dur (.int (m : Int)), .dur (.int (near : Int)), .own (.ol ((ts ++ [nth (ts ++ [(a, b)]) 0 (a, b)]).map tE)), .dur (.int (i : Int)), .dur (.int (a : Int)), .dur (.int (b : Int))], ?_, ds3, _, _, _, _, rfl, by simp [hl], ?_, isF_dur, isF_dur, isF_dur⟩
    · have x4 : fIx (.list [tE (a, b), tE (nth (ts ++ [(a, b)]) 0 (a, b))]) (.int 1) = some (.val (tE (nth (ts ++ [(a, b)]) 0 (a, b)))) := rfl
      subst hq
      simp [-List.map_append, tBody, h5, h6, h7, e1, e2, e3, iMod_ap (show (0 : Int) < near by omega), eb, fTup_ap, xe, fLst_ap, x1, x2, x3, x4]
    · intro t ht
      rcases List.mem_append.mp ht with ht | ht
      · exact hf t ht
      · rw [List.mem_singleton] at ht; subst ht; exact hfirst
  · refine ⟨[.io (.ol (ds3.map .int)), .dur (.int (n : Int)), .dur (.int (m : Int)), .dur (.int (near : Int)), .own (.ol ((ts ++ [(a, b)]).map tE)), .dur (.int (i : Int)), .dur (.int (a : Int)), .dur (.int (b : Int))], ?_, ds3, _, _, _, _, rfl, by simp [hl], ?_, isF_dur, isF_dur, isF_dur⟩
    · have x4 : fIx (.list [tE (a, b), tE (nth (ts ++ [(a, b)]) 0 (a, b))]) (.int 0) = some (.val (tE (a, b))) := rfl
      have hq2 : ¬ (q : Int) = 0 := by omega
      simp [-List.map_append, tBody, h5, h6, h7, e1, e2, e3, iMod_ap (show (0 : Int) < near by omega), eb, fTup_ap, xe, fLst_ap, x1, x2, x3, x4, hq2, hq]
    · intro t ht
      rcases List.mem_append.mp ht with ht | ht
      · exact hf t ht
      · rw [List.mem_singleton] at ht; subst ht; exact ⟨by show a < near; omega, hb, hab⟩
theorem D_talks_ok (ds : List Int) {n m : Nat} (h1 : 1 ≤ n) (hn : n ≤ 60) (hm : m ≤ 1000) : ∃ (ts : List (Nat × Nat)) (ds' : List Int), D_law_talks (.ol (ds.map .int)) [.int (n : Int), .int (m : Int)] = some (tsE ts, .ol (ds'.map .int)) ∧ ts.length ≤ 1000 ∧ fine n ts := by
  obtain ⟨c, ds1, e1, l1⟩ := tk ds 2 (by decide)
  obtain ⟨near, hnear, hle, hnr⟩ : ∃ near : Nat, fIx (.list [.int (n : Int), .int (min (n : Int) 4)]) (.int (c : Int)) = some (.val (.int (near : Int))) ∧ near ≤ n ∧ (2 ≤ n → 2 ≤ near) := by
    rcases (by omega : c = 0 ∨ c = 1) with rfl | rfl
    · exact ⟨n, rfl, by omega, fun h => h⟩
    · refine ⟨min n 4, ?_, by omega, fun h => by omega⟩
      show some (Res.val (.int (min (n : Int) 4))) = _
      congr 3
      omega
  have st : ∀ k : Nat, (k ≠ 0 → 2 ≤ n) → k ≤ m → fMulA (.int (m : Int)) (.int (if 1 < n then 1 else 0)) = some (.val (.int (k : Int))) → ∃ (ts : List (Nat × Nat)) (ds' : List Int), D_law_talks (.ol (ds.map .int)) [.int (n : Int), .int (m : Int)] = some (tsE ts, .ol (ds'.map .int)) ∧ ts.length ≤ 1000 ∧ fine n ts := by
    intro k hk hkm hmul
    obtain ⟨as', q, ds2, ts, z5, z6, z7, rfl, hl, hf, _⟩ := forL_rg (b := tBody) (g := gN 5) k (tInv n m near) [.io (.ol (ds1.map .int)), .dur (.int (n : Int)), .dur (.int (m : Int)), .dur (.int (near : Int)), .own (.ol []), .un, .un, .un] ⟨ds1, [], .un, .un, .un, rfl, rfl, fun t ht => absurd ht List.not_mem_nil, isF_un, isF_un, isF_un⟩ fun i as hi h => tStep (hnr (hk (by omega))) i as (by omega) hm h
    refine ⟨ts, ds2, ?_, by omega, fun t ht => by have := hf t ht; omega⟩
    refine runI_rt (as' := [.io (.ol (ds2.map .int)), .dur (.int (n : Int)), .dur (.int (m : Int)), .dur (.int (near : Int)), .own (.ol (ts.map tE)), z5, z6, z7]) rfl (Nat.zero_le _) ?_ rfl
    rw [show startI 8 0 (.ol (ds.map .int)) [PyData.int (n : Int), .int (m : Int)] = [.io (.ol (ds.map .int)), .dur (.int (n : Int)), .dur (.int (m : Int)), .un, .un, .un, .un, .un] from rfl]
    unfold b_law_talks
    have hb : decide ((1 : Int) < (n : Int)) = decide (1 < n) := by rw [Bool.eq_iff_iff]; simp; omega
    simp [e1, hnear, fLst_ap, hb, hmul, fR1_nat (show k ≤ 1000000 by omega)]
    rw [show (sThen (sSet 6 _) _) = tBody from rfl, q]
    simp [tsE]
  by_cases h2 : 1 < n
  · exact st m (fun _ => h2) (Nat.le_refl _) (by rw [if_pos h2]; have := fMul_int (i := (m : Int)) (j := 1) (mulOk_r (by decide)); rw [this]; simp)
  · exact st 0 (fun h => absurd rfl h) (Nat.zero_le _) (by rw [if_neg h2]; have := fMul_int (i := (m : Int)) (j := 0) (mulOk_r (by decide)); rw [this]; simp)
end Vl

-- M85f
set_option Elab.async false
set_option linter.all false
set_option maxRecDepth 100000
set_option maxHeartbeats 4000000
namespace Vl
open PySem L2
theorem gd_rows {rows : List (List Int)} (h : rows.length ≤ 1000) (h2 : ∀ r ∈ rows, r.length ≤ 1000) : gd 12 (.tuple (rows.map iT)) = true := gd_tup (n := 11) (by omega) fun r hr => gd_ints (n := 9) (by have := h2 r hr; omega)
theorem gd_nE {l : List Nat} (h : l.length ≤ 10000) : gd 12 (nE l) = true := by
  unfold nE
  exact gd_tup (n := 11) (by omega) fun _ _ => gd_int
theorem gd_tsE {l : List (Nat × Nat)} (h : l.length ≤ 10000) : gd 12 (tsE l) = true := by
  unfold tsE
  exact gd_tup (n := 11) (by omega) fun t _ => rfl
theorem gd_first {l : List Nat} : gd 12 (firstV l) = true := by
  cases l <;> rfl
theorem same_rows {n : Nat} {ts : List (Nat × Nat)} (hn : n ≤ 60) (h : okT n ts) : D_law_same [.tuple ((kn n ts).map iT), .tuple ((kn n ts).map iT)] = some (.val (.bool true)) := by
  have g := good_kn h
  exact same_ok (gd_rows (by rw [g.1]; omega) fun r hr => by have := goodR_len (g.2 r hr); omega)
theorem rep_one {α : Type} {x : α} : ∀ n : Nat, (List.replicate n [x]).flatten = List.replicate n x
  | 0 => rfl
  | n + 1 => by rw [List.replicate_succ, List.flatten_cons, rep_one n]; rfl
def fBody : MS := (sThen (sSet 6 (mF (mCallI 0 D_law_take (mCons (mD 1) (mPure [])))))
  (sThen (sSet 7 (mLc [9] (mR fR1 (mCons (mV (m2 fAdd (mS fLen (mCons (mI 2) (mPure []))) (mPure (.int 1)))) (mPure []))) (gN 9) (m2b fEq (mS fLen (mCons (mV (m2 fIx (mV (mN D_law_known (mCons (mD 1) (mCons (mV (mSl (mI 2) (mPure none) (mPart (mI 9)))) (mPure []))))) (mI 6))) (mPure []))) (mI 1)) (mD 9)))
  (sIf (mNot (m1 asB (mV (mN D_law_same (mCons (mV (mN D_first_known (mCons (mD 1) (mCons (mD 2) (mCons (mD 6) (mPure [])))))) (mCons (mV (m2 fIx (mV (m2 fAdd (mI 7) (mV (mN fLst (mCons (mPure .none) (mPure [])))))) (mPure (.int 0)))) (mPure []))))))) (sRet (mF (mPure (.bool false)))) sNx)))
def aInv (n : Nat) (ts : List (Nat × Nat)) (i : Nat) (as : AS) : Prop := ∃ (ds : List Int) (z3 z4 z5 z6 z7 : Slot), as = [.io (.ol (ds.map .int)), .dur (.int (n : Int)), .dur (tsE ts), z3, z4, z5, z6, z7, .un, .un] ∧ isF z5 = true ∧ isF z6 = true ∧ isF z7 = true
theorem aStep {n : Nat} {ts : List (Nat × Nat)} (h1 : 1 ≤ n) (hn : n ≤ 60) (hl : ts.length ≤ 1000) (hf : fine n ts) (i : Nat) (as : AS) (h : aInv n ts i as) : ∃ as2, kTn (gN 5 (.int (i : Int)) as) fBody = some (.nx, as2) ∧ aInv n ts (i + 1) as2 := by
  obtain ⟨ds, z3, z4, z5, z6, z7, rfl, h5, h6, h7⟩ := h
  obtain ⟨m, ds1, e1, l1⟩ := tk ds (n : Int) (by omega)
  have hm : m < n := by omega
  have ho := fine_ok hf
  refine ⟨[.io (.ol (ds1.map .int)), .dur (.int (n : Int)), .dur (tsE ts), z3, z4, .dur (.int (i : Int)), .dur (.int (m : Int)), .own (.ol ((firstK n ts m).map fun (i : Nat) => PyData.int (i : Int))), .un, .un], ?_, ds1, z3, z4, _, _, _, rfl, isF_dur, isF_dur, isF_own⟩
  have er : fR1 [.int ((ts.length : Int) + 1)] = some ((List.range (ts.length + 1)).map fun (i : Nat) => PyData.int (i : Int)) := fR1_nat (show ts.length + 1 ≤ 1000000 by omega)
  have e := mLc1_eq (j := 9) (mi := (mR fR1 (mCons (mV (m2 fAdd (mS fLen (mCons (mI 2) (mPure []))) (mPure (.int 1)))) (mPure [])))) (c := (m2b fEq (mS fLen (mCons (mV (m2 fIx (mV (mN D_law_known (mCons (mD 1) (mCons (mV (mSl (mI 2) (mPure none) (mPart (mI 9)))) (mPure []))))) (mI 6))) (mPure []))) (mI 1))) (el := mD 9) (as := [.io (.ol (ds1.map .int)), .dur (.int (n : Int)), .dur (tsE ts), z3, z4, .dur (.int (i : Int)), .dur (.int (m : Int)), z7, .un, .un])
    (List.range (ts.length + 1)) (fun (j : Nat) => .int (j : Int)) (fun i => decide ((nth (kn n (ts.take i)) m []).length = n)) (fun (j : Nat) => .int (j : Int)) (by simp [fLen_tsE, er]) rfl (by
      intro i hi
      rw [List.mem_range] at hi
      have hlm : m < (kn n (ts.take i)).length := by rw [(good_kn (okT_take ho)).1]; exact hm
      have el : fLen [iT (nth (kn n (ts.take i)) m [])] = some (.int ((nth (kn n (ts.take i)) m []).length : Int)) := by unfold iT; rw [fLen_tuple, List.length_map]
      simp [take_ok2 (show i ≤ ts.length by omega), D_lknown_ok hn (okT_take (i := i) ho), fIx_mapT [] hlm, el]) (fun i _ _ => by simp) (by simp; omega)
  have ek : (List.range (ts.length + 1)).filter (fun i => decide ((nth (kn n (ts.take i)) m []).length = n)) = firstK n ts m := rfl
  rw [ek] at e
  have hkl : (firstK n ts m).length ≤ 2000 := by
    have := List.length_filter_le (fun i => decide ((nth (kn n (ts.take i)) m []).length = n)) (List.range (ts.length + 1))
    rw [ek, List.length_range] at this
    omega
  have x1 : fAdd (.list ((firstK n ts m).map fun (i : Nat) => PyData.int (i : Int))) (.list [.none]) = some (.obj (.ol (((firstK n ts m).map fun (i : Nat) => PyData.int (i : Int)) ++ [.none]))) := fAdd_list (by simp; omega)
  have x2 : fIx (.list (((firstK n ts m).map fun (i : Nat) => PyData.int (i : Int)) ++ [.none])) (.int 0) = some (.val (firstV (firstK n ts m))) := by
    cases firstK n ts m with
    | nil => rfl
    | cons a l => exact fIx_list (i := 0) (by simp)
  simp [h5, fBody, e1, h6, h7, e, D_first_ok hn hm hl ho, fLst_ap, x1, x2, same_ok gd_first]
theorem D_right_ok (ds : List Int) {n : Nat} {ts : List (Nat × Nat)} (h1 : 1 ≤ n) (hn : n ≤ 60) (hl : ts.length ≤ 1000) (hf : fine n ts) :
    ∃ ds' : List Int, D_law_are_talks_right (.ol (ds.map .int)) [.int (n : Int), tsE ts] = some (.bool true, .ol (ds'.map .int)) := by
  have ho := fine_ok hf
  have g := good_kn ho
  obtain ⟨as', q, ds1, z3, z4, z5, z6, z7, rfl, h5, h6, h7⟩ := forL_rg (b := fBody) (g := gN 5) 3 (aInv n ts) [.io (.ol (ds.map .int)), .dur (.int (n : Int)), .dur (tsE ts), .dur (.tuple ((kn n ts).map iT)), .own (.ol ((needl n ts).map fun (i : Nat) => PyData.int (i : Int))), .un, .un, .un, .un, .un] ⟨ds, _, _, .un, .un, .un, rfl, isF_un, isF_un, isF_un⟩ fun i as _ h => aStep h1 hn hl hf i as h
  refine ⟨ds1, runI_rt (as' := [.io (.ol (ds1.map .int)), .dur (.int (n : Int)), .dur (tsE ts), z3, z4, z5, z6, z7, .un, .un]) rfl (Nat.zero_le _) ?_ rfl⟩
  rw [show startI 10 0 (.ol (ds.map .int)) [PyData.int (n : Int), tsE ts] = [.io (.ol (ds.map .int)), .dur (.int (n : Int)), .dur (tsE ts), .un, .un, .un, .un, .un, .un, .un] from rfl]
  unfold b_law_are_talks_right
  have et : fTR1 (.int (n : Int)) = some (.val (iT ((List.range n).map fun (i : Nat) => (i : Int)))) := by rw [fTR1_of (by omega)]; unfold iT; rw [List.map_map]; rfl
  have em : fMulA (.tuple [iT ((List.range n).map fun (i : Nat) => (i : Int))]) (.int (n : Int)) = some (.val (.tuple (List.replicate n (iT ((List.range n).map fun (i : Nat) => (i : Int)))))) := by
    have e0 : fMulA (.tuple [iT ((List.range n).map fun (i : Nat) => (i : Int))]) (.int (n : Int)) = if -(2 ^ 63) ≤ (n : Int) ∧ (n : Int) ≤ 1000 ∧ 1 ≤ 1000 then some (.val (.tuple (List.replicate (n : Int).toNat [iT ((List.range n).map fun (i : Nat) => (i : Int))]).flatten)) else none := rfl
    rw [e0, if_pos (by omega), Int.toNat_natCast, rep_one]
  have ef : fEq (.tuple ((kn n ts).map iT)) (.tuple (List.replicate n (iT ((List.range n).map fun (i : Nat) => (i : Int))))) = some (.bool (decide (kn n ts = List.replicate n ((List.range n).map fun (i : Nat) => (i : Int))))) := by
    have := fEq_rows (kn n ts) (List.replicate n ((List.range n).map fun (i : Nat) => (i : Int)))
    rwa [List.map_replicate] at this
  have hall := full_iff g
  have e1 := mLc1_eq (j := 8) (mi := (mR fR1 (mCons (mS fLen (mCons (mI 2) (mPure []))) (mPure [])))) (c := (m2b fEq (mV (mN D_law_known (mCons (mD 1) (mCons (mV (m2 fAdd (mV (mSl (mI 2) (mPure none) (mPart (mI 8)))) (mV (mSl (mI 2) (mPart (mV (m2 fAdd (mI 8) (mPure (.int 1))))) (mPure none))))) (mPure []))))) (mI 3))) (el := mD 8) (as := [.io (.ol (ds.map .int)), .dur (.int (n : Int)), .dur (tsE ts), .dur (.tuple ((kn n ts).map iT)), .un, .un, .un, .un, .un, .un])
    (List.range ts.length) (fun (i : Nat) => .int (i : Int)) (fun i => decide (kn n (ts.take i ++ ts.drop (i + 1)) = kn n ts)) (fun (i : Nat) => .int (i : Int)) (by simp [fLen_tsE, fR1_nat (show ts.length ≤ 1000000 by omega)]) rfl (by
      intro i hi
      rw [List.mem_range] at hi
      obtain ⟨c1, c2, c3⟩ := cut_ok hi hl
      simp [c1, c2, c3, D_lknown_ok hn (okT_drop (i := i) ho), fEq_rows]) (fun i _ _ => by simp) (by simp; omega)
  have ek : (List.range ts.length).filter (fun i => decide (kn n (ts.take i ++ ts.drop (i + 1)) = kn n ts)) = needl n ts := rfl
  rw [ek] at e1
  have hkl : (needl n ts).length ≤ 2000 := by
    have := List.length_filter_le (fun i => decide (kn n (ts.take i ++ ts.drop (i + 1)) = kn n ts)) (List.range ts.length)
    rw [ek, List.length_range] at this
    omega
  have r3 : fR1 [.int 3] = some ((List.range 3).map fun (i : Nat) => PyData.int (i : Int)) := fR1_nat (n := 3) (by decide)
  have x1 : PyData.tuple ((needl n ts).map fun (i : Nat) => PyData.int (i : Int)) = nE (needl n ts) := rfl
  simp [D_lknown_ok hn ho, D_known_ok hn ho, same_rows hn ho, D_all_ok hn ho, et, fTup_ap, em, ef, hall, same_ok gd_bool, e1, D_need_ok hn hl ho, x1, same_ok (gd_nE (l := needl n ts) (by omega)), D_rounds_ok hl, D_lrounds_ok hf hl, same_ok gd_int, r3]
  rw [show (sThen (sSet 6 _) _) = fBody from rfl]
  rw [q]
  simp
end Vl

-- Mk85
set_option Elab.async false
set_option linter.all false
set_option maxRecDepth 100000
set_option maxHeartbeats 4000000
namespace Vl
open PySem L2
def lBody : MS := (sThen (sSet 3 (m2 fAdd (mPure (.int 1)) (mCallI 1 D_law_take (mCons (mV (m2 fIx (mV (mN fLst (mCons (mPure (.int 8)) (mCons (mPure (.int 30)) (mPure []))))) (mS fInt1 (mCons (m2 fEq (mCallI 1 D_law_take (mCons (mPure (.int 16)) (mPure []))) (mPure (.int 0))) (mPure []))))) (mPure [])))))
  (sThen (sSet 4 (mF (mCallI 1 D_law_talks (mCons (mD 3) (mCons (mCallI 1 D_law_take (mCons (mV (m2 fIx (mV (mN fLst (mCons (mPure (.int 8)) (mCons (mPure (.int 25)) (mPure []))))) (mCallI 1 D_law_take (mCons (mPure (.int 2)) (mPure []))))) (mPure []))) (mPure []))))))
  (sIf (mNot (m1 asB (mCallI 1 D_law_are_talks_right (mCons (mD 3) (mCons (mD 4) (mPure [])))))) (sRet (mF (mPure (.bool false)))) sNx)))
def lInv (ns : List Int) (i : Nat) (as : AS) : Prop := ∃ (ds : List Int) (z2 z3 z4 : Slot), as = [.dur (.list (ns.map .int)), .own (.ol (ds.map .int)), z2, z3, z4, .un] ∧ isF z2 = true ∧ isF z3 = true ∧ isF z4 = true ∧ (i ≠ 0 → ∃ n : Nat, z3 = .dur (.int (n : Int)) ∧ 1 ≤ n ∧ n ≤ 60)
theorem lStep (ns : List Int) (i : Nat) (as : AS) (h : lInv ns i as) : ∃ as2, kTn (gN 2 (.int (i : Int)) as) lBody = some (.nx, as2) ∧ lInv ns (i + 1) as2 := by
  obtain ⟨ds, z2, z3, z4, rfl, h2, h3, h4, _⟩ := h
  obtain ⟨c, ds1, e1, l1⟩ := tk ds 16 (by decide)
  have a1 : ∃ r : Nat, fIx (.list [.int 8, .int 30]) (.int (if c = 0 then 1 else 0)) = some (.val (.int (r : Int))) ∧ 1 ≤ r ∧ r ≤ 30 := by
    by_cases hc : c = 0
    · rw [if_pos hc]; exact ⟨30, rfl, by decide, by decide⟩
    · rw [if_neg hc]; exact ⟨8, rfl, by decide, by decide⟩
  obtain ⟨r, er, r1, r2⟩ := a1
  obtain ⟨t, ds2, e2, l2⟩ := tk ds1 (r : Int) (by omega)
  obtain ⟨c3, ds3, e3, l3⟩ := tk ds2 2 (by decide)
  have a2 : ∃ r : Nat, fIx (.list [.int 8, .int 25]) (.int (c3 : Int)) = some (.val (.int (r : Int))) ∧ 1 ≤ r ∧ r ≤ 30 := by
    rcases (by omega : c3 = 0 ∨ c3 = 1) with rfl | rfl
    · exact ⟨8, rfl, by decide, by decide⟩
    · exact ⟨25, rfl, by decide, by decide⟩
  obtain ⟨r', er', r1', r2'⟩ := a2
  obtain ⟨m, ds4, e4, l4⟩ := tk ds3 (r' : Int) (by omega)
  obtain ⟨n, en, n1, n2⟩ : ∃ n : Nat, (1 : Int) + (t : Int) = (n : Int) ∧ 1 ≤ n ∧ n ≤ 60 := ⟨1 + t, by omega, by omega, by omega⟩
  obtain ⟨ts, ds5, e5, hl, hf⟩ := D_talks_ok ds4 (n := n) (m := m) n1 n2 (by omega)
  obtain ⟨ds6, e6⟩ := D_right_ok ds5 n1 n2 hl hf
  refine ⟨[.dur (.list (ns.map .int)), .own (.ol (ds6.map .int)), .dur (.int (i : Int)), .dur (.int (n : Int)), .dur (tsE ts), .un], ?_, ds6, _, _, _, rfl, isF_dur, isF_dur, isF_dur, fun _ => ⟨n, rfl, n1, n2⟩⟩
  simp [lBody, h2, h3, h4, fLst_ap, e1, er, e2, en, e3, er', e4, e5, e6]
theorem true_all : ∀ ns : List Int, ns.length ≤ 63 → D_law [.list (ns.map .int)] = some (.val (.bool true)) := by
  intro ns hn
  obtain ⟨ds, ed⟩ := draws_ok hn
  refine runP_ex rfl ?_
  rw [show startA 6 [PyData.list (ns.map .int)] = [.dur (.list (ns.map .int)), .un, .un, .un, .un, .un] from rfl]
  unfold b_law
  refine then_ex (as1 := [.dur (.list (ns.map .int)), .own (.ol (ds.map .int)), .un, .un, .un, .un]) (by simp [ed]) ?_
  obtain ⟨as', q, ds1, z2, z3, z4, rfl, h2, h3, h4, hz⟩ := forL_rg (b := lBody) (g := gN 2) 2 (lInv ns) [.dur (.list (ns.map .int)), .own (.ol (ds.map .int)), .un, .un, .un, .un] ⟨ds, .un, .un, .un, rfl, isF_un, isF_un, isF_un, fun h => absurd rfl h⟩ fun i as _ h => lStep ns i as h
  obtain ⟨n, rfl, n1, n2⟩ := hz (by decide)
  have r3 : fR1 [.int 2] = some ((List.range 2).map fun (i : Nat) => PyData.int (i : Int)) := fR1_nat (n := 2) (by decide)
  refine then_ex (as1 := [.dur (.list (ns.map .int)), .own (.ol (ds1.map .int)), z2, .dur (.int (n : Int)), z4, .un]) (by rw [sFor_ap, show mR fR1 (mCons (mPure (.int 2)) (mPure [])) _ = _ from by simp only [mR_ap, mCons_ap, mPure_ap, kC_some, kC'_some, k1_some, r3, pairR_some]; rfl, kFor_some]; exact q) ?_
  have hf := told_fine n1
  have hl : (toldP n).length ≤ 1000 := by
    have := told_len n1
    split at this <;> (try split at this) <;> (try split at this) <;> omega
  refine then_ex (as1 := [.dur (.list (ns.map .int)), .own (.ol (ds1.map .int)), z2, .dur (.int (n : Int)), z4, .dur (tsE (toldP n))]) (by simp [D_ltold_ok n1 n2]) ?_
  obtain ⟨ds2, e2⟩ := D_right_ok ds1 n1 n2 hl hf
  have hlen : fLen [tsE (toldP n)] = some (.int (if 3 < n then 2 * (n : Int) - 4 else if n = 3 then 3 else if n = 2 then 1 else 0)) := by rw [fLen_tsE, told_len n1]
  refine then_ex (as1 := [.dur (.list (ns.map .int)), .own (.ol (ds2.map .int)), z2, .dur (.int (n : Int)), z4, .dur (tsE (toldP n))]) ?_ ?_
  · simp [D_told_ok n1 n2, same_ok (gd_tsE (l := toldP n) (by omega)), D_fewest_ok n1 n2, hlen, same_ok gd_int, e2]
  have f1 : D_needless_talks [.int 3, .tuple [.tuple [.int 0, .int 1], .tuple [.int 1, .int 0], .tuple [.int 1, .int 2]]] = some (.val (.tuple [.int 0, .int 1])) := D_need_ok (n := 3) (ts := [(0, 1), (1, 0), (1, 2)]) (by decide) (by decide) (by unfold okT; decide)
  have f2 : D_first_known [.int 4, .tuple [.tuple [.int 0, .int 1], .tuple [.int 2, .int 3], .tuple [.int 0, .int 2]], .int 2] = some (.val (.int 3)) := D_first_ok (n := 4) (m := 2) (ts := [(0, 1), (2, 3), (0, 2)]) (by decide) (by decide) (by decide) (by unfold okT; decide)
  have f3 : D_rounds_of_talks [.tuple [.tuple [.int 0, .int 1], .tuple [.int 0, .int 2], .tuple [.int 3, .int 4], .tuple [.int 3, .int 5]]] = some (.val (.int 2)) := D_rounds_ok (ts := [(0, 1), (0, 2), (3, 4), (3, 5)]) (by decide)
  have f4 : D_first_known [.int 1, .tuple [], .int 0] = some (.val (.int 0)) := D_first_ok (n := 1) (m := 0) (ts := []) (by decide) (by decide) (by decide) (by unfold okT; decide)
  have f5 : D_fewest_talks [.int 60] = some (.val (.int 116)) := D_fewest_ok (n := 60) (by decide) (by decide)
  have g1 : D_law_same [.tuple [.int 0, .int 1], .tuple [.int 0, .int 1]] = some (.val (.bool true)) := same_ok rfl
  exact ⟨[.dur (.list (ns.map .int)), .own (.ol (ds2.map .int)), z2, .dur (.int (n : Int)), z4, .dur (tsE (toldP n))], by simp [fTup_ap, f1, f2, f3, f4, f5, g1, same_ok gd_int]⟩
end Vl

-- Wk85
set_option Elab.async false
set_option linter.all false
set_option maxRecDepth 100000
set_option maxHeartbeats 4000000
namespace Vl
open PySem L2
def top (i : Nat) : Stmt := PySem.Challenge.pw_heardbyall_k85_talks_one_by_one.main.body.getD i (.Pass ⟨0, 0, 0, 0⟩)
structure Bt (mg : Str → Option Value) : Prop where
  all : mg "all" = none
  bool : mg "bool" = none
  int : mg "int" = none
  isinstance : mg "isinstance" = none
  len : mg "len" = none
  list : mg "list" = none
  max : mg "max" = none
  min : mg "min" = none
  range : mg "range" = none
  set : mg "set" = none
  sorted : mg "sorted" = none
  str : mg "str" = none
  tuple : mg "tuple" = none
section
variable {P : Program} {w : World} {K : Fg} {mg : Str → Option Value} {base : Heap}
theorem sc_known_behind : FnScope ["n", "talks", "known", "one", "other", "both", "member"] ["n", "talks"] (defScope (top 1)) := ⟨rfl, rfl, rfl, by decide +kernel, rfl, by decide +kernel, by decide +kernel⟩
theorem ok_known_behind {fa : Addr} {fd : FuncData} (Fu : Fun K "known_behind" "known_behind" (top 1) fa fd) (hm : mg "known_behind" = some (.ref fa)) (hb : Binds K fd ["n", "talks"] []) (B : Bt mg)  : Fn P w K mg base 1 "known_behind" D_known_behind := by
  refine fn_pure Fu hm sc_known_behind hb (by decide) fun cdv A outer s H E hr => ?_
  have nd := sc_known_behind.nd
  exact (ess_cons (es_setLc (i := 2) [("member", 6)] rfl nd (ei_r1 (l1 := .D) B.range (ea_cons (ev_nI (i := 0)) ea_nil)) (by kernel_rfl) (fun _ _ _ _ _ => (eg_n (i := 6) nd)) (fun _ _ _ _ _ => ets_nil) (fun _ _ _ _ _ => ((ef_tup (ea_cons (ev_nD (i := 6)) ea_nil))).vD) (sw_true rfl rfl rfl (by decide +kernel)))
  (ess_cons (es_for rfl (ei_seq (ev_nD (i := 1))) (eg_tup rfl (egs_cons (eg_n (i := 3) nd) (egs_cons (eg_n (i := 4) nd) egs_nil))) (ess_cons (es_set (i := 5) nd (ef_callTy call_tuple_of rno_tuple B.tuple (by decide +kernel) (ea_cons ((ef_sortedSet rfl B.sorted B.set ((ef_add ((ef_ix (ev_nI (i := 2)) (ev_nI (i := 3)))).vI ((ef_ix (ev_nI (i := 2)) (ev_nI (i := 4)))).vI)).vI)).vI ea_nil)))
  (ess_one (es_asgH ((ef_tup (ea_cons (ev_nD (i := 5)) (ea_cons (ev_nD (i := 5)) ea_nil)))).vD (eh_tup rfl (ehs_cons (eh_set (i := 2) (ev_nI (i := 3))) (ehs_cons (eh_set (i := 2) (ev_nI (i := 4))) ehs_nil)))))))
  (ess_one (es_ret (ef_callTy call_tuple_of rno_tuple B.tuple (by decide +kernel) (ea_cons (ev_nI (i := 2)) ea_nil))))))
theorem sc_all_know : FnScope ["n", "talks", "words"] ["n", "talks"] (defScope (top 2)) := ⟨rfl, rfl, rfl, by decide +kernel, rfl, by decide +kernel, by decide +kernel⟩
theorem ok_all_know {fa : Addr} {fd : FuncData} (Fu : Fun K "all_know" "all_know" (top 2) fa fd) (hm : mg "all_know" = some (.ref fa)) (hb : Binds K fd ["n", "talks"] []) (B : Bt mg) (F_known_behind : Fn P w K mg base 1 "known_behind" D_known_behind) : Fn P w K mg base 2 "all_know" D_all_know := by
  refine fn_pure Fu hm sc_all_know hb (by decide) fun cdv A outer s H E hr => ?_
  have nd := sc_all_know.nd
  have hu64 := hr.units
  exact (ess_one (es_ret ((ev_callB (cr_all rfl) rns_all B.all (by decide +kernel) (ea_cons ((ef_lc [("words", 2)] rfl nd (ei_seq ((ef_call F_known_behind (hr.mono (by decide)) (ea_cons (ev_nD (i := 0)) (ea_cons (ev_nD (i := 1)) ea_nil)))).vI) (by kernel_rfl) (fun _ _ _ _ _ => (eg_n (i := 2) nd)) (fun _ _ _ _ _ => ets_nil) (fun _ _ _ _ _ => (ev_cmp (op_eqD hu64) r2s_eq ((ev_callB call_len rns_len B.len (by decide +kernel) (ea_cons ((ev_nI (i := 2)).toB) ea_nil))).uB ((ev_nI (i := 0)).toB) (nomark _))))).vB ea_nil))).f))
theorem sc_fewest_talks : FnScope ["n"] ["n"] (defScope (top 3)) := ⟨rfl, rfl, rfl, by decide +kernel, rfl, by decide +kernel, by decide +kernel⟩
theorem ok_fewest_talks {fa : Addr} {fd : FuncData} (Fu : Fun K "fewest_talks" "fewest_talks" (top 3) fa fd) (hm : mg "fewest_talks" = some (.ref fa)) (hb : Binds K fd ["n"] []) (B : Bt mg)  : Fn P w K mg base 1 "fewest_talks" D_fewest_talks := by
  refine fn_pure Fu hm sc_fewest_talks hb (by decide) fun cdv A outer s H E hr => ?_
  have nd := sc_fewest_talks.nd
  exact (ess_one (es_ret ((ev_if (et_cmp op_gt r2s_gt ((ev_nI (i := 0)).toB) (ev_int).uB (nomark _)) (ev_sub ((ef_mulA (ev_int).uI (ev_nI (i := 0)))).vI (ev_int).uI) ((ef_ix ((ef_tup (ea_cons ev_int (ea_cons ev_int (ea_cons ev_int ea_nil))))).vI ((ev_sub (ev_nI (i := 0)) (ev_int).uI)).uI)).vD)).f))
theorem sc_told_talks : FnScope ["n", "others", "member"] ["n"] (defScope (top 4)) := ⟨rfl, rfl, rfl, by decide +kernel, rfl, by decide +kernel, by decide +kernel⟩
theorem ok_told_talks {fa : Addr} {fd : FuncData} (Fu : Fun K "told_talks" "told_talks" (top 4) fa fd) (hm : mg "told_talks" = some (.ref fa)) (hb : Binds K fd ["n"] []) (B : Bt mg)  : Fn P w K mg base 1 "told_talks" D_told_talks := by
  refine fn_pure Fu hm sc_told_talks hb (by decide) fun cdv A outer s H E hr => ?_
  have nd := sc_told_talks.nd
  exact (ess_cons (es_if (et_cmp op_lt r2s_lt ((ev_nI (i := 0)).toB) (ev_int).uB (nomark _)) (ess_one (es_ret (ef_ix ((ef_tup (ea_cons ((ef_tup ea_nil)).vD (ea_cons ((ef_tup (ea_cons ((ef_tup (ea_cons ev_int (ea_cons ev_int ea_nil)))).vD ea_nil))).vD (ea_cons ((ef_tup (ea_cons ((ef_tup (ea_cons ev_int (ea_cons ev_int ea_nil)))).vD (ea_cons ((ef_tup (ea_cons ev_int (ea_cons ev_int ea_nil)))).vD (ea_cons ((ef_tup (ea_cons ev_int (ea_cons ev_int ea_nil)))).vD ea_nil))))).vD ea_nil))))).vI ((ev_sub (ev_nI (i := 0)) (ev_int).uI)).uI))) ess_nil)
  (ess_cons (es_set (i := 1) nd (ef_callTy call_tuple_of rno_tuple B.tuple (by decide +kernel) (ea_cons ((ef_lc [("member", 2)] rfl nd (ei_r2 (l1 := .D) B.range (ea_cons (ev_int).uI (ea_cons (ev_nI (i := 0)) ea_nil))) (by kernel_rfl) (fun _ _ _ _ _ => (eg_n (i := 2) nd)) (fun _ _ _ _ _ => ets_nil) (fun _ _ _ _ _ => ((ef_tup (ea_cons ev_int (ea_cons (ev_nD (i := 2)) ea_nil)))).vD))).vI ea_nil)))
  (ess_one (es_ret (ef_add ((ef_add (ev_nI (i := 1)) ((ef_tup (ea_cons ((ef_tup (ea_cons ev_int (ea_cons ev_int ea_nil)))).vD (ea_cons ((ef_tup (ea_cons ev_int (ea_cons ev_int ea_nil)))).vD (ea_cons ((ef_tup (ea_cons ev_int (ea_cons ev_int ea_nil)))).vD (ea_cons ((ef_tup (ea_cons ev_int (ea_cons ev_int ea_nil)))).vD ea_nil)))))).vI)).vI (ev_nI (i := 1)))))))
theorem sc_first_known : FnScope ["n", "talks", "member", "many"] ["n", "talks", "member"] (defScope (top 5)) := ⟨rfl, rfl, rfl, by decide +kernel, rfl, by decide +kernel, by decide +kernel⟩
theorem ok_first_known {fa : Addr} {fd : FuncData} (Fu : Fun K "first_known" "first_known" (top 5) fa fd) (hm : mg "first_known" = some (.ref fa)) (hb : Binds K fd ["n", "talks", "member"] []) (B : Bt mg) (F_known_behind : Fn P w K mg base 1 "known_behind" D_known_behind) : Fn P w K mg base 2 "first_known" D_first_known := by
  refine fn_pure Fu hm sc_first_known hb (by decide) fun cdv A outer s H E hr => ?_
  have nd := sc_first_known.nd
  have hu64 := hr.units
  exact (ess_cons (es_for rfl (ei_r1 (l1 := .D) B.range (ea_cons ((ef_add ((ev_callB call_len rns_len B.len (by decide +kernel) (ea_cons ((ev_nI (i := 1)).toB) ea_nil))).uI (ev_int).uI)).vI ea_nil)) (eg_n (i := 3) nd) (ess_one (es_if (et_cmp (op_eqD hu64) r2s_eq ((ev_callB call_len rns_len B.len (by decide +kernel) (ea_cons ((ef_ix ((ef_call F_known_behind (hr.mono (by decide)) (ea_cons (ev_nD (i := 0)) (ea_cons ((ef_sl (ev_nI (i := 1)) eo_n (eo_s (ev_nI (i := 3))))).vD ea_nil)))).vI (ev_nI (i := 2)))).vB ea_nil))).uB ((ev_nI (i := 0)).toB) (nomark _)) (ess_one (es_ret ((ev_nD (i := 3))).f)) ess_nil)))
  (ess_one (es_ret (ev_non).f)))
theorem sc_needless_talks : FnScope ["n", "talks", "whole", "at"] ["n", "talks"] (defScope (top 6)) := ⟨rfl, rfl, rfl, by decide +kernel, rfl, by decide +kernel, by decide +kernel⟩
theorem ok_needless_talks {fa : Addr} {fd : FuncData} (Fu : Fun K "needless_talks" "needless_talks" (top 6) fa fd) (hm : mg "needless_talks" = some (.ref fa)) (hb : Binds K fd ["n", "talks"] []) (B : Bt mg) (F_known_behind : Fn P w K mg base 1 "known_behind" D_known_behind) : Fn P w K mg base 2 "needless_talks" D_needless_talks := by
  refine fn_pure Fu hm sc_needless_talks hb (by decide) fun cdv A outer s H E hr => ?_
  have nd := sc_needless_talks.nd
  have hu64 := hr.units
  exact (ess_cons (es_set (i := 2) nd (ef_call F_known_behind (hr.mono (by decide)) (ea_cons (ev_nD (i := 0)) (ea_cons (ev_nD (i := 1)) ea_nil))))
  (ess_one (es_ret (ef_callTy call_tuple_of rno_tuple B.tuple (by decide +kernel) (ea_cons ((ef_lc [("at", 3)] rfl nd (ei_r1 (l1 := .D) B.range (ea_cons ((ev_callB call_len rns_len B.len (by decide +kernel) (ea_cons ((ev_nI (i := 1)).toB) ea_nil))).uI ea_nil)) (by kernel_rfl) (fun _ _ _ _ _ => (eg_n (i := 3) nd)) (fun _ _ _ _ _ => (ets_one (et_cmp (op_eqD hu64) r2s_eq ((ef_call F_known_behind (hr.mono (by decide)) (ea_cons (ev_nD (i := 0)) (ea_cons ((ef_add ((ef_sl (ev_nI (i := 1)) eo_n (eo_s (ev_nI (i := 3))))).vI ((ef_sl (ev_nI (i := 1)) (eo_s ((ef_add (ev_nI (i := 3)) (ev_int).uI)).vI) eo_n)).vI)).vD ea_nil)))).vB ((ev_nI (i := 2)).toB) (nomark _)))) (fun _ _ _ _ _ => (ev_nD (i := 3))))).vI ea_nil)))))
theorem sc_rounds_of_talks : FnScope ["talks", "last", "one", "other", "number", "member"] ["talks"] (defScope (top 7)) := ⟨rfl, rfl, rfl, by decide +kernel, rfl, by decide +kernel, by decide +kernel⟩
theorem ok_rounds_of_talks {fa : Addr} {fd : FuncData} (Fu : Fun K "rounds_of_talks" "rounds_of_talks" (top 7) fa fd) (hm : mg "rounds_of_talks" = some (.ref fa)) (hb : Binds K fd ["talks"] []) (B : Bt mg)  : Fn P w K mg base 1 "rounds_of_talks" D_rounds_of_talks := by
  refine fn_pure Fu hm sc_rounds_of_talks hb (by decide) fun cdv A outer s H E hr => ?_
  have nd := sc_rounds_of_talks.nd
  have hu1 := hu_of hr
  exact (ess_cons (es_set (i := 1) nd ef_dict)
  (ess_cons (es_for rfl (ei_seq (ev_nD (i := 0))) (eg_tup rfl (egs_cons (eg_n (i := 2) nd) (egs_cons (eg_n (i := 3) nd) egs_nil))) (ess_cons (es_set (i := 4) nd (ef_add (ev_int).uI ((ev_callB (call_max2 rfl) rns_max2 B.max (by decide +kernel) (ea_cons ((ev_get2 hu1 (i := 1) (ev_nD (i := 2)) ev_int)).uB (ea_cons ((ev_get2 hu1 (i := 1) (ev_nD (i := 3)) ev_int)).uB ea_nil)))).uI))
  (ess_one (es_asgH ((ef_tup (ea_cons (ev_nD (i := 4)) (ea_cons (ev_nD (i := 4)) ea_nil)))).vD (eh_tup rfl (ehs_cons (eh_dset (i := 1) hu1 (ev_nD (i := 2))) (ehs_cons (eh_dset (i := 1) hu1 (ev_nD (i := 3))) ehs_nil)))))))
  (ess_one (es_ret ((ev_callB (cr_max rfl) rns_max B.max (by decide +kernel) (ea_cons ((ef_add ((ef_lst (ea_cons ev_int ea_nil))).vI ((ef_lcD (i := 1) [("member", 5)] rfl nd (by kernel_rfl) (fun _ _ _ _ _ => (eg_n (i := 5) nd)) (fun _ _ _ _ _ => ets_nil) (fun _ _ _ _ _ => (ev_dix hu1 (i := 1) (ev_nD (i := 5)))))).vI)).vB ea_nil))).f))))
theorem sc_law_draws : FnScope ["script", "many", "cells", "rest", "drawn", "k", "at", "once", "cell"] ["script", "many"] (defScope (top 9)) := ⟨rfl, rfl, rfl, by decide +kernel, rfl, by decide +kernel, by decide +kernel⟩
theorem ok_law_draws {fa : Addr} {fd : FuncData} (Fu : Fun K "_law_draws" "_law_draws" (top 9) fa fd) (hm : mg "_law_draws" = some (.ref fa)) (hb : Binds K fd ["script", "many"] []) (B : Bt mg)  : Fn P w K mg base 1 "_law_draws" D_law_draws := by
  refine fn_pure Fu hm sc_law_draws hb (by decide) fun cdv A outer s H E hr => ?_
  have nd := sc_law_draws.nd
  have hu64 := hr.units
  exact (ess_cons (es_setLc (i := 2) [("cell", 8)] rfl nd (ei_seq (ev_nI (i := 0))) (by kernel_rfl) (fun _ _ _ _ _ => (eg_n (i := 8) nd)) (fun _ _ _ _ _ => ets_nil) (fun _ _ _ _ _ => (ev_callTy call_int1 rns_int B.int (by decide +kernel) (ea_cons ((ev_nI (i := 8)).toB) ea_nil))) (sw_true rfl rfl rfl (by decide +kernel)))
  (ess_cons (es_if (et_cmp (op_eqD hu64) r2s_eq ((ev_callB call_len rns_len B.len (by decide +kernel) (ea_cons ((ev_nI (i := 2)).toB) ea_nil))).uB (ev_int).uB (nomark _)) (ess_one (es_expr (ev_mth (i := 2) PySem.F.slot_list_append PySem.F.type_list_append mt_append rm_append (ea_cons ev_int ea_nil)))) ess_nil)
  (ess_cons (es_set (i := 3) nd (ef_callTy call_list_of rno_list B.list (by decide +kernel) (ea_cons (ev_nI (i := 2)) ea_nil)))
  (ess_cons (es_set (i := 4) nd (ef_lst ea_nil))
  (ess_cons (es_for rfl (ei_r1 (l1 := .D) B.range (ea_cons (ev_nI (i := 1)) ea_nil)) (eg_n (i := 5) nd) (ess_cons (es_set (i := 6) nd ((ev_mod (ev_nI (i := 5)) ((ev_callB call_len rns_len B.len (by decide +kernel) (ea_cons ((ev_nI (i := 2)).toB) ea_nil))).uI)).f)
  (ess_one (es_if ((ew_and (et_cmp op_ge r2s_ge ((ef_ix (ev_nI (i := 2)) (ev_nI (i := 6)))).vB ((ev_pow (ev_int).uI (ev_int).uI)).uB (nomark _)) (ew_and1 (et_cmp op_gt r2s_gt ((ef_ix (ev_nI (i := 3)) (ev_nI (i := 6)))).vB (ev_int).uB (nomark _)))).t) (ess_cons (es_expr (ev_mth (i := 4) PySem.F.slot_list_append PySem.F.type_list_append mt_append rm_append (ea_cons (ev_mod ((ev_callTy call_int1 rns_int B.int (by decide +kernel) (ea_cons ((ef_ix (ev_nI (i := 3)) (ev_nI (i := 6)))).vB ea_nil))).uI (ev_int).uI) ea_nil)))
  (ess_one (es_asgH (ev_div ((ef_ix (ev_nI (i := 3)) (ev_nI (i := 6)))).vI (ev_int).uI) (eh_set (i := 3) (ev_nI (i := 6)))))) (ess_cons (es_set (i := 7) nd ((ev_mod ((ev_callTy call_int1 rns_int B.int (by decide +kernel) (ea_cons ((ef_add ((ef_add ((ef_mulA ((ef_ix (ev_nI (i := 2)) (ev_nI (i := 6)))).vI (ev_int).uI)).vI ((ef_mulA (ev_nI (i := 5)) (ev_int).uI)).vI)).vI (ev_int).uI)).vB ea_nil))).uI (ev_int).uI)).f)
  (ess_one (es_expr (ev_mth (i := 4) PySem.F.slot_list_append PySem.F.type_list_append mt_append rm_append (ea_cons (ev_mod ((ev_callTy call_int1 rns_int B.int (by decide +kernel) (ea_cons ((ef_add ((ef_add ((ef_mulA (ev_nI (i := 7)) (ev_nI (i := 7)))).vI ((ef_mulA (ev_int).uI (ev_nI (i := 7)))).vI)).vI (ev_nI (i := 5)))).vB ea_nil))).uI (ev_int).uI) ea_nil)))))))))
  (ess_cons (es_expr (ev_mth0 (i := 4) PySem.F.slot_list_reverse PySem.F.type_list_reverse mt_reverse rm_rev))
  (ess_one (es_ret (ef_mv (i := 4))))))))))
theorem sc_law_take : FnScope ["draws", "many"] ["draws", "many"] (defScope (top 10)) := ⟨rfl, rfl, rfl, by decide +kernel, rfl, by decide +kernel, by decide +kernel⟩
theorem ok_law_take {fa : Addr} {fd : FuncData} (Fu : Fun K "_law_take" "_law_take" (top 10) fa fd) (hm : mg "_law_take" = some (.ref fa)) (hb : Binds K fd ["draws", "many"] []) (B : Bt mg)  : Fi P w K mg base 1 "_law_take" 0 D_law_take := by
  refine fn_io Fu hm sc_law_take hb (by decide) fun cdv A outer s H E hr => ?_
  have nd := sc_law_take.nd
  have hu64 := hr.units
  exact (ess_cons (es_if (et_cmp (op_eqD hu64) r2s_eq ((ev_callB call_len rns_len B.len (by decide +kernel) (ea_cons ((ev_nI (i := 0)).toB) ea_nil))).uB (ev_int).uB (nomark _)) (ess_one (es_ret (ev_int).f)) ess_nil)
  (ess_one (es_ret ((ev_mod ((ev_callTy call_int1 rns_int B.int (by decide +kernel) (ea_cons (ev_mth0 (i := 0) PySem.F.slot_list_pop PySem.F.type_list_pop mt_pop rm_pop) ea_nil))).uI (ev_nI (i := 1)))).f)))
theorem sc_law_same : FnScope ["actual", "due", "k"] ["actual", "due"] (defScope (top 11)) := ⟨rfl, rfl, rfl, by decide +kernel, rfl, by decide +kernel, by decide +kernel⟩
theorem st_law_same {fa : Addr} {fd : FuncData} (Fu : Fun K "_law_same" "_law_same" (top 11) fa fd) (hm : mg "_law_same" = some (.ref fa)) (hb : Binds K fd ["actual", "due"] []) (B : Bt mg) {kr : Nat} {R : List PD → Option Res} (F_law_same : Fn P w K mg base kr "_law_same" R) : Fn P w K mg base (kr + 1) "_law_same" (runP 3 2 (b_law_same R)) := by
  refine fn_pure Fu hm sc_law_same hb (by decide) fun cdv A outer s H E hr => ?_
  have nd := sc_law_same.nd
  have hu64 := hr.units
  exact (ess_cons (es_if (et_cmp op_isN r2s_is ((ev_nI (i := 1)).toB) (ev_non).uB (nomark _)) (ess_one (es_ret ((ev_cmp op_isN r2s_is ((ev_nI (i := 0)).toB) (ev_non).uB (nomark _))).f)) ess_nil)
  (ess_cons (es_if (et_val ((ev_isi tok_bool B.isinstance B.bool (by decide +kernel) ((ev_nI (i := 1)).toB))).uB) (ess_one (es_ret ((ev_and ((ev_isi tok_bool B.isinstance B.bool (by decide +kernel) ((ev_nI (i := 0)).toB))).uB (ev_one (ev_cmp (op_eqD hu64) r2s_eq ((ev_nI (i := 0)).toB) ((ev_nI (i := 1)).toB) (nomark _))))).f)) ess_nil)
  (ess_cons (es_if (et_val ((ev_isi tok_int B.isinstance B.int (by decide +kernel) ((ev_nI (i := 1)).toB))).uB) (ess_one (es_ret ((ev_and ((ev_isi tok_int B.isinstance B.int (by decide +kernel) ((ev_nI (i := 0)).toB))).uB (ev_and ((ev_not ((ev_isi tok_bool B.isinstance B.bool (by decide +kernel) ((ev_nI (i := 0)).toB))).uB)).uB (ev_one (ev_cmp (op_eqD hu64) r2s_eq ((ev_nI (i := 0)).toB) ((ev_nI (i := 1)).toB) (nomark _)))))).f)) ess_nil)
  (ess_cons (es_if (et_val ((ev_isi tok_str B.isinstance B.str (by decide +kernel) ((ev_nI (i := 1)).toB))).uB) (ess_one (es_ret ((ev_and ((ev_isi tok_str B.isinstance B.str (by decide +kernel) ((ev_nI (i := 0)).toB))).uB (ev_one (ev_cmp (op_eqD hu64) r2s_eq ((ev_nI (i := 0)).toB) ((ev_nI (i := 1)).toB) (nomark _))))).f)) ess_nil)
  (ess_cons (es_if ((ew_or (et_not (et_val ((ev_isi tok_tuple B.isinstance B.tuple (by decide +kernel) ((ev_nI (i := 0)).toB))).uB)) (ew_or1 (et_cmp (op_neD hu64) r2s_ne ((ev_callB call_len rns_len B.len (by decide +kernel) (ea_cons ((ev_nI (i := 0)).toB) ea_nil))).uB ((ev_callB call_len rns_len B.len (by decide +kernel) (ea_cons ((ev_nI (i := 1)).toB) ea_nil))).uB (nomark _)))).t) (ess_one (es_ret (ev_bl).f)) ess_nil)
  (ess_cons (es_for rfl (ei_r1 (l1 := .D) B.range (ea_cons ((ev_callB call_len rns_len B.len (by decide +kernel) (ea_cons ((ev_nI (i := 1)).toB) ea_nil))).uI ea_nil)) (eg_n (i := 2) nd) (ess_one (es_if (et_not (et_val ((ef_call F_law_same (hr.mono (Nat.le_refl _)) (ea_cons ((ef_ix (ev_nI (i := 0)) (ev_nI (i := 2)))).vD (ea_cons ((ef_ix (ev_nI (i := 1)) (ev_nI (i := 2)))).vD ea_nil)))).vB)) (ess_one (es_ret (ev_bl).f)) ess_nil)))
  (ess_one (es_ret (ev_bl).f))))))))
theorem ok_law_same {fa : Addr} {fd : FuncData} (Fu : Fun K "_law_same" "_law_same" (top 11) fa fd) (hm : mg "_law_same" = some (.ref fa)) (hb : Binds K fd ["actual", "due"] []) (B : Bt mg) : Fn P w K mg base 13 "_law_same" D_law_same := by
  have key : ∀ k : Nat, Fn P w K mg base (k + 1) "_law_same" (Dn_law_same k) := fun k => by
    induction k with
    | zero => exact fn_zero Fu hm sc_law_same hb
    | succ k ih => exact st_law_same Fu hm hb B ih
  exact key 12
theorem sc_law_talks : FnScope ["draws", "n", "many", "wide", "found", "k", "one", "other"] ["draws", "n", "many"] (defScope (top 12)) := ⟨rfl, rfl, rfl, by decide +kernel, rfl, by decide +kernel, by decide +kernel⟩
theorem ok_law_talks {fa : Addr} {fd : FuncData} (Fu : Fun K "_law_talks" "_law_talks" (top 12) fa fd) (hm : mg "_law_talks" = some (.ref fa)) (hb : Binds K fd ["draws", "n", "many"] []) (B : Bt mg) (F_law_take : Fi P w K mg base 1 "_law_take" 0 D_law_take) : Fi P w K mg base 2 "_law_talks" 0 D_law_talks := by
  refine fn_io Fu hm sc_law_talks hb (by decide) fun cdv A outer s H E hr => ?_
  have nd := sc_law_talks.nd
  have hu64 := hr.units
  exact (ess_cons (es_set (i := 3) nd (ef_ix ((ef_lst (ea_cons (ev_nD (i := 1)) (ea_cons (ev_callB (call_min2 rfl) rns_min2 B.min (by decide +kernel) (ea_cons ((ev_nI (i := 1)).toB) (ea_cons (ev_int).uB ea_nil))) ea_nil)))).vD ((ev_callI F_law_take (hr.mono (by decide)) (ec_here (i := 0) (ea_cons ev_int ea_nil)))).uI))
  (ess_cons (es_set (i := 4) nd (ef_lst ea_nil))
  (ess_cons (es_for rfl (ei_r1 (l1 := .D) B.range (ea_cons ((ef_mulA (ev_nI (i := 2)) ((ev_callTy call_int1 rns_int B.int (by decide +kernel) (ea_cons ((ev_cmp op_gt r2s_gt ((ev_nI (i := 1)).toB) (ev_int).uB (nomark _))).uB ea_nil))).uI)).vI ea_nil)) (eg_n (i := 5) nd) (ess_cons (es_set (i := 6) nd ((ev_callI F_law_take (hr.mono (by decide)) (ec_here (i := 0) (ea_cons (ev_nD (i := 3)) ea_nil)))).f)
  (ess_cons (es_set (i := 7) nd ((ev_mod ((ev_callTy call_int1 rns_int B.int (by decide +kernel) (ea_cons ((ef_add ((ef_add (ev_nI (i := 6)) (ev_int).uI)).vD ((ev_callI F_law_take (hr.mono (by decide)) (ec_here (i := 0) (ea_cons (ev_sub (ev_nI (i := 3)) (ev_int).uI) ea_nil)))).uI)).vD ea_nil))).uI (ev_nI (i := 3)))).f)
  (ess_one (es_expr (ev_mth (i := 4) PySem.F.slot_list_append PySem.F.type_list_append mt_append rm_append (ea_cons ((ef_ix ((ef_lst (ea_cons ((ef_tup (ea_cons (ev_nD (i := 6)) (ea_cons (ev_nD (i := 7)) ea_nil)))).vD (ea_cons ((ef_ix ((ef_add (ev_nI (i := 4)) ((ef_lst (ea_cons ((ef_tup (ea_cons (ev_nD (i := 6)) (ea_cons (ev_nD (i := 7)) ea_nil)))).vD ea_nil))).vI)).vI (ev_int).uI)).vD ea_nil)))).vD ((ev_callTy call_int1 rns_int B.int (by decide +kernel) (ea_cons (ev_cmp (op_eqD hu64) r2s_eq ((ev_callI F_law_take (hr.mono (by decide)) (ec_here (i := 0) (ea_cons ev_int ea_nil)))).uB (ev_int).uB (nomark _)) ea_nil))).uI)).vD ea_nil)))))))
  (ess_one (es_ret (((ef_callTy call_tuple_of rno_tuple B.tuple (by decide +kernel) (ea_cons (ev_nI (i := 4)) ea_nil))).vD).f)))))
theorem sc_law_known : FnScope ["n", "talks", "found", "one", "other", "both", "member", "words"] ["n", "talks"] (defScope (top 13)) := ⟨rfl, rfl, rfl, by decide +kernel, rfl, by decide +kernel, by decide +kernel⟩
theorem ok_law_known {fa : Addr} {fd : FuncData} (Fu : Fun K "_law_known" "_law_known" (top 13) fa fd) (hm : mg "_law_known" = some (.ref fa)) (hb : Binds K fd ["n", "talks"] []) (B : Bt mg)  : Fn P w K mg base 1 "_law_known" D_law_known := by
  refine fn_pure Fu hm sc_law_known hb (by decide) fun cdv A outer s H E hr => ?_
  have nd := sc_law_known.nd
  exact (ess_cons (es_setLc (i := 2) [("member", 6)] rfl nd (ei_r1 (l1 := .D) B.range (ea_cons (ev_nI (i := 0)) ea_nil)) (by kernel_rfl) (fun _ _ _ _ _ => (eg_n (i := 6) nd)) (fun _ _ _ _ _ => ets_nil) (fun _ _ _ _ _ => ((ef_lst (ea_cons (ev_nD (i := 6)) ea_nil))).vD) (sw_true rfl rfl rfl (by decide +kernel)))
  (ess_cons (es_for rfl (ei_seq (ev_nD (i := 1))) (eg_tup rfl (egs_cons (eg_n (i := 3) nd) (egs_cons (eg_n (i := 4) nd) egs_nil))) (ess_cons (es_set (i := 5) nd (ef_sortedSet rfl B.sorted B.set ((ef_add ((ef_ix (ev_nI (i := 2)) (ev_nI (i := 3)))).vI ((ef_ix (ev_nI (i := 2)) (ev_nI (i := 4)))).vI)).vI))
  (ess_cons (es_asgH (ev_z (i := 5)) (eh_set (i := 2) (ev_nI (i := 3))))
  (ess_one (es_asgH (ev_z (i := 5)) (eh_set (i := 2) (ev_nI (i := 4))))))))
  (ess_one (es_ret (ef_callTy call_tuple_of rno_tuple B.tuple (by decide +kernel) (ea_cons ((ef_lc [("words", 7)] rfl nd (ei_seq (ev_nI (i := 2))) (by kernel_rfl) (fun _ _ _ _ _ => (eg_n (i := 7) nd)) (fun _ _ _ _ _ => ets_nil) (fun _ _ _ _ _ => ((ef_callTy call_tuple_of rno_tuple B.tuple (by decide +kernel) (ea_cons (ev_nI (i := 7)) ea_nil))).vD))).vI ea_nil))))))
theorem sc_law_rounds : FnScope ["talks", "found", "at", "ahead", "k"] ["talks"] (defScope (top 14)) := ⟨rfl, rfl, rfl, by decide +kernel, rfl, by decide +kernel, by decide +kernel⟩
theorem ok_law_rounds {fa : Addr} {fd : FuncData} (Fu : Fun K "_law_rounds" "_law_rounds" (top 14) fa fd) (hm : mg "_law_rounds" = some (.ref fa)) (hb : Binds K fd ["talks"] []) (B : Bt mg)  : Fn P w K mg base 1 "_law_rounds" D_law_rounds := by
  refine fn_pure Fu hm sc_law_rounds hb (by decide) fun cdv A outer s H E hr => ?_
  have nd := sc_law_rounds.nd
  exact (ess_cons (es_set (i := 1) nd (ef_lst ea_nil))
  (ess_cons (es_for rfl (ei_r1 (l1 := .D) B.range (ea_cons ((ev_callB call_len rns_len B.len (by decide +kernel) (ea_cons ((ev_nI (i := 0)).toB) ea_nil))).uI ea_nil)) (eg_n (i := 2) nd) (ess_cons (es_setLc (i := 3) [("k", 4)] rfl nd (ei_r1 (l1 := .D) B.range (ea_cons (ev_nI (i := 2)) ea_nil)) (by kernel_rfl) (fun _ _ _ _ _ => (eg_n (i := 4) nd)) (fun _ _ _ _ _ => (ets_one (et_cmp op_lt r2s_lt ((ev_lenSet rfl B.len B.set ((ef_add ((ef_ix (ev_nI (i := 0)) (ev_nI (i := 2)))).vI ((ef_ix (ev_nI (i := 0)) (ev_nI (i := 4)))).vI)).vI)).uB (ev_int).uB (nomark _)))) (fun _ _ _ _ _ => ((ef_ix (ev_nI (i := 1)) (ev_nI (i := 4)))).vD) (sw_true rfl rfl rfl (by decide +kernel)))
  (ess_one (es_expr (ev_mth (i := 1) PySem.F.slot_list_append PySem.F.type_list_append mt_append rm_append (ea_cons ((ef_add (ev_int).uI ((ev_callB (cr_max rfl) rns_max B.max (by decide +kernel) (ea_cons ((ef_add (ev_nI (i := 3)) ((ef_lst (ea_cons ev_int ea_nil))).vI)).vB ea_nil))).uI)).vD ea_nil))))))
  (ess_one (es_ret ((ev_callB (cr_max rfl) rns_max B.max (by decide +kernel) (ea_cons ((ef_add (ev_nI (i := 1)) ((ef_lst (ea_cons ev_int ea_nil))).vI)).vB ea_nil))).f))))
theorem sc_law_told : FnScope ["n", "others", "member"] ["n"] (defScope (top 15)) := ⟨rfl, rfl, rfl, by decide +kernel, rfl, by decide +kernel, by decide +kernel⟩
theorem ok_law_told {fa : Addr} {fd : FuncData} (Fu : Fun K "_law_told" "_law_told" (top 15) fa fd) (hm : mg "_law_told" = some (.ref fa)) (hb : Binds K fd ["n"] []) (B : Bt mg)  : Fn P w K mg base 1 "_law_told" D_law_told := by
  refine fn_pure Fu hm sc_law_told hb (by decide) fun cdv A outer s H E hr => ?_
  have nd := sc_law_told.nd
  exact (ess_cons (es_if (et_cmp op_lt r2s_lt ((ev_nI (i := 0)).toB) (ev_int).uB (nomark _)) (ess_one (es_ret (ef_ix ((ef_lst (ea_cons ((ef_tup ea_nil)).vD (ea_cons ((ef_tup ea_nil)).vD (ea_cons ((ef_tup (ea_cons ((ef_tup (ea_cons ev_int (ea_cons ev_int ea_nil)))).vD ea_nil))).vD (ea_cons ((ef_tup (ea_cons ((ef_tup (ea_cons ev_int (ea_cons ev_int ea_nil)))).vD (ea_cons ((ef_tup (ea_cons ev_int (ea_cons ev_int ea_nil)))).vD (ea_cons ((ef_tup (ea_cons ev_int (ea_cons ev_int ea_nil)))).vD ea_nil))))).vD ea_nil)))))).vI (ev_nI (i := 0))))) ess_nil)
  (ess_cons (es_set (i := 1) nd (ef_callTy call_tuple_of rno_tuple B.tuple (by decide +kernel) (ea_cons ((ef_lc [("member", 2)] rfl nd (ei_r2 (l1 := .D) B.range (ea_cons (ev_int).uI (ea_cons (ev_nI (i := 0)) ea_nil))) (by kernel_rfl) (fun _ _ _ _ _ => (eg_n (i := 2) nd)) (fun _ _ _ _ _ => ets_nil) (fun _ _ _ _ _ => ((ef_tup (ea_cons ev_int (ea_cons (ev_nD (i := 2)) ea_nil)))).vD))).vI ea_nil)))
  (ess_one (es_ret (ef_add ((ef_add (ev_nI (i := 1)) ((ef_tup (ea_cons ((ef_tup (ea_cons ev_int (ea_cons ev_int ea_nil)))).vD (ea_cons ((ef_tup (ea_cons ev_int (ea_cons ev_int ea_nil)))).vD (ea_cons ((ef_tup (ea_cons ev_int (ea_cons ev_int ea_nil)))).vD (ea_cons ((ef_tup (ea_cons ev_int (ea_cons ev_int ea_nil)))).vD ea_nil)))))).vI)).vI (ev_nI (i := 1)))))))
theorem sc_law_are_talks_right : FnScope ["draws", "n", "talks", "known", "needless", "k", "member", "due", "at", "many"] ["draws", "n", "talks"] (defScope (top 16)) := ⟨rfl, rfl, rfl, by decide +kernel, rfl, by decide +kernel, by decide +kernel⟩
theorem ok_law_are_talks_right {fa : Addr} {fd : FuncData} (Fu : Fun K "_law_are_talks_right" "_law_are_talks_right" (top 16) fa fd) (hm : mg "_law_are_talks_right" = some (.ref fa)) (hb : Binds K fd ["draws", "n", "talks"] []) (B : Bt mg) (F_known_behind : Fn P w K mg base 1 "known_behind" D_known_behind) (F_all_know : Fn P w K mg base 2 "all_know" D_all_know) (F_first_known : Fn P w K mg base 2 "first_known" D_first_known) (F_needless_talks : Fn P w K mg base 2 "needless_talks" D_needless_talks) (F_rounds_of_talks : Fn P w K mg base 1 "rounds_of_talks" D_rounds_of_talks) (F_law_take : Fi P w K mg base 1 "_law_take" 0 D_law_take) (F_law_same : Fn P w K mg base 13 "_law_same" D_law_same) (F_law_known : Fn P w K mg base 1 "_law_known" D_law_known) (F_law_rounds : Fn P w K mg base 1 "_law_rounds" D_law_rounds) : Fi P w K mg base 14 "_law_are_talks_right" 0 D_law_are_talks_right := by
  refine fn_io Fu hm sc_law_are_talks_right hb (by decide) fun cdv A outer s H E hr => ?_
  have nd := sc_law_are_talks_right.nd
  have hu64 := hr.units
  exact (ess_cons (es_set (i := 3) nd (ef_call F_law_known (hr.mono (by decide)) (ea_cons (ev_nD (i := 1)) (ea_cons (ev_nD (i := 2)) ea_nil))))
  (ess_cons (es_if ((ew_or (et_not (et_val ((ef_call F_law_same (hr.mono (by decide)) (ea_cons ((ef_call F_known_behind (hr.mono (by decide)) (ea_cons (ev_nD (i := 1)) (ea_cons (ev_nD (i := 2)) ea_nil)))).vD (ea_cons (ev_nD (i := 3)) ea_nil)))).vB)) (ew_or1 (et_not (et_val ((ef_call F_law_same (hr.mono (by decide)) (ea_cons ((ef_call F_all_know (hr.mono (by decide)) (ea_cons (ev_nD (i := 1)) (ea_cons (ev_nD (i := 2)) ea_nil)))).vD (ea_cons (ev_cmp (op_eqD hu64) r2s_eq ((ev_nI (i := 3)).toB) ((ef_mulA ((ef_tup (ea_cons ((ef_tupR1 rfl B.tuple B.range (ev_nI (i := 1)))).vD ea_nil))).vI (ev_nI (i := 1)))).vB (nomark _)) ea_nil)))).vB)))).t) (ess_one (es_ret (ev_bl).f)) ess_nil)
  (ess_cons (es_setLc (i := 4) [("at", 8)] rfl nd (ei_r1 (l1 := .D) B.range (ea_cons ((ev_callB call_len rns_len B.len (by decide +kernel) (ea_cons ((ev_nI (i := 2)).toB) ea_nil))).uI ea_nil)) (by kernel_rfl) (fun _ _ _ _ _ => (eg_n (i := 8) nd)) (fun _ _ _ _ _ => (ets_one (et_cmp (op_eqD hu64) r2s_eq ((ef_call F_law_known (hr.mono (by decide)) (ea_cons (ev_nD (i := 1)) (ea_cons ((ef_add ((ef_sl (ev_nI (i := 2)) eo_n (eo_s (ev_nI (i := 8))))).vI ((ef_sl (ev_nI (i := 2)) (eo_s ((ef_add (ev_nI (i := 8)) (ev_int).uI)).vI) eo_n)).vI)).vD ea_nil)))).vB ((ev_nI (i := 3)).toB) (nomark _)))) (fun _ _ _ _ _ => (ev_nD (i := 8))) (sw_true rfl rfl rfl (by decide +kernel)))
  (ess_cons (es_if ((ew_or (et_not (et_val ((ef_call F_law_same (hr.mono (by decide)) (ea_cons ((ef_call F_needless_talks (hr.mono (by decide)) (ea_cons (ev_nD (i := 1)) (ea_cons (ev_nD (i := 2)) ea_nil)))).vD (ea_cons ((ef_callTy call_tuple_of rno_tuple B.tuple (by decide +kernel) (ea_cons (ev_nI (i := 4)) ea_nil))).vD ea_nil)))).vB)) (ew_or1 (et_not (et_val ((ef_call F_law_same (hr.mono (by decide)) (ea_cons ((ef_call F_rounds_of_talks (hr.mono (by decide)) (ea_cons (ev_nD (i := 2)) ea_nil))).vD (ea_cons ((ef_call F_law_rounds (hr.mono (by decide)) (ea_cons (ev_nD (i := 2)) ea_nil))).vD ea_nil)))).vB)))).t) (ess_one (es_ret (ev_bl).f)) ess_nil)
  (ess_cons (es_for rfl (ei_r1 (l1 := .D) B.range (ea_cons (ev_int).uI ea_nil)) (eg_n (i := 5) nd) (ess_cons (es_set (i := 6) nd ((ev_callI F_law_take (hr.mono (by decide)) (ec_here (i := 0) (ea_cons (ev_nD (i := 1)) ea_nil)))).f)
  (ess_cons (es_setLc (i := 7) [("many", 9)] rfl nd (ei_r1 (l1 := .D) B.range (ea_cons ((ef_add ((ev_callB call_len rns_len B.len (by decide +kernel) (ea_cons ((ev_nI (i := 2)).toB) ea_nil))).uI (ev_int).uI)).vI ea_nil)) (by kernel_rfl) (fun _ _ _ _ _ => (eg_n (i := 9) nd)) (fun _ _ _ _ _ => (ets_one (et_cmp (op_eqD hu64) r2s_eq ((ev_callB call_len rns_len B.len (by decide +kernel) (ea_cons ((ef_ix ((ef_call F_law_known (hr.mono (by decide)) (ea_cons (ev_nD (i := 1)) (ea_cons ((ef_sl (ev_nI (i := 2)) eo_n (eo_s (ev_nI (i := 9))))).vD ea_nil)))).vI (ev_nI (i := 6)))).vB ea_nil))).uB ((ev_nI (i := 1)).toB) (nomark _)))) (fun _ _ _ _ _ => (ev_nD (i := 9))) (sw_true rfl rfl rfl (by decide +kernel)))
  (ess_one (es_if (et_not (et_val ((ef_call F_law_same (hr.mono (by decide)) (ea_cons ((ef_call F_first_known (hr.mono (by decide)) (ea_cons (ev_nD (i := 1)) (ea_cons (ev_nD (i := 2)) (ea_cons (ev_nD (i := 6)) ea_nil))))).vD (ea_cons ((ef_ix ((ef_add (ev_nI (i := 7)) ((ef_lst (ea_cons ev_non ea_nil))).vI)).vI (ev_int).uI)).vD ea_nil)))).vB)) (ess_one (es_ret (ev_bl).f)) ess_nil)))))
  (ess_one (es_ret (ev_bl).f)))))))
theorem sc_law : FnScope ["script", "draws", "turn", "n", "talks", "told"] ["script"] (defScope (top 17)) := ⟨rfl, rfl, rfl, by decide +kernel, rfl, by decide +kernel, by decide +kernel⟩
theorem ok_law_raw {fa : Addr} {fd : FuncData} (Fu : Fun K "law" "law" (top 17) fa fd) (B : Bt mg) (F_fewest_talks : Fn P w K mg base 1 "fewest_talks" D_fewest_talks) (F_told_talks : Fn P w K mg base 1 "told_talks" D_told_talks) (F_first_known : Fn P w K mg base 2 "first_known" D_first_known) (F_needless_talks : Fn P w K mg base 2 "needless_talks" D_needless_talks) (F_rounds_of_talks : Fn P w K mg base 1 "rounds_of_talks" D_rounds_of_talks) (F_law_draws : Fn P w K mg base 1 "_law_draws" D_law_draws) (F_law_take : Fi P w K mg base 1 "_law_take" 0 D_law_take) (F_law_same : Fn P w K mg base 13 "_law_same" D_law_same) (F_law_talks : Fi P w K mg base 2 "_law_talks" 0 D_law_talks) (F_law_told : Fn P w K mg base 1 "_law_told" D_law_told) (F_law_are_talks_right : Fi P w K mg base 14 "_law_are_talks_right" 0 D_law_are_talks_right) : FnOk P w K mg base CX0 15 fa fd ["script"] (SpP K D_law) := by
  refine fn_raw Fu sc_law (by decide) fun cdv A outer s H E hr => ?_
  have nd := sc_law.nd
  have hu64 := hr.units
  exact (ess_cons (es_set (i := 1) nd (ef_call F_law_draws (hr.mono (by decide)) (ea_cons (ev_nD (i := 0)) (ea_cons ev_int ea_nil))))
  (ess_cons (es_for rfl (ei_r1 (l1 := .D) B.range (ea_cons (ev_int).uI ea_nil)) (eg_n (i := 2) nd) (ess_cons (es_set (i := 3) nd (ef_add ev_int ((ev_callI F_law_take (hr.mono (by decide)) (ec_here (i := 1) (ea_cons ((ef_ix ((ef_lst (ea_cons ev_int (ea_cons ev_int ea_nil)))).vD ((ev_callTy call_int1 rns_int B.int (by decide +kernel) (ea_cons (ev_cmp (op_eqD hu64) r2s_eq ((ev_callI F_law_take (hr.mono (by decide)) (ec_here (i := 1) (ea_cons ev_int ea_nil)))).uB (ev_int).uB (nomark _)) ea_nil))).uI)).vD ea_nil)))).uI))
  (ess_cons (es_set (i := 4) nd ((ev_callI F_law_talks (hr.mono (by decide)) (ec_here (i := 1) (ea_cons (ev_nD (i := 3)) (ea_cons (ev_callI F_law_take (hr.mono (by decide)) (ec_here (i := 1) (ea_cons ((ef_ix ((ef_lst (ea_cons ev_int (ea_cons ev_int ea_nil)))).vD ((ev_callI F_law_take (hr.mono (by decide)) (ec_here (i := 1) (ea_cons ev_int ea_nil)))).uI)).vD ea_nil))) ea_nil))))).f)
  (ess_one (es_if (et_not (et_val ((ev_callI F_law_are_talks_right (hr.mono (by decide)) (ec_here (i := 1) (ea_cons (ev_nD (i := 3)) (ea_cons (ev_nD (i := 4)) ea_nil))))).uB)) (ess_one (es_ret (ev_bl).f)) ess_nil)))))
  (ess_cons (es_set (i := 5) nd (ef_call F_law_told (hr.mono (by decide)) (ea_cons (ev_nD (i := 3)) ea_nil)))
  (ess_cons (es_if ((ew_or (et_not (et_val ((ef_call F_law_same (hr.mono (by decide)) (ea_cons ((ef_call F_told_talks (hr.mono (by decide)) (ea_cons (ev_nD (i := 3)) ea_nil))).vD (ea_cons (ev_nD (i := 5)) ea_nil)))).vB)) (ew_or (et_not (et_val ((ef_call F_law_same (hr.mono (by decide)) (ea_cons ((ef_call F_fewest_talks (hr.mono (by decide)) (ea_cons (ev_nD (i := 3)) ea_nil))).vD (ea_cons (ev_callB call_len rns_len B.len (by decide +kernel) (ea_cons ((ev_nI (i := 5)).toB) ea_nil)) ea_nil)))).vB)) (ew_or1 (et_not (et_val ((ev_callI F_law_are_talks_right (hr.mono (by decide)) (ec_here (i := 1) (ea_cons (ev_nD (i := 3)) (ea_cons (ev_nD (i := 5)) ea_nil))))).uB))))).t) (ess_one (es_ret (ev_bl).f)) ess_nil)
  (ess_cons (es_if ((ew_or (et_not (et_val ((ef_call F_law_same (hr.mono (by decide)) (ea_cons ((ef_call F_needless_talks (hr.mono (by decide)) (ea_cons ev_int (ea_cons ((ef_tup (ea_cons ((ef_tup (ea_cons ev_int (ea_cons ev_int ea_nil)))).vD (ea_cons ((ef_tup (ea_cons ev_int (ea_cons ev_int ea_nil)))).vD (ea_cons ((ef_tup (ea_cons ev_int (ea_cons ev_int ea_nil)))).vD ea_nil))))).vD ea_nil)))).vD (ea_cons ((ef_tup (ea_cons ev_int (ea_cons ev_int ea_nil)))).vD ea_nil)))).vB)) (ew_or1 (et_not (et_val ((ef_call F_law_same (hr.mono (by decide)) (ea_cons ((ef_call F_first_known (hr.mono (by decide)) (ea_cons ev_int (ea_cons ((ef_tup (ea_cons ((ef_tup (ea_cons ev_int (ea_cons ev_int ea_nil)))).vD (ea_cons ((ef_tup (ea_cons ev_int (ea_cons ev_int ea_nil)))).vD (ea_cons ((ef_tup (ea_cons ev_int (ea_cons ev_int ea_nil)))).vD ea_nil))))).vD (ea_cons ev_int ea_nil))))).vD (ea_cons ev_int ea_nil)))).vB)))).t) (ess_one (es_ret (ev_bl).f)) ess_nil)
  (ess_one (es_ret ((ev_and ((ef_call F_law_same (hr.mono (by decide)) (ea_cons ((ef_call F_rounds_of_talks (hr.mono (by decide)) (ea_cons ((ef_tup (ea_cons ((ef_tup (ea_cons ev_int (ea_cons ev_int ea_nil)))).vD (ea_cons ((ef_tup (ea_cons ev_int (ea_cons ev_int ea_nil)))).vD (ea_cons ((ef_tup (ea_cons ev_int (ea_cons ev_int ea_nil)))).vD (ea_cons ((ef_tup (ea_cons ev_int (ea_cons ev_int ea_nil)))).vD ea_nil)))))).vD ea_nil))).vD (ea_cons ev_int ea_nil)))).vB (ev_and ((ef_call F_law_same (hr.mono (by decide)) (ea_cons ((ef_call F_first_known (hr.mono (by decide)) (ea_cons ev_int (ea_cons ((ef_tup ea_nil)).vD (ea_cons ev_int ea_nil))))).vD (ea_cons ev_int ea_nil)))).vB (ev_one ((ef_call F_law_same (hr.mono (by decide)) (ea_cons ((ef_call F_fewest_talks (hr.mono (by decide)) (ea_cons ev_int ea_nil))).vD (ea_cons ev_int ea_nil)))).vD)))).f)))))))
end
theorem all_mk {l : PySem.W.OpenLaw} {w : World} {K : Fg} {h : Heap} {mg : Str → Option Value} {fa : Addr} (X : K.In h) (G : h.Ns mainGlobals mg) (hfa : mg "law" = some (.ref fa)) (true_all : ∀ ns : List Int, ns.length ≤ 63 → D_law [.list (ns.map .int)] = some (.val (.bool true)))
    {f0 : Addr} {od0 an0 : Option Addr} {sl0 : Array (Option Value)} {oc0 kV0 dc0 pm0 cd0 ct0 : Value} (a0 : PySem.W.nsIn K mainGlobals "known_behind" = some (some (.ref f0))) (l0 : K.lookup f0 = some ⟨oc0, od0, .func (PySem.W.fnOf "known_behind" "known_behind" (defArgs (top 1)) (defBody (top 1)) (defScope (top 1)) .none kV0 dc0 pm0 an0 cd0 ct0), sl0⟩) (c0 : PySem.W.codeIn K cd0 "known_behind" = true) (k0 : PySem.W.keepIn K (.ref f0) = true)
    {f1 : Addr} {od1 an1 : Option Addr} {sl1 : Array (Option Value)} {oc1 kV1 dc1 pm1 cd1 ct1 : Value} (a1 : PySem.W.nsIn K mainGlobals "all_know" = some (some (.ref f1))) (l1 : K.lookup f1 = some ⟨oc1, od1, .func (PySem.W.fnOf "all_know" "all_know" (defArgs (top 2)) (defBody (top 2)) (defScope (top 2)) .none kV1 dc1 pm1 an1 cd1 ct1), sl1⟩) (c1 : PySem.W.codeIn K cd1 "all_know" = true) (k1 : PySem.W.keepIn K (.ref f1) = true)
    {f2 : Addr} {od2 an2 : Option Addr} {sl2 : Array (Option Value)} {oc2 kV2 dc2 pm2 cd2 ct2 : Value} (a2 : PySem.W.nsIn K mainGlobals "fewest_talks" = some (some (.ref f2))) (l2 : K.lookup f2 = some ⟨oc2, od2, .func (PySem.W.fnOf "fewest_talks" "fewest_talks" (defArgs (top 3)) (defBody (top 3)) (defScope (top 3)) .none kV2 dc2 pm2 an2 cd2 ct2), sl2⟩) (c2 : PySem.W.codeIn K cd2 "fewest_talks" = true) (k2 : PySem.W.keepIn K (.ref f2) = true)
    {f3 : Addr} {od3 an3 : Option Addr} {sl3 : Array (Option Value)} {oc3 kV3 dc3 pm3 cd3 ct3 : Value} (a3 : PySem.W.nsIn K mainGlobals "told_talks" = some (some (.ref f3))) (l3 : K.lookup f3 = some ⟨oc3, od3, .func (PySem.W.fnOf "told_talks" "told_talks" (defArgs (top 4)) (defBody (top 4)) (defScope (top 4)) .none kV3 dc3 pm3 an3 cd3 ct3), sl3⟩) (c3 : PySem.W.codeIn K cd3 "told_talks" = true) (k3 : PySem.W.keepIn K (.ref f3) = true)
    {f4 : Addr} {od4 an4 : Option Addr} {sl4 : Array (Option Value)} {oc4 kV4 dc4 pm4 cd4 ct4 : Value} (a4 : PySem.W.nsIn K mainGlobals "first_known" = some (some (.ref f4))) (l4 : K.lookup f4 = some ⟨oc4, od4, .func (PySem.W.fnOf "first_known" "first_known" (defArgs (top 5)) (defBody (top 5)) (defScope (top 5)) .none kV4 dc4 pm4 an4 cd4 ct4), sl4⟩) (c4 : PySem.W.codeIn K cd4 "first_known" = true) (k4 : PySem.W.keepIn K (.ref f4) = true)
    {f5 : Addr} {od5 an5 : Option Addr} {sl5 : Array (Option Value)} {oc5 kV5 dc5 pm5 cd5 ct5 : Value} (a5 : PySem.W.nsIn K mainGlobals "needless_talks" = some (some (.ref f5))) (l5 : K.lookup f5 = some ⟨oc5, od5, .func (PySem.W.fnOf "needless_talks" "needless_talks" (defArgs (top 6)) (defBody (top 6)) (defScope (top 6)) .none kV5 dc5 pm5 an5 cd5 ct5), sl5⟩) (c5 : PySem.W.codeIn K cd5 "needless_talks" = true) (k5 : PySem.W.keepIn K (.ref f5) = true)
    {f6 : Addr} {od6 an6 : Option Addr} {sl6 : Array (Option Value)} {oc6 kV6 dc6 pm6 cd6 ct6 : Value} (a6 : PySem.W.nsIn K mainGlobals "rounds_of_talks" = some (some (.ref f6))) (l6 : K.lookup f6 = some ⟨oc6, od6, .func (PySem.W.fnOf "rounds_of_talks" "rounds_of_talks" (defArgs (top 7)) (defBody (top 7)) (defScope (top 7)) .none kV6 dc6 pm6 an6 cd6 ct6), sl6⟩) (c6 : PySem.W.codeIn K cd6 "rounds_of_talks" = true) (k6 : PySem.W.keepIn K (.ref f6) = true)
    {f7 : Addr} {od7 an7 : Option Addr} {sl7 : Array (Option Value)} {oc7 kV7 dc7 pm7 cd7 ct7 : Value} (a7 : PySem.W.nsIn K mainGlobals "_law_draws" = some (some (.ref f7))) (l7 : K.lookup f7 = some ⟨oc7, od7, .func (PySem.W.fnOf "_law_draws" "_law_draws" (defArgs (top 9)) (defBody (top 9)) (defScope (top 9)) .none kV7 dc7 pm7 an7 cd7 ct7), sl7⟩) (c7 : PySem.W.codeIn K cd7 "_law_draws" = true) (k7 : PySem.W.keepIn K (.ref f7) = true)
    {f8 : Addr} {od8 an8 : Option Addr} {sl8 : Array (Option Value)} {oc8 kV8 dc8 pm8 cd8 ct8 : Value} (a8 : PySem.W.nsIn K mainGlobals "_law_take" = some (some (.ref f8))) (l8 : K.lookup f8 = some ⟨oc8, od8, .func (PySem.W.fnOf "_law_take" "_law_take" (defArgs (top 10)) (defBody (top 10)) (defScope (top 10)) .none kV8 dc8 pm8 an8 cd8 ct8), sl8⟩) (c8 : PySem.W.codeIn K cd8 "_law_take" = true) (k8 : PySem.W.keepIn K (.ref f8) = true)
    {f9 : Addr} {od9 an9 : Option Addr} {sl9 : Array (Option Value)} {oc9 kV9 dc9 pm9 cd9 ct9 : Value} (a9 : PySem.W.nsIn K mainGlobals "_law_same" = some (some (.ref f9))) (l9 : K.lookup f9 = some ⟨oc9, od9, .func (PySem.W.fnOf "_law_same" "_law_same" (defArgs (top 11)) (defBody (top 11)) (defScope (top 11)) .none kV9 dc9 pm9 an9 cd9 ct9), sl9⟩) (c9 : PySem.W.codeIn K cd9 "_law_same" = true) (k9 : PySem.W.keepIn K (.ref f9) = true)
    {f10 : Addr} {od10 an10 : Option Addr} {sl10 : Array (Option Value)} {oc10 kV10 dc10 pm10 cd10 ct10 : Value} (a10 : PySem.W.nsIn K mainGlobals "_law_talks" = some (some (.ref f10))) (l10 : K.lookup f10 = some ⟨oc10, od10, .func (PySem.W.fnOf "_law_talks" "_law_talks" (defArgs (top 12)) (defBody (top 12)) (defScope (top 12)) .none kV10 dc10 pm10 an10 cd10 ct10), sl10⟩) (c10 : PySem.W.codeIn K cd10 "_law_talks" = true) (k10 : PySem.W.keepIn K (.ref f10) = true)
    {f11 : Addr} {od11 an11 : Option Addr} {sl11 : Array (Option Value)} {oc11 kV11 dc11 pm11 cd11 ct11 : Value} (a11 : PySem.W.nsIn K mainGlobals "_law_known" = some (some (.ref f11))) (l11 : K.lookup f11 = some ⟨oc11, od11, .func (PySem.W.fnOf "_law_known" "_law_known" (defArgs (top 13)) (defBody (top 13)) (defScope (top 13)) .none kV11 dc11 pm11 an11 cd11 ct11), sl11⟩) (c11 : PySem.W.codeIn K cd11 "_law_known" = true) (k11 : PySem.W.keepIn K (.ref f11) = true)
    {f12 : Addr} {od12 an12 : Option Addr} {sl12 : Array (Option Value)} {oc12 kV12 dc12 pm12 cd12 ct12 : Value} (a12 : PySem.W.nsIn K mainGlobals "_law_rounds" = some (some (.ref f12))) (l12 : K.lookup f12 = some ⟨oc12, od12, .func (PySem.W.fnOf "_law_rounds" "_law_rounds" (defArgs (top 14)) (defBody (top 14)) (defScope (top 14)) .none kV12 dc12 pm12 an12 cd12 ct12), sl12⟩) (c12 : PySem.W.codeIn K cd12 "_law_rounds" = true) (k12 : PySem.W.keepIn K (.ref f12) = true)
    {f13 : Addr} {od13 an13 : Option Addr} {sl13 : Array (Option Value)} {oc13 kV13 dc13 pm13 cd13 ct13 : Value} (a13 : PySem.W.nsIn K mainGlobals "_law_told" = some (some (.ref f13))) (l13 : K.lookup f13 = some ⟨oc13, od13, .func (PySem.W.fnOf "_law_told" "_law_told" (defArgs (top 15)) (defBody (top 15)) (defScope (top 15)) .none kV13 dc13 pm13 an13 cd13 ct13), sl13⟩) (c13 : PySem.W.codeIn K cd13 "_law_told" = true) (k13 : PySem.W.keepIn K (.ref f13) = true)
    {f14 : Addr} {od14 an14 : Option Addr} {sl14 : Array (Option Value)} {oc14 kV14 dc14 pm14 cd14 ct14 : Value} (a14 : PySem.W.nsIn K mainGlobals "_law_are_talks_right" = some (some (.ref f14))) (l14 : K.lookup f14 = some ⟨oc14, od14, .func (PySem.W.fnOf "_law_are_talks_right" "_law_are_talks_right" (defArgs (top 16)) (defBody (top 16)) (defScope (top 16)) .none kV14 dc14 pm14 an14 cd14 ct14), sl14⟩) (c14 : PySem.W.codeIn K cd14 "_law_are_talks_right" = true) (k14 : PySem.W.keepIn K (.ref f14) = true)
    {f15 : Addr} {od15 an15 : Option Addr} {sl15 : Array (Option Value)} {oc15 kV15 dc15 pm15 cd15 ct15 : Value} (a15 : PySem.W.nsIn K mainGlobals "law" = some (some (.ref f15))) (l15 : K.lookup f15 = some ⟨oc15, od15, .func (PySem.W.fnOf "law" "law" (defArgs (top 17)) (defBody (top 17)) (defScope (top 17)) .none kV15 dc15 pm15 an15 cd15 ct15), sl15⟩) (c15 : PySem.W.codeIn K cd15 "law" = true) (k15 : PySem.W.keepIn K (.ref f15) = true)
    (z0 : PySem.W.nsIn K mainGlobals "all" = some none)    (z1 : PySem.W.nsIn K mainGlobals "bool" = some none)    (z2 : PySem.W.nsIn K mainGlobals "int" = some none)    (z3 : PySem.W.nsIn K mainGlobals "isinstance" = some none)    (z4 : PySem.W.nsIn K mainGlobals "len" = some none)    (z5 : PySem.W.nsIn K mainGlobals "list" = some none)    (z6 : PySem.W.nsIn K mainGlobals "max" = some none)    (z7 : PySem.W.nsIn K mainGlobals "min" = some none)    (z8 : PySem.W.nsIn K mainGlobals "range" = some none)    (z9 : PySem.W.nsIn K mainGlobals "set" = some none)    (z10 : PySem.W.nsIn K mainGlobals "sorted" = some none)    (z11 : PySem.W.nsIn K mainGlobals "str" = some none)    (z12 : PySem.W.nsIn K mainGlobals "tuple" = some none) :
    ∃ fd : FuncData, (∀ (s : Shared) (v : Value), BindsTo s fd ⟨[v], []⟩ [("script", v)]) ∧ ∀ base : Heap, K.In base → base.Ns mainGlobals mg → FnOk l.prog w K mg base CX0 15 fa fd ["script"] (spLaw K) := by
  have e := hfa.symm.trans (PySem.W.mg_of X G a15)
  cases e
  have B : Bt mg := ⟨PySem.W.mg_none_of X G z0, PySem.W.mg_none_of X G z1, PySem.W.mg_none_of X G z2, PySem.W.mg_none_of X G z3, PySem.W.mg_none_of X G z4, PySem.W.mg_none_of X G z5, PySem.W.mg_none_of X G z6, PySem.W.mg_none_of X G z7, PySem.W.mg_none_of X G z8, PySem.W.mg_none_of X G z9, PySem.W.mg_none_of X G z10, PySem.W.mg_none_of X G z11, PySem.W.mg_none_of X G z12⟩
  have u0 := fun_mk (st := top 1) l0 c0 k0
  have b0 := u0.binds (ps := ["n", "talks"]) fun _ _ _ _ _ _ us hl => match us, hl with | [_, _], _ => rfl
  have u1 := fun_mk (st := top 2) l1 c1 k1
  have b1 := u1.binds (ps := ["n", "talks"]) fun _ _ _ _ _ _ us hl => match us, hl with | [_, _], _ => rfl
  have u2 := fun_mk (st := top 3) l2 c2 k2
  have b2 := u2.binds (ps := ["n"]) fun _ _ _ _ _ _ us hl => match us, hl with | [_], _ => rfl
  have u3 := fun_mk (st := top 4) l3 c3 k3
  have b3 := u3.binds (ps := ["n"]) fun _ _ _ _ _ _ us hl => match us, hl with | [_], _ => rfl
  have u4 := fun_mk (st := top 5) l4 c4 k4
  have b4 := u4.binds (ps := ["n", "talks", "member"]) fun _ _ _ _ _ _ us hl => match us, hl with | [_, _, _], _ => rfl
  have u5 := fun_mk (st := top 6) l5 c5 k5
  have b5 := u5.binds (ps := ["n", "talks"]) fun _ _ _ _ _ _ us hl => match us, hl with | [_, _], _ => rfl
  have u6 := fun_mk (st := top 7) l6 c6 k6
  have b6 := u6.binds (ps := ["talks"]) fun _ _ _ _ _ _ us hl => match us, hl with | [_], _ => rfl
  have u7 := fun_mk (st := top 9) l7 c7 k7
  have b7 := u7.binds (ps := ["script", "many"]) fun _ _ _ _ _ _ us hl => match us, hl with | [_, _], _ => rfl
  have u8 := fun_mk (st := top 10) l8 c8 k8
  have b8 := u8.binds (ps := ["draws", "many"]) fun _ _ _ _ _ _ us hl => match us, hl with | [_, _], _ => rfl
  have u9 := fun_mk (st := top 11) l9 c9 k9
  have b9 := u9.binds (ps := ["actual", "due"]) fun _ _ _ _ _ _ us hl => match us, hl with | [_, _], _ => rfl
  have u10 := fun_mk (st := top 12) l10 c10 k10
  have b10 := u10.binds (ps := ["draws", "n", "many"]) fun _ _ _ _ _ _ us hl => match us, hl with | [_, _, _], _ => rfl
  have u11 := fun_mk (st := top 13) l11 c11 k11
  have b11 := u11.binds (ps := ["n", "talks"]) fun _ _ _ _ _ _ us hl => match us, hl with | [_, _], _ => rfl
  have u12 := fun_mk (st := top 14) l12 c12 k12
  have b12 := u12.binds (ps := ["talks"]) fun _ _ _ _ _ _ us hl => match us, hl with | [_], _ => rfl
  have u13 := fun_mk (st := top 15) l13 c13 k13
  have b13 := u13.binds (ps := ["n"]) fun _ _ _ _ _ _ us hl => match us, hl with | [_], _ => rfl
  have u14 := fun_mk (st := top 16) l14 c14 k14
  have b14 := u14.binds (ps := ["draws", "n", "talks"]) fun _ _ _ _ _ _ us hl => match us, hl with | [_, _, _], _ => rfl
  have u15 := fun_mk (st := top 17) l15 c15 k15
  have b15 := u15.binds (ps := ["script"]) fun _ _ _ _ _ _ us hl => match us, hl with | [_], _ => rfl
  refine ⟨PySem.W.fnOf "law" "law" (defArgs (top 17)) (defBody (top 17)) (defScope (top 17)) .none kV15 dc15 pm15 an15 cd15 ct15, fun s v => .of_eq rfl, fun base _ _ => ?_⟩
  have F_known_behind := ok_known_behind (P := l.prog) (w := w) (base := base) u0 (PySem.W.mg_of X G a0) b0 B 
  have F_all_know := ok_all_know (P := l.prog) (w := w) (base := base) u1 (PySem.W.mg_of X G a1) b1 B F_known_behind
  have F_fewest_talks := ok_fewest_talks (P := l.prog) (w := w) (base := base) u2 (PySem.W.mg_of X G a2) b2 B 
  have F_told_talks := ok_told_talks (P := l.prog) (w := w) (base := base) u3 (PySem.W.mg_of X G a3) b3 B 
  have F_first_known := ok_first_known (P := l.prog) (w := w) (base := base) u4 (PySem.W.mg_of X G a4) b4 B F_known_behind
  have F_needless_talks := ok_needless_talks (P := l.prog) (w := w) (base := base) u5 (PySem.W.mg_of X G a5) b5 B F_known_behind
  have F_rounds_of_talks := ok_rounds_of_talks (P := l.prog) (w := w) (base := base) u6 (PySem.W.mg_of X G a6) b6 B 
  have F_law_draws := ok_law_draws (P := l.prog) (w := w) (base := base) u7 (PySem.W.mg_of X G a7) b7 B 
  have F_law_take := ok_law_take (P := l.prog) (w := w) (base := base) u8 (PySem.W.mg_of X G a8) b8 B 
  have F_law_same := ok_law_same (P := l.prog) (w := w) (base := base) u9 (PySem.W.mg_of X G a9) b9 B 
  have F_law_talks := ok_law_talks (P := l.prog) (w := w) (base := base) u10 (PySem.W.mg_of X G a10) b10 B F_law_take
  have F_law_known := ok_law_known (P := l.prog) (w := w) (base := base) u11 (PySem.W.mg_of X G a11) b11 B 
  have F_law_rounds := ok_law_rounds (P := l.prog) (w := w) (base := base) u12 (PySem.W.mg_of X G a12) b12 B 
  have F_law_told := ok_law_told (P := l.prog) (w := w) (base := base) u13 (PySem.W.mg_of X G a13) b13 B 
  have F_law_are_talks_right := ok_law_are_talks_right (P := l.prog) (w := w) (base := base) u14 (PySem.W.mg_of X G a14) b14 B F_known_behind F_all_know F_first_known F_needless_talks F_rounds_of_talks F_law_take F_law_same F_law_known F_law_rounds
  exact law_end (ok_law_raw u15 B F_fewest_talks F_told_talks F_first_known F_needless_talks F_rounds_of_talks F_law_draws F_law_take F_law_same F_law_talks F_law_told F_law_are_talks_right) true_all
end Vl

-- Ek85
open PySem PySem.W PyProof.Rows
set_option maxRecDepth 100000 in
set_option maxHeartbeats 0 in
theorem PySem.Challenge.cw_heardbyall_k85_talks_one_by_one_holds : PySem.Challenge.rw_heardbyall_k85_talks_one_by_one.Holds := by
  w_on; o_law; k_head; (case hw => w_witness2)
  k_fill
  refine L2.walk_of (l := PySem.Challenge.rw_heardbyall_k85_talks_one_by_one) (n := 63) (k := 15) (x := "script") (CX := fun _ => L2.CX0) (sp := fun w => Vl.spLaw _) rfl (by decide) rfl ⟨rfl, by decide, by decide⟩ (fun w h Y => PySem.W.kIn_of Y) ?F (fun _ _ a ns hl _ hS => ⟨a, ns, rfl, hS, hl, fun _ => rfl⟩) (fun _ _ _ _ _ h => h)
  case F =>
    intro w mg fa h KX G hmg
    refine' Vl.all_mk KX G hmg Vl.true_all ?a0 ?l0 ?c0 ?k0 ?a1 ?l1 ?c1 ?k1 ?a2 ?l2 ?c2 ?k2 ?a3 ?l3 ?c3 ?k3 ?a4 ?l4 ?c4 ?k4 ?a5 ?l5 ?c5 ?k5 ?a6 ?l6 ?c6 ?k6 ?a7 ?l7 ?c7 ?k7 ?a8 ?l8 ?c8 ?k8 ?a9 ?l9 ?c9 ?k9 ?a10 ?l10 ?c10 ?k10 ?a11 ?l11 ?c11 ?k11 ?a12 ?l12 ?c12 ?k12 ?a13 ?l13 ?c13 ?k13 ?a14 ?l14 ?c14 ?k14 ?a15 ?l15 ?c15 ?k15 ?z0 ?z1 ?z2 ?z3 ?z4 ?z5 ?z6 ?z7 ?z8 ?z9 ?z10 ?z11 ?z12
    (case a0 => k_is); (case l0 => k_is); (case c0 => k_is); (case k0 => k_is)
    (case a1 => k_is); (case l1 => k_is); (case c1 => k_is); (case k1 => k_is)
    (case a2 => k_is); (case l2 => k_is); (case c2 => k_is); (case k2 => k_is)
    (case a3 => k_is); (case l3 => k_is); (case c3 => k_is); (case k3 => k_is)
    (case a4 => k_is); (case l4 => k_is); (case c4 => k_is); (case k4 => k_is)
    (case a5 => k_is); (case l5 => k_is); (case c5 => k_is); (case k5 => k_is)
    (case a6 => k_is); (case l6 => k_is); (case c6 => k_is); (case k6 => k_is)
    (case a7 => k_is); (case l7 => k_is); (case c7 => k_is); (case k7 => k_is)
    (case a8 => k_is); (case l8 => k_is); (case c8 => k_is); (case k8 => k_is)
    (case a9 => k_is); (case l9 => k_is); (case c9 => k_is); (case k9 => k_is)
    (case a10 => k_is); (case l10 => k_is); (case c10 => k_is); (case k10 => k_is)
    (case a11 => k_is); (case l11 => k_is); (case c11 => k_is); (case k11 => k_is)
    (case a12 => k_is); (case l12 => k_is); (case c12 => k_is); (case k12 => k_is)
    (case a13 => k_is); (case l13 => k_is); (case c13 => k_is); (case k13 => k_is)
    (case a14 => k_is); (case l14 => k_is); (case c14 => k_is); (case k14 => k_is)
    (case a15 => k_is); (case l15 => k_is); (case c15 => k_is); (case k15 => k_is)
    (case z0 => k_is); (case z1 => k_is); (case z2 => k_is); (case z3 => k_is)
    (case z4 => k_is); (case z5 => k_is); (case z6 => k_is); (case z7 => k_is)
    (case z8 => k_is); (case z9 => k_is); (case z10 => k_is); (case z11 => k_is)
    (case z12 => k_is)
